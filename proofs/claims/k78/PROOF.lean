import PyProof.Rows.All
import Wide.All
import OpenK.AllK
import Wide.FinOn
import PyProof.EqAt
import PyProof.EqKinds
import PyProof.TupleCall
import HandS.ForMost
import HandS.Walk
import HandS.Zip
import HandS.IsInst
import HandS.WideBits
import HandS.TupLe
import HandS.TupAny
import HandS.Deep
import HandS.Conv
import KE.SortData
import HandS.TupLen
import HandS.TupSets
import HandS.DictComp
import HandS.Style
import KE.KDictList
import KE.KDictWalk
import HandS.Dict
import KE.KTupSum
import KE.GoesEnum
import KE.GoesMore
import HandS.NoneIn
import HandS.SetFor
import HandS.OwnEq
import PySem.Challenge.RW_silencers_k78_whole_calls_and_rests_of_n
set_option Elab.async false
set_option linter.all false
set_option maxRecDepth 100000
set_option maxHeartbeats 4000000
/-! Ev, part A: a small language with value semantics, its evaluation. Plain data; no machine here. -/
namespace Ev
open PySem

/-- built-in classes as values -/
inductive Ty where
  | none | bool | int | str | list | tuple | dict
  deriving DecidableEq
def Ty.nm : Ty → String
  | .none => "NoneType" | .bool => "bool" | .int => "int" | .str => "str" | .list => "list" | .tuple => "tuple" | .dict => "dict"
/-- isinstance between built-in classes -/
def Ty.sub (a b : Ty) : Bool := a == b || (a == .bool && b == .int)

/-- values that never change any more -/
inductive D where
  | non | bl (b : Bool) | int (i : Int) | str (x : Str) | ty (t : Ty) | cl (c : Nat)
  | tup (xs : List D) | lst (xs : List D) | dK (ks : List L2.Key) (vs : List D) | dT (ks : List (List L2.Key)) (vs : List D) | ins (c : Nat) (fs : List (Nat × D))
  | scr (ns : List Int)
instance : Inhabited D := ⟨.non⟩
/-- values that one place alone holds: they may change -/
inductive M where
  | v (d : D) | lst (xs : List D) | dK (ks : List L2.Key) (vs : List D) | dT (ks : List (List L2.Key)) (vs : List D) | ins (c : Nat) (fs : List (Nat × M))
instance : Inhabited M := ⟨.v .non⟩
abbrev T := List (Option M)
mutual
def frz : M → D
  | .v d => d
  | .lst xs => .lst xs
  | .dK ks vs => .dK ks vs
  | .dT ks vs => .dT ks vs
  | .ins c fs => .ins c (frzF fs)
def frzF : List (Nat × M) → List (Nat × D)
  | [] => []
  | (f, m) :: r => (f, frz m) :: frzF r
end
/-- what an expression gives: a value, a new thing of one's own, a place (a slot, or a field of the thing in a slot) -/
inductive R where
  | d (d : D) | m (m : M) | pl (i : Nat) (f : Option Nat)
def R.isF : R → Bool
  | .pl _ (some _) => true
  | _ => false
def setl : R → R
  | .m m => .d (frz m)
  | r => r
def putA (f : Nat) (m : M) : List (Nat × M) → List (Nat × M)
  | [] => [(f, m)]
  | (g, n) :: r => if g = f then (f, m) :: r else (g, n) :: putA f m r
def getA (f : Nat) : List (Nat × M) → Option M
  | [] => none
  | (g, n) :: r => if g = f then some n else getA f r
def getD' (f : Nat) : List (Nat × D) → Option D
  | [] => none
  | (g, n) :: r => if g = f then some n else getD' f r
def slotM (τ : T) (i : Nat) : Option M := match τ[i]? with
  | some (some m) => some m
  | _ => none
def getP (τ : T) (i : Nat) : Option Nat → Option M
  | none => slotM τ i
  | some f => match slotM τ i with
    | some (.ins _ fs) => getA f fs
    | _ => none
def setP (τ : T) (i : Nat) (m : M) : Option Nat → T
  | none => τ.set i (some m)
  | some f => match slotM τ i with
    | some (.ins c fs) => τ.set i (some (.ins c (putA f m fs)))
    | _ => τ
/-- a thing as it is now, to be looked at alone -/
def viewM : M → Option D
  | .v d => some d
  | .lst xs => some (.lst xs)
  | .dK ks vs => some (.dK ks vs)
  | .dT ks vs => some (.dT ks vs)
  | .ins _ _ => none
def look (τ : T) : R → Option D
  | .d d => some d
  | .m m => some (frz m)
  | .pl i f => match getP τ i f with
    | some m => viewM m
    | none => none
/-- a value handed on for good; p: nothing may be changed -/
def esc (p : Bool) (τ : T) : R → Option (D × T)
  | .d d => some (d, τ)
  | .m m => some (frz m, τ)
  | .pl i f => if p then none else match getP τ i f with
    | some m => some (frz m, setP τ i (.v (frz m)) f)
    | none => none

/-! ### operations on values -/
def SL : Nat := 16777216
mutual
def toPy : D → Option PyData
  | .non => some .none
  | .bl b => some (.bool b)
  | .int i => some (.int i)
  | .str x => some (.str x)
  | .tup xs => (toPys xs).map .tuple
  | .lst xs => (toPys xs).map .list
  | _ => none
def toPys : List D → Option (List PyData)
  | [] => some []
  | x :: r => match toPy x, toPys r with
    | some y, some s => some (y :: s)
    | _, _ => none
end
def eqD (a b : D) : Option Bool := match toPy a, toPy b with
  | some x, some y => if SeqAt.shaped x && SeqAt.shaped y then some (PyData.eqv x y) else none
  | _, _ => none
def intsOf : List D → Option (List Int)
  | [] => some []
  | .int i :: r => (intsOf r).map (i :: ·)
  | _ :: _ => none
def boolsOf : List D → Option (List Bool)
  | [] => some []
  | .bl i :: r => (boolsOf r).map (i :: ·)
  | _ :: _ => none
def lexLe : List Int → List Int → Bool
  | [], _ => true
  | _ :: _, [] => false
  | x :: xs, y :: ys => if x = y then lexLe xs ys else decide (x ≤ y)
def inD (x : D) (ys : List D) : Option Bool := match toPy x, toPys ys with
  | some p, some ps => if SeqAt.shaped p && SeqAt.shaped (.list ps) then some (ps.any fun z => PyData.eqv z p) else none
  | _, _ => none
/-- a dict, by its keys and what they hold -/
def dLook {κ : Type} [DecidableEq κ] : List κ → List D → κ → Option D
  | k :: ks, d :: ds, q => if k = q then some d else dLook ks ds q
  | _, _, _ => none
def dRepl {κ : Type} [DecidableEq κ] : List κ → List D → κ → D → List D
  | k :: ks, d :: ds, q, e => (if k = q then e else d) :: dRepl ks ds q e
  | _, _, _, _ => []
def dPut {κ : Type} [DecidableEq κ] (ks : List κ) (ds : List D) (q : κ) (e : D) : List κ × List D :=
  if q ∈ ks then (ks, dRepl ks ds q e) else (ks ++ [q], ds ++ [e])
def keyD : D → Option L2.Key
  | .int i => some (.inl i)
  | .str x => some (.inr x)
  | _ => none
def keyV : L2.Key → D
  | .inl i => .int i
  | .inr x => .str x
def keysD : List D → Option (List L2.Key)
  | [] => some []
  | d :: r => match keyD d, keysD r with
    | some k, some ks => some (k :: ks)
    | _, _ => none
/-- a tuple as a key -/
def keyT : D → Option (List L2.Key)
  | .tup ds => keysD ds
  | _ => none
/-- a display of one pair -/
def dctR (t : Bool) (x y : D) : Option R := if t = true then (keyT x).map fun q => .m (.dT [q] [y]) else (keyD x).map fun q => .m (.dK [q] [y])
def binD (op : Operator) (a b : D) : Option R := match op, a, b with
  | .Add, .int i, .int j => some (.d (.int (i + j)))
  | .Sub, .int i, .int j => some (.d (.int (i - j)))
  | .Mult, .int i, .int j => if (-(2 ^ 64) < i ∧ i < 2 ^ 64) ∨ (-(2 ^ 64) < j ∧ j < 2 ^ 64) then some (.d (.int (i * j))) else none
  | .FloorDiv, .int i, .int j => if 0 < j ∧ j < 1073741824 then some (.d (.int (i / j))) else none
  | .Mod, .int i, .int j => if 0 < j then some (.d (.int (i % j))) else none
  | .Pow, .int i, .int j => if 0 ≤ j ∧ j ≤ 1000000 ∧ i.natAbs < 2 ^ 64 then some (.d (.int (i ^ j.toNat))) else none
  | .LShift, .int i, .int j => if 0 ≤ j ∧ j ≤ 1000000 ∧ i.natAbs < 2 ^ 64 then some (.d (.int (i * 2 ^ j.toNat))) else none
  | .RShift, .int i, .int j => if 0 ≤ j then some (.d (.int (i / 2 ^ j.toNat))) else none
  | .BitAnd, .int i, .int j => some (.d (.int (Builtin.bitAnd i j)))
  | .BitOr, .int i, .int j => some (.d (.int (Builtin.bitOr i j)))
  | .BitXor, .int i, .int j => some (.d (.int (Builtin.bitXor i j)))
  | .Add, .str x, .str y => if x.length + y.length ≤ SL then some (.d (.str (x ++ y))) else none
  | .Add, .tup xs, .tup ys => if xs.length + ys.length ≤ SL then some (.d (.tup (xs ++ ys))) else none
  | .Add, .lst xs, .lst ys => if xs.length + ys.length ≤ SL then some (.m (.lst (xs ++ ys))) else none
  | .Mult, .lst xs, .int k => if -(2 ^ 63) ≤ k ∧ k < 2 ^ 63 ∧ xs.length * k.toNat ≤ SL then some (.m (.lst (List.replicate k.toNat xs).flatten)) else none
  | _, _, _ => none
def unD (op : UnaryOp) (a : D) : Option D := match op, a with
  | .USub, .int i => some (.int (-i))
  | .Invert, .int i => some (.int (Builtin.bitNot i))
  | _, _ => none
def isNon : D → Bool
  | .non => true
  | _ => false
def cmpD (op : CmpOp) (a b : D) : Option Bool := match op with
  | .Lt => (match a, b with
    | .int i, .int j => some (decide (i < j))
    | .tup xs, .tup ys => (match intsOf xs, intsOf ys with
      | some ns, some ms => some (!lexLe ms ns)
      | _, _ => none)
    | _, _ => none)
  | .LtE => (match a, b with
    | .int i, .int j => some (decide (i ≤ j))
    | .tup xs, .tup ys => (match intsOf xs, intsOf ys with
      | some ns, some ms => some (lexLe ns ms)
      | _, _ => none)
    | _, _ => none)
  | .Gt => (match a, b with
    | .int i, .int j => some (decide (j < i))
    | _, _ => none)
  | .GtE => (match a, b with
    | .int i, .int j => some (decide (j ≤ i))
    | _, _ => none)
  | .Eq => eqD a b
  | .NotEq => (eqD a b).map (!·)
  | .Is => (match b with
    | .non => some (isNon a)
    | .bl y => (match a with
      | .bl x => some (x == y)
      | _ => none)
    | _ => none)
  | .IsNot => (match b with
    | .non => some (!isNon a)
    | .bl y => (match a with
      | .bl x => some (!(x == y))
      | _ => none)
    | _ => none)
  | .In => (match b with
    | .lst xs => inD a xs
    | .tup xs => inD a xs
    | .dK ks ds => (keyD a).map fun k => (dLook ks ds k).isSome
    | .dT ks ds => (keyT a).map fun k => (dLook ks ds k).isSome
    | _ => none)
  | .NotIn => (match b with
    | .lst xs => (inD a xs).map (!·)
    | .tup xs => (inD a xs).map (!·)
    | .dK ks ds => (keyD a).map fun k => !(dLook ks ds k).isSome
    | .dT ks ds => (keyT a).map fun k => !(dLook ks ds k).isSome
    | _ => none)
def tyOfD : D → Option Ty
  | .non => some .none
  | .bl _ => some .bool
  | .int _ => some .int
  | .str _ => some .str
  | .tup _ => some .tuple
  | .lst _ => some .list
  | .dK _ _ => some .dict
  | .dT _ _ => some .dict
  | _ => none
def isiAll (t : Ty) : List D → Option Bool
  | [] => some false
  | .ty u :: r => match isiAll t r with
    | some b => some (t.sub u || b)
    | none => none
  | _ :: _ => none
def isTyD : D → Bool
  | .ty _ => true
  | _ => false
def insD : D → Option Nat
  | .ins c _ => some c
  | _ => none
def isiD (x c : D) : Option Bool := match insD x with
  | some k => (match c with
    | .ty _ => some false
    | .cl j => some (j == k)
    | .tup cs => if cs.all isTyD = true then some false else none
    | _ => none)
  | none => (match tyOfD x, c with
    | some t, .ty u => some (t.sub u)
    | some _, .cl _ => some false
    | some t, .tup cs => isiAll t cs
    | _, _ => none)
def nub {α : Type} [DecidableEq α] : List α → List α
  | [] => []
  | x :: r => if x ∈ r then nub r else x :: nub r
/-- without repetition, sorted -/
def setI (ns : List Int) : List Int := (nub ns).mergeSort fun a b => decide (a ≤ b)
def setT (ts : List (List Int)) : List (List Int) := (nub ts).mergeSort fun a b => decide (a ≤ b)
def tupsOf : List D → Option (List (List Int))
  | [] => some []
  | .tup xs :: r => match intsOf xs, tupsOf r with
    | some ns, some ts => some (ns :: ts)
    | _, _ => none
  | _ :: _ => none
/-- sorted(set(xs)) -/
def ssetD (xs : List D) : Option (List D) := if xs.length < 4000 then match intsOf xs with
  | some ns => some ((setI ns).map .int)
  | none => (tupsOf xs).map fun ts => (setT ts).map fun t => .tup (t.map .int)
  else none
def nsetD (xs : List D) : Option Nat := if xs.length < 4000 then match intsOf xs with
  | some ns => some (nub ns).length
  | none => (tupsOf xs).map fun ts => (nub ts).length
  else none
def lexI (x y : D) : Bool := PySem.W.dataLe false (fun d => (toPy d).getD .none) x y
def headed : PyData → Bool
  | .tuple _ => true
  | _ => false
def notTup : PyData → Bool
  | .none => false
  | .tuple _ => false
  | _ => true
def sortD (xs : List D) : Option (List D) := match toPys xs with
  | some ps => if xs.length ≤ SL ∧ (ps.all fun p => ps.all fun q => PySem.W.alike p q) = true ∧ (ps.all headed = true ∨ ps.all notTup = true) ∧ (ps.all fun p => decide (p.depth ≤ 8)) = true
    then some (xs.mergeSort lexI) else none
  | none => none
inductive Blt where
  | len | isi | int | min2 | max2 | abs | tuple | list | sorted | all | any | sum | max1 | min1 | repr
  deriving DecidableEq
/-- data whose repr is told: no string by itself, no dict, not too long -/
def okR (p : PyData) : Bool := match p with
  | .str _ => false
  | p => p.showable && !p.hasDict && decide (p.depth ≤ 60) && decide (p.shown.length ≤ SL)
def reprD (d : D) : Option R := match toPy d with
  | some p => if okR p = true then some (.d (.str p.shown)) else none
  | none => none
def bltD (f : Blt) (vs : List D) : Option R := match f, vs with
  | .repr, [d] => reprD d
  | .len, [.lst xs] => some (.d (.int xs.length))
  | .len, [.tup xs] => some (.d (.int xs.length))
  | .isi, [x, c] => (isiD x c).map fun b => .d (.bl b)
  | .int, [.int i] => some (.d (.int i))
  | .int, [.bl b] => some (.d (.int (if b then 1 else 0)))
  | .min2, [.int i, .int j] => some (.d (.int (if j < i then j else i)))
  | .max2, [.int i, .int j] => some (.d (.int (if j > i then j else i)))
  | .abs, [.int i] => some (.d (.int (if i < 0 then -i else i)))
  | .tuple, [.lst xs] => some (.d (.tup xs))
  | .tuple, [.tup xs] => some (.d (.tup xs))
  | .list, [.lst xs] => some (.m (.lst xs))
  | .list, [.tup xs] => some (.m (.lst xs))
  | .list, [.scr ns] => some (.m (.lst (ns.map .int)))
  | .list, [.dK ks _] => some (.m (.lst (ks.map keyV)))
  | .list, [.dT ks _] => some (.m (.lst (ks.map fun k => .tup (k.map keyV))))
  | .len, [.scr ns] => some (.d (.int ns.length))
  | .len, [.dK ks ds] => some (.d (.int ds.length))
  | .len, [.dT ks ds] => some (.d (.int ds.length))
  | .sorted, [.lst xs] => (sortD xs).map fun ys => .m (.lst ys)
  | .sorted, [.tup xs] => (sortD xs).map fun ys => .m (.lst ys)
  | .all, [.lst xs] => (boolsOf xs).map fun bs => .d (.bl (bs.all id))
  | .any, [.lst xs] => (boolsOf xs).map fun bs => .d (.bl (bs.any id))
  | .sum, [.lst xs] => (intsOf xs).map fun ns => .d (.int ns.sum)
  | .sum, [.tup xs] => (intsOf xs).map fun ns => .d (.int ns.sum)
  | .max1, [.lst xs] => (match intsOf xs with
    | some (n :: ns) => some (.d (.int (ns.foldl max n)))
    | _ => none)
  | .min1, [.lst xs] => (match intsOf xs with
    | some (n :: ns) => some (.d (.int (ns.foldl min n)))
    | _ => none)
  | _, _ => none
/-- the first place of an equal one -/
def ixOfD (x : D) (ys : List D) : Option Nat := match toPy x, toPys ys with
  | some p, some ps => if SeqAt.shaped p && SeqAt.shaped (.list ps) then ps.findIdx? (fun z => PyData.eqv z p) else none
  | _, _ => none
def idxD (a b : D) : Option D := match a, b with
  | .lst xs, .int i => L2.atI xs i
  | .tup xs, .int i => L2.atI xs i
  | .dK ks ds, y => (match keyD y with
    | some k => dLook ks ds k
    | none => none)
  | .dT ks ds, y => (match keyT y with
    | some k => dLook ks ds k
    | none => none)
  | .scr ns, .int i => L2.atI (ns.map .int) i
  | _, _ => none
def cutD (xs : List D) (lo hi : Option Int) : List D := (xs.drop (HT.sIx xs.length 0 lo)).take (HT.sIx xs.length xs.length hi - HT.sIx xs.length 0 lo)
def cutI (xs : List Int) (lo hi : Option Int) : List Int := (xs.drop (HT.sIx xs.length 0 lo)).take (HT.sIx xs.length xs.length hi - HT.sIx xs.length 0 lo)
def slcP (a : D) (l h : Option Int) : Option R := match a with
  | .scr ns => some (.m (.lst ((cutI ns l h).map .int)))
  | .lst xs => some (.m (.lst (cutD xs l h)))
  | .tup xs => some (.d (.tup (cutD xs l h)))
  | _ => none
/-- methods of built-in classes that change a list -/
inductive Bm where
  | append | pop0 | popAt | extend
  deriving DecidableEq
def bmD (m : Bm) (xs : List D) (vs : List D) : Option (D × List D) := match m, vs with
  | .append, [d] => if xs.length < SL then some (.non, xs ++ [d]) else none
  | .pop0, [] => (xs[xs.length - 1]?).map fun d => (d, xs.dropLast)
  | .popAt, [.int i] => if -(2 ^ 63) ≤ i ∧ i < 2 ^ 63 then (match seqIndex? i xs.length with
    | some k => (xs[k]?).map fun d => (d, xs.eraseIdx k)
    | none => none) else none
  | .extend, [.lst ys] => if xs.length + ys.length ≤ SL then some (.non, xs ++ ys) else none
  | _, _ => none

/-- a thing stored in a list, in a dict -/
def setIx : M → D → D → Option M
  | .lst xs, .int j, d => match L2.ixN xs.length j with
    | some q => some (.lst (xs.set q d))
    | none => none
  | .dK ks vs, y, d => match keyD y with
    | some q => if vs.length < SL then some (.dK (dPut ks vs q d).1 (dPut ks vs q d).2) else none
    | none => none
  | .dT ks vs, y, d => match keyT y with
    | some q => if vs.length < SL then some (.dT (dPut ks vs q d).1 (dPut ks vs q d).2) else none
    | none => none
  | _, _, _ => none
/-! ### the language -/
mutual
inductive Tg where
  | one (i : Nat) | tup (ts : Tgs)
inductive Tgs where
  | nil | cons (t : Tg) (r : Tgs)
end
def Tgs.len : Tgs → Nat
  | .nil => 0
  | .cons _ r => r.len + 1
mutual
inductive CE where
  | k (d : D) | s (i : Nat) | g (i : Nat)
  | bin (op : Operator) (a b : CE) | un (op : UnaryOp) (a : CE) | cmp (op : CmpOp) (a b : CE) | chain (o1 o2 : CmpOp) (a b c : CE)
  | and (a b : CE) | or (a b : CE) | not (a : CE) | ife (t : CT) (a b : CE)
  | tup (es : CEs) | lst (es : CEs)
  | call (f : Nat) (es : CEs) | mk (c : Nat) (es : CEs)
  | blt (f : Blt) (es : CEs) | um (m : Nat) (o : CE) (es : CEs) | bm (m : Bm) (o : CE) (es : CEs) | bits (o : CE)
  | idx (a b : CE) | slc (a lo hi : CE) | fld (a : CE) (f : Nat)
  | lc (own : List Nat) (tg : Tg) (it : CI) (t : CT) (elt : CE)
  | lrng (it : CI) | trng (it : CI)
  | rev (a : CE)
  | sset (b : Bool) (a : CE)
  | oeq (ne : Bool) (es : CEs)
  | teq (ne : Bool) (ci : Nat) (es : CEs)
  | dct (t : Bool) | dct1 (t : Bool) (k v : CE) | kidx (a : CE) (es : CEs) | kin (neg : Bool) (es : CEs) (a : CE) | dget (o k x : CE) | ixof (o x : CE) | pcall (f : Nat) (es : CEs) | call1 (f : Nat) (a : CE) | callM (f : Nat) (a : CE) (es : CEs) | frz (a : CE)
  | lc2 (own own1 : List Nat) (tg : Tg) (it : CI) (tg1 : Tg) (it1 : CI) (t : CT) (elt : CE)
inductive CEs where
  | nil | cons (e : CE) (r : CEs)
/-- tests -/
inductive CT where
  | yes | e (e : CE) | and (a b : CT) | or (a b : CT) | not (a : CT)
inductive CI where
  | e (e : CE) | rng1 (a : CE) | rng2 (a b : CE) | enum (a : CE) | zip (a b : CE)
end
mutual
inductive CS where
  | set (i : Nat) (e : CE) | setM (is : List Nat) (es : CEs) | setT (tg : Tg) (e : CE) | par (i j : Nat) (a b : CE)
  | aug (i : Nat) (op : Operator) (e : CE) | fset (i f : Nat) (e : CE) | iset (i : Nat) (k e : CE) | fiset (i f : Nat) (k e : CE)
  | kset (i : Nat) (f : Option Nat) (es : CEs) (e : CE) | bad
  | ex (e : CE) | ret (e : CE) | retN | pass | brk | cont
  | ite (t : CT) (a b : CSs) | whl (t : CT) (b : CSs) | loop (tg : Tg) (it : CI) (b : CSs)
inductive CSs where
  | nil | cons (e : CS) (r : CSs)
end

/-- how a statement ends -/
inductive Fl where
  | nx (τ : T) | bk (τ : T) | ct (τ : T) | ret (m : M) (τ : T)

structure Fn where
  np : Nat
  ns : Nat
  io : List Nat
  body : CSs
structure Cl where
  init : Nat
  ms : List (Nat × Nat)
  fl : List Nat
  eq : Option Nat := none
structure GS where
  fns : List (Nat × Fn)
  cls : List (Nat × Cl)
  consts : List D

def isV : M → Bool
  | .v _ => true
  | _ => false
/-- the arguments of a call: values, and places that are handed over (their slots are empty meanwhile) -/
def takeA (p : Bool) (io : List Nat) : Nat → List R → T → Option (List M × List (Option Nat) × T)
  | _, [], τ => some ([], [], τ)
  | k, .pl i none :: rs, τ => if p then none else if io.contains k then
      (match slotM τ i with
      | some m => (takeA p io (k + 1) rs (τ.set i none)).map fun (ms, is, τ') => (m :: ms, some i :: is, τ')
      | none => none)
    else (match esc p τ (.pl i none) with
      | some (d, τ1) => (takeA p io (k + 1) rs τ1).map fun (ms, is, τ') => (.v d :: ms, none :: is, τ')
      | none => none)
  | k, r :: rs, τ => match esc p τ r with
    | some (d, τ1) => (takeA p io (k + 1) rs τ1).map fun (ms, is, τ') => (.v d :: ms, none :: is, τ')
    | none => none
def giveA : List (Option Nat) → List M → T → T
  | some i :: is, m :: ms, τ => giveA is ms (τ.set i (some m))
  | none :: is, _ :: ms, τ => giveA is ms τ
  | _, _, τ => τ
def resR : M → R
  | .v d => .d d
  | m => .m m
/-- a thing as it is now, with all it holds -/
def lookZ (τ : T) : R → Option D
  | .d d => some d
  | .m m => some (frz m)
  | .pl i f => (getP τ i f).map frz
/-- a result that leads to no thing -/
def sclM : M → Option D
  | .v .non => some .non
  | .v (.bl b) => some (.bl b)
  | .v (.int i) => some (.int i)
  | .v (.str x) => some (.str x)
  | _ => none
/-- what a call leaves of the things that were handed over -/
def outs (io : List Nat) : Nat → List M → T → Option (List M)
  | _, [], _ => some []
  | k, .v d :: as, _ :: τ => (outs io (k + 1) as τ).map (.v d :: ·)
  | k, _ :: as, some m :: τ => if io.contains k then (outs io (k + 1) as τ).map (m :: ·) else none
  | _, _, _ => none

/-- the class of what a method is called of -/
def recvC (τ : T) (m : Nat) : R → Option Nat
  | .d (.ins c fs) => if (getD' m fs).isNone then some c else none
  | .m (.ins c fs) => if (getA m fs).isNone then some c else none
  | .pl i none => match slotM τ i with
    | some (.ins c fs) => if (getA m fs).isNone then some c else none
    | _ => none
  | _ => none
abbrev Caller := Nat → List M → Option (M × List M)
mutual
def bindTg (io : List Nat) : Tg → D → T → Option T
  | .one i, d, τ => if io.contains i then none else some (τ.set i (some (.v d)))
  | .tup ts, d, τ => match d with
    | .tup ds => if ds.length = ts.len then bindTgs io ts ds τ else none
    | .lst ds => if ds.length = ts.len then bindTgs io ts ds τ else none
    | _ => none
def bindTgs (io : List Nat) : Tgs → List D → T → Option T
  | .nil, _, τ => some τ
  | .cons t r, d :: ds, τ => match bindTg io t d τ with
    | some τ1 => bindTgs io r ds τ1
    | none => none
  | .cons _ _, [], _ => none
end
/-- a comprehension's own names are hidden from the slots, then these come back -/
def hideO : List Nat → T → Option T
  | [], τ => some τ
  | i :: is, τ => match hideO is τ with
    | some τ' => (match τ'[i]? with
      | some none => some τ'
      | some (some (.v _)) => some (τ'.set i none)
      | _ => none)
    | none => none
def backO (τ0 : T) : List Nat → T → T
  | [], τ => τ
  | i :: is, τ => (backO τ0 is τ).set i ((τ0[i]?).getD none)
def rngD (a b : Int) : List D := (List.range (b - a).toNat).map fun (k : Nat) => .int (a + (k : Int))
def enumD : Nat → List D → List D
  | _, [] => []
  | k, x :: r => .tup [.int k, x] :: enumD (k + 1) r
def zipD : List D → List D → List D
  | x :: xs, y :: ys => .tup [x, y] :: zipD xs ys
  | _, _ => []
def rngOk (a b : Int) : Bool := decide (-(2 ^ 62) ≤ a ∧ a < 2 ^ 62 ∧ -(2 ^ 62) ≤ b ∧ b < 2 ^ 62)
def compL (g : D → T → Option T) (t : T → Option (Bool × T)) (e : T → Option (D × T)) (own : List Nat) : List D → List D → T → Option (List D × T)
  | [], acc, τ => some (acc, τ)
  | x :: xs, acc, τ => match g x τ with
    | none => none
    | some τ1 => match t τ1 with
      | none => none
      | some (b, τ2) => match b with
        | false => (match hideO own τ2 with
          | some τ3 => compL g t e own xs acc τ3
          | none => none)
        | true => match e τ2 with
          | none => none
          | some (d, τ3) => if acc.length < SL then (match hideO own τ3 with
            | some τ4 => compL g t e own xs (acc ++ [d]) τ4
            | none => none) else none
/-- a comprehension of two clauses -/
def compL2 (g : D → T → Option T) (it : T → Option (List D × T)) (inner : List D → List D → T → Option (List D × T)) (own own1 : List Nat) : List D → List D → T → Option (List D × T)
  | [], acc, τ => some (acc, τ)
  | x :: xs, acc, τ => match g x τ with
    | none => none
    | some τ1 => match it τ1 with
      | none => none
      | some (ys, τ2) => match hideO own1 τ2 with
        | none => none
        | some τ3 => match inner ys acc τ3 with
          | none => none
          | some (acc', τ4) => match hideO own τ4 with
            | none => none
            | some τ5 => compL2 g it inner own own1 xs acc' τ5
def isNonK : CE → Bool
  | .k .non => true
  | _ => false
def seqLT : Option D → Option (List D)
  | some (.lst xs) => some xs
  | some (.tup xs) => some xs
  | _ => none
/-- two things of no own class are compared as things -/
def eqPl (ne : Bool) : List D → Option Bool
  | [x, y] => cmpD (if ne = true then .NotEq else .Eq) x y
  | _ => none
/-- the own == of two instances -/
def eqDef (G : GS) : List D → Option Nat
  | [.ins c _, .ins _ _] => match G.cls.lookup c with
    | some k => k.eq
    | none => none
  | _ => none
def eqOf (G : GS) (ci : Nat) : Option Nat := match G.cls.lookup ci with
  | some k => k.eq
  | none => none
/-- two things are equal by the own __eq__ (f) of their class ci, or as plain data -/
def ownT (cl : Caller) (f ci : Nat) (x y : D) : Bool := match x, y with
  | .ins i _, .ins j _ => decide (i = ci) && decide (j = ci) && (match cl f [.v x, .v y] with
    | some (.v (.bl b), _) => b
    | _ => false)
  | _, _ => decide (eqD x y = some true)
def pairsT (cl : Caller) (f ci : Nat) : List D → List D → Bool
  | [], [] => true
  | x :: xs, y :: ys => ownT cl f ci x y && pairsT cl f ci xs ys
  | _, _ => false
/-- two tuples of such things -/
def teqD (G : GS) (cl : Caller) (ci : Nat) : List D → Bool
  | [.tup xs, .tup ys] => (match eqOf G ci with
    | some f => pairsT cl f ci xs ys
    | none => false)
  | _ => false
section
variable (G : GS) (cl : Caller)
mutual
def evE (p : Bool) : CE → T → Option (R × T)
  | .k d, τ => some (.d d, τ)
  | .s i, τ => match slotM τ i with
    | some (.v d) => some (.d d, τ)
    | some _ => some (.pl i none, τ)
    | none => none
  | .g i, τ => match G.consts[i]? with
    | some d => some (.d d, τ)
    | none => none
  | .bin op a b, τ => match evE p a τ with
    | none => none
    | some (ra, τ1) => match evE (p || ra.isF) b τ1 with
      | none => none
      | some (rb, τ2) => match look τ2 (setl ra), look τ2 (setl rb) with
        | some x, some y => (binD op x y).map fun r => (r, τ2)
        | _, _ => none
  | .un op a, τ => match evE p a τ with
    | none => none
    | some (ra, τ1) => match look τ1 (setl ra) with
      | some x => (unD op x).map fun d => (.d d, τ1)
      | none => none
  | .cmp op a b, τ => match evE p a τ with
    | none => none
    | some (ra, τ1) => match evE (p || ra.isF) b τ1 with
      | none => none
      | some (rb, τ2) => match look τ2 (setl ra), look τ2 (setl rb) with
        | some x, some y => (cmpD op x y).map fun k => (.d (.bl k), τ2)
        | _, _ => none
  | .chain o1 o2 a b c, τ => match evE p a τ with
    | some (.d x, τ1) => (match evE p b τ1 with
      | some (.d y, τ2) => (match cmpD o1 x y with
        | some false => some (.d (.bl false), τ2)
        | some true => (match evE p c τ2 with
          | some (.d z, τ3) => (cmpD o2 y z).map fun k => (.d (.bl k), τ3)
          | _ => none)
        | none => none)
      | _ => none)
    | _ => none
  | .and a b, τ => match evE p a τ with
    | some (.d (.bl true), τ1) => evE p b τ1
    | some (.d (.bl false), τ1) => some (.d (.bl false), τ1)
    | _ => none
  | .or a b, τ => match evE p a τ with
    | some (.d (.bl false), τ1) => evE p b τ1
    | some (.d (.bl true), τ1) => some (.d (.bl true), τ1)
    | _ => none
  | .not a, τ => match evE p a τ with
    | some (.d (.bl b), τ1) => some (.d (.bl (!b)), τ1)
    | _ => none
  | .ife t a b, τ => match evT p t τ with
    | some (true, τ1) => evE p a τ1
    | some (false, τ1) => evE p b τ1
    | none => none
  | .tup es, τ => match evX p es τ with
    | some (ds, τ1) => if ds.length ≤ SL then some (.d (.tup ds), τ1) else none
    | none => none
  | .lst es, τ => match evX p es τ with
    | some (ds, τ1) => if ds.length ≤ SL then some (.m (.lst ds), τ1) else none
    | none => none
  | .call f es, τ => match evL p es τ with
    | none => none
    | some (rs, τ1) => match G.fns.lookup f with
      | none => none
      | some fn => match takeA p fn.io 0 rs τ1 with
        | none => none
        | some (ms, is, τ2) => match cl f ms with
          | none => none
          | some (m, os) => some (resR m, giveA is os τ2)
  | .mk c es, τ => match evL p es τ with
    | none => none
    | some (rs, τ1) => match G.cls.lookup c with
      | none => none
      | some k => match G.fns.lookup k.init with
        | none => none
        | some fn => match takeA p fn.io 1 rs τ1 with
          | none => none
          | some (ms, is, τ2) => match cl k.init (.ins c [] :: ms) with
            | some (.v .non, s :: os) => some (.m s, giveA is os τ2)
            | _ => none
  | .blt f es, τ => match evL p es τ with
    | none => none
    | some (rs, τ1) => match rs.mapM (look τ1) with
      | none => none
      | some vs => (bltD f vs).map fun r => (r, τ1)
  | .um m o es, τ => match evE p o τ with
    | none => none
    | some (ro, τ1) => match recvC τ1 m ro with
      | none => none
      | some c => match G.cls.lookup c with
        | none => none
        | some k => match k.ms.lookup m with
          | none => none
          | some f => match G.fns.lookup f with
            | none => none
            | some fn => match evL p es τ1 with
              | none => none
              | some (rs, τ2) => match ro with
                | .d d => (match takeA p fn.io 1 rs τ2 with
                  | none => none
                  | some (ms, is, τ3) => match cl f (.v d :: ms) with
                    | some (r, _ :: os) => some (resR r, giveA is os τ3)
                    | _ => none)
                | .m m' => if p then none else (match takeA p fn.io 1 rs τ2 with
                  | none => none
                  | some (ms, is, τ3) => match cl f (m' :: ms) with
                    | some (r, _ :: os) => some (resR r, giveA is os τ3)
                    | _ => none)
                | .pl i none => (match takeA p fn.io 0 (.pl i none :: rs) τ2 with
                  | none => none
                  | some (ms, is, τ3) => match cl f ms with
                    | some (r, os) => some (resR r, giveA is os τ3)
                    | none => none)
                | .pl _ (some _) => none
  | .bm m o es, τ => match evE p o τ with
    | some (.pl i f, τ1) => if p then none else (match getP τ1 i f with
      | some (.lst _) => (match evX f.isSome es τ1 with
        | none => none
        | some (ds, τ2) => match getP τ2 i f with
          | some (.lst xs) => (match bmD m xs ds with
            | some (d, ys) => some (.d d, setP τ2 i (.lst ys) f)
            | none => none)
          | _ => none)
      | _ => none)
    | _ => none
  | .bits o, τ => match evE p o τ with
    | some (.d (.int i), τ1) => some (.d (.int (Builtin.Int.intBits i : Nat)), τ1)
    | _ => none
  | .idx a b, τ => match evE p a τ with
    | none => none
    | some (ra, τ1) => match evE (p || ra.isF) b τ1 with
      | none => none
      | some (rb, τ2) => match look τ2 (setl ra), look τ2 (setl rb) with
        | some x, some y => (idxD x y).map fun r => (.d r, τ2)
        | _, _ => none
  | .slc a lo hi, τ => match evE p a τ with
    | none => none
    | some (ra, τ1) => match (if isNonK lo then some (none, τ1) else (match evE (p || ra.isF) lo τ1 with
        | some (.d (.int l), τ2) => some (some l, τ2)
        | _ => none)) with
      | none => none
      | some (l, τ2) => match (if isNonK hi then some (none, τ2) else (match evE (p || ra.isF) hi τ2 with
          | some (.d (.int h), τ3) => some (some h, τ3)
          | _ => none)) with
        | none => none
        | some (h, τ3) => match look τ3 (setl ra) with
          | some x => (slcP x l h).map fun r => (r, τ3)
          | none => none
  | .fld a f, τ => match evE p a τ with
    | some (.d (.ins _ fs), τ1) => (getD' f fs).map fun d => (.d d, τ1)
    | some (.pl i none, τ1) => (match getP τ1 i (some f) with
      | some (.v d) => some (.d d, τ1)
      | some _ => some (.pl i (some f), τ1)
      | none => none)
    | _ => none
  | .lc own tg it t elt, τ => if p then none else match evI p it τ with
    | none => none
    | some (xs, τ1) => match hideO own τ1 with
      | none => none
      | some τ2 => match compL (bindTg [] tg) (evT p t) (fun t => match evE p elt t with
          | some (r, t') => esc p t' r
          | none => none) own xs [] τ2 with
        | none => none
        | some (ds, τ3) => some (.m (.lst ds), backO τ1 own τ3)
  | .lrng it, τ => match evI p it τ with
    | some (xs, τ1) => if xs.length ≤ SL then some (.m (.lst xs), τ1) else none
    | none => none
  | .trng it, τ => match evI p it τ with
    | some (xs, τ1) => if xs.length ≤ SL then some (.d (.tup xs), τ1) else none
    | none => none
  | .rev a, τ => match evE p a τ with
    | none => none
    | some (ra, τ1) => match look τ1 (setl ra) with
      | some (.lst xs) => some (.m (.lst xs.reverse), τ1)
      | some (.tup xs) => some (.d (.tup xs.reverse), τ1)
      | _ => none
  | .sset b a, τ => match evE p a τ with
    | none => none
    | some (ra, τ1) => match seqLT (look τ1 (setl ra)) with
      | none => none
      | some xs => if b = true then (ssetD xs).map fun ys => (.m (.lst ys), τ1) else (nsetD xs).map fun n => (.d (.int n), τ1)
  | .oeq ne es, τ => match evX p es τ with
    | none => none
    | some (ds, τ1) => match eqDef G ds with
      | none => (eqPl ne ds).map fun b => (.d (.bl b), τ1)
      | some f => match cl f (ds.map .v) with
        | some (.v (.bl r), _) => some (.d (.bl (if ne then !r else r)), τ1)
        | _ => none
  | .teq ne ci es, τ => match evX p es τ with
    | none => none
    | some (ds, τ1) => if teqD G cl ci ds = true then some (.d (.bl (!ne)), τ1) else (eqPl ne ds).map fun b => (.d (.bl b), τ1)
  | .dct t, τ => some (.m (if t then .dT [] [] else .dK [] []), τ)
  | .dct1 t k v, τ => match evE p k τ with
    | none => none
    | some (rk, τ1) => match esc p τ1 rk with
      | none => none
      | some (x, τ2) => match evE p v τ2 with
        | none => none
        | some (rv, τ3) => match esc p τ3 rv with
          | none => none
          | some (y, τ4) => (dctR t x y).map fun r => (r, τ4)
  | .kidx a es, τ => match evE p a τ with
    | none => none
    | some (ra, τ1) => match evX (p || ra.isF) es τ1 with
      | none => none
      | some (ds, τ2) => match look τ2 (setl ra), keysD ds with
        | some (.dT ks vs), some k => if ds.length ≤ SL then (dLook ks vs k).map fun d => (.d d, τ2) else none
        | _, _ => none
  | .kin neg es a, τ => match evX p es τ with
    | none => none
    | some (ds, τ1) => match evE p a τ1 with
      | none => none
      | some (ra, τ2) => match look τ2 (setl ra), keysD ds with
        | some (.dT ks vs), some k => if ds.length ≤ SL then some (.d (.bl (if neg then !(dLook ks vs k).isSome else (dLook ks vs k).isSome)), τ2) else none
        | _, _ => none
  | .dget o k x, τ => match evE p o τ with
    | none => none
    | some (ro, τ1) => match look τ1 (setl ro) with
      | some (.dK _ _) => (match evE (p || ro.isF) k τ1 with
        | none => none
        | some (rk, τ2) => match evE ((p || ro.isF) || rk.isF) x τ2 with
          | none => none
          | some (rx, τ3) => match look τ3 (setl ro), look τ3 (setl rk), setl rx with
            | some (.dK ks vs), some y, .d d => (match keyD y with
              | some q => some (.d ((dLook ks vs q).getD d), τ3)
              | none => none)
            | _, _, _ => none)
      | _ => none
  | .ixof o x, τ => match evE p o τ with
    | none => none
    | some (ro, τ1) => match look τ1 (setl ro) with
      | some (.lst _) => (match evE (p || ro.isF) x τ1 with
        | none => none
        | some (rx, τ2) => match look τ2 (setl ro), look τ2 (setl rx) with
          | some (.lst ys), some y => (ixOfD y ys).map fun j => (.d (.int (j : Nat)), τ2)
          | _, _ => none)
      | _ => none
  | .pcall f es, τ => match evL p es τ with
    | none => none
    | some (rs, τ1) => match rs.mapM (lookZ τ1) with
      | none => none
      | some ds => match cl f (ds.map .v) with
        | none => none
        | some (m, _) => (sclM m).map fun d => (.d d, τ1)
  | .lc2 own own1 tg it tg1 it1 t elt, τ => if p then none else match evI p it τ with
    | none => none
    | some (xs, τ1) => match hideO own τ1 with
      | none => none
      | some τ2 => match compL2 (bindTg [] tg) (fun t => evI p it1 t) (compL (bindTg [] tg1) (evT p t) (fun t => match evE p elt t with
          | some (r, t') => esc p t' r
          | none => none) own1) own own1 xs [] τ2 with
        | none => none
        | some (ds, τ3) => some (.m (.lst ds), backO τ1 own τ3)
  | .frz a, τ => match evE p a τ with
    | none => none
    | some (r, τ1) => some (setl r, τ1)
  | .callM f a es, τ => if p then none else match evE p a τ with
    | some (.m m, τ1) => (match evL p es τ1 with
      | none => none
      | some (rs, τ2) => match G.fns.lookup f with
        | none => none
        | some fn => match takeA p fn.io 1 rs τ2 with
          | none => none
          | some (ms, is, τ3) => match cl f (m :: ms) with
            | some (r, _ :: os) => some (resR r, giveA is os τ3)
            | _ => none)
    | _ => none
  | .call1 f a, τ => if p then none else match evE p a τ with
    | some (.m m, τ1) => (match cl f [m] with
      | none => none
      | some (r, _) => some (resR r, τ1))
    | _ => none
/-- values, each handed on for good -/
def evX (p : Bool) : CEs → T → Option (List D × T)
  | .nil, τ => some ([], τ)
  | .cons e r, τ => match evE p e τ with
    | none => none
    | some (x, τ1) => match esc p τ1 x with
      | none => none
      | some (d, τ2) => (evX p r τ2).map fun (ds, τ3) => (d :: ds, τ3)
/-- operands -/
def evL (p : Bool) : CEs → T → Option (List R × T)
  | .nil, τ => some ([], τ)
  | .cons e r, τ => match evE p e τ with
    | none => none
    | some (x, τ1) => (evL (p || x.isF) r τ1).map fun (xs, τ2) => (setl x :: xs, τ2)
def evT (p : Bool) : CT → T → Option (Bool × T)
  | .yes, τ => some (true, τ)
  | .and a b, τ => match evT p a τ with
    | some (true, τ1) => evT p b τ1
    | r => r
  | .or a b, τ => match evT p a τ with
    | some (false, τ1) => evT p b τ1
    | r => r
  | .not a, τ => match evT p a τ with
    | some (b, τ1) => some (!b, τ1)
    | none => none
  | .e e, τ => match evE p e τ with
    | some (.d (.bl b), τ1) => some (b, τ1)
    | _ => none
def evI (p : Bool) : CI → T → Option (List D × T)
  | .e e, τ => match evE p e τ with
    | none => none
    | some (r, τ1) => match esc p τ1 r with
      | some (.lst xs, τ2) => some (xs, τ2)
      | some (.tup xs, τ2) => some (xs, τ2)
      | some (.scr ns, τ2) => some (ns.map .int, τ2)
      | _ => none
  | .rng1 a, τ => match evE p a τ with
    | some (.d (.int i), τ1) => if rngOk 0 i then some (rngD 0 i, τ1) else none
    | _ => none
  | .rng2 a b, τ => match evE p a τ with
    | some (.d (.int i), τ1) => (match evE p b τ1 with
      | some (.d (.int j), τ2) => if rngOk i j then some (rngD i j, τ2) else none
      | _ => none)
    | _ => none
  | .enum a, τ => match evE p a τ with
    | none => none
    | some (r, τ1) => match esc p τ1 r with
      | some (.lst xs, τ2) => some (enumD 0 xs, τ2)
      | some (.tup xs, τ2) => some (enumD 0 xs, τ2)
      | _ => none
  | .zip a b, τ => match evE p a τ with
    | none => none
    | some (ra, τ1) => match esc p τ1 ra with
      | none => none
      | some (x, τ2) => match evE p b τ2 with
        | none => none
        | some (rb, τ3) => match esc p τ3 rb with
          | none => none
          | some (y, τ4) => match x, y with
            | .lst xs, .lst ys => some (zipD xs ys, τ4)
            | .tup xs, .tup ys => some (zipD xs ys, τ4)
            | _, _ => none
end

def forL (g : D → T → Option T) (b : T → Option Fl) : List D → T → Option Fl
  | [], τ => some (.nx τ)
  | x :: xs, τ => match g x τ with
    | none => none
    | some τ1 => match b τ1 with
      | some (.nx τ2) => forL g b xs τ2
      | some (.ct τ2) => forL g b xs τ2
      | some (.bk τ2) => some (.nx τ2)
      | r => r
def whileL (t : T → Option (Bool × T)) (b : T → Option Fl) : Nat → T → Option Fl
  | 0, _ => none
  | n + 1, τ => match t τ with
    | none => none
    | some (false, τ1) => some (.nx τ1)
    | some (true, τ1) => match b τ1 with
      | some (.nx τ2) => whileL t b n τ2
      | some (.ct τ2) => whileL t b n τ2
      | some (.bk τ2) => some (.nx τ2)
      | r => r
def WF : Nat := 33554432
/-- a thing given to a name, a field: a new thing is held there alone -/
def give (τ : T) : R → Option (M × T)
  | .m m => some (m, τ)
  | r => match esc false τ r with
    | some (d, τ1) => some (.v d, τ1)
    | none => none
def augD (op : Operator) (x y : Int) : Option Int := match op with
  | .Add => some (x + y)
  | .Sub => some (x - y)
  | .Mult => if (-(2 ^ 64) < x ∧ x < 2 ^ 64) ∨ (-(2 ^ 64) < y ∧ y < 2 ^ 64) then some (x * y) else none
  | _ => none
/-- values, each held alone -/
def evM : CEs → T → Option (List M × T)
  | .nil, τ => some ([], τ)
  | .cons e r, τ => match evE G cl false e τ with
    | none => none
    | some (x, τ1) => match give τ1 x with
      | none => none
      | some (m, τ2) => (evM r τ2).map fun u => (m :: u.1, u.2)
def setMs : List Nat → List M → T → Option T
  | [], [], τ => some τ
  | i :: is, m :: ms, τ => setMs is ms (τ.set i (some m))
  | _, _, _ => none
mutual
def evS (io : List Nat) : CS → T → Option Fl
  | .set i e, τ => if io.contains i then none else match evE G cl false e τ with
    | none => none
    | some (r, τ1) => match give τ1 r with
      | none => none
      | some (m, τ2) => some (.nx (τ2.set i (some m)))
  | .setM is es, τ => if is.any (fun i => io.contains i) then none else match evM G cl es τ with
    | none => none
    | some (ms, τ1) => (setMs is ms τ1).map .nx
  | .setT tg e, τ => match evE G cl false e τ with
    | none => none
    | some (r, τ1) => match esc false τ1 r with
      | some (d, τ2) => (bindTg io tg d τ2).map .nx
      | none => none
  | .par i j a b, τ => if io.contains i || io.contains j then none else match evX G cl false (.cons a (.cons b .nil)) τ with
    | some ([x, y], τ1) => some (.nx ((τ1.set i (some (.v x))).set j (some (.v y))))
    | _ => none
  | .aug i op e, τ => if io.contains i then none else match slotM τ i with
    | some (.v (.int x)) => (match evE G cl false e τ with
      | some (.d (.int y), τ1) => (match augD op x y with
        | some z => some (.nx (τ1.set i (some (.v (.int z)))))
        | none => none)
      | _ => none)
    | _ => none
  | .fset i f e, τ => match evE G cl false e τ with
    | none => none
    | some (r, τ1) => match give τ1 r with
      | none => none
      | some (m, τ2) => match slotM τ2 i with
        | some (.ins c fs) => if fs.length < 900 ∧ ((G.cls.lookup c).map fun k => k.fl.contains f) = some true then some (.nx (τ2.set i (some (.ins c (putA f m fs))))) else none
        | _ => none
  | .iset i k e, τ => match evE G cl false e τ with
    | none => none
    | some (r, τ1) => match esc false τ1 r with
      | none => none
      | some (d, τ2) => match evE G cl true k τ2 with
        | some (.d kd, _) => (match slotM τ2 i with
          | some m => (match setIx m kd d with
            | some m' => some (.nx (τ2.set i (some m')))
            | none => none)
          | none => none)
        | _ => none
  | .fiset i f k e, τ => match evE G cl false e τ with
    | none => none
    | some (r, τ1) => match esc false τ1 r with
      | none => none
      | some (d, τ2) => match evE G cl true k τ2 with
        | some (.d kd, _) => (match getP τ2 i (some f) with
          | some m => (match setIx m kd d with
            | some m' => some (.nx (setP τ2 i m' (some f)))
            | none => none)
          | none => none)
        | _ => none
  | .kset i f es e, τ => match evE G cl false e τ with
    | none => none
    | some (r, τ1) => match esc false τ1 r with
      | none => none
      | some (d, τ2) => match evX G cl true es τ2 with
        | some (ds, _) => (match getP τ2 i f, keysD ds with
          | some (.dT ks vs), some q => if vs.length < SL ∧ ds.length ≤ SL then some (.nx (setP τ2 i (.dT (dPut ks vs q d).1 (dPut ks vs q d).2) f)) else none
          | _, _ => none)
        | none => none
  | .bad, τ => none
  | .ex e, τ => (evE G cl false e τ).map fun (_, τ1) => .nx τ1
  | .ret e, τ => match evE G cl false e τ with
    | none => none
    | some (r, τ1) => match r with
      | .m m => some (.ret m τ1)
      | .pl i none => if io.contains i then (match esc false τ1 r with
          | some (d, τ2) => some (.ret (.v d) τ2)
          | none => none)
        else (match slotM τ1 i with
          | some m => some (.ret m (τ1.set i none))
          | none => none)
      | _ => match esc false τ1 r with
        | some (d, τ2) => some (.ret (.v d) τ2)
        | none => none
  | .retN, τ => some (.ret (.v .non) τ)
  | .pass, τ => some (.nx τ)
  | .brk, τ => some (.bk τ)
  | .cont, τ => some (.ct τ)
  | .ite t a b, τ => match evT G cl false t τ with
    | some (true, τ1) => evSs io a τ1
    | some (false, τ1) => evSs io b τ1
    | none => none
  | .whl t b, τ => whileL (evT G cl false t) (fun t' => evSs io b t') WF τ
  | .loop tg it b, τ => match evI G cl false it τ with
    | none => none
    | some (xs, τ1) => forL (bindTg io tg) (fun t' => evSs io b t') xs τ1
def evSs (io : List Nat) : CSs → T → Option Fl
  | .nil, τ => some (.nx τ)
  | .cons s r, τ => match evS io s τ with
    | some (.nx τ1) => evSs io r τ1
    | x => x
end
end
/-- a def called: n calls deep at most -/
def callN (G : GS) : Nat → Caller
  | 0, _, _ => none
  | n + 1, f, args => match G.fns.lookup f with
    | none => none
    | some fn => if args.length = fn.np ∧ fn.np ≤ fn.ns then
        (match evSs G (callN G n) fn.io fn.body (args.map some ++ List.replicate (fn.ns - fn.np) none) with
        | some (.ret m τ) => (outs fn.io 0 args τ).map fun os => (m, os)
        | some (.nx τ) => (outs fn.io 0 args τ).map fun os => (.v .non, os)
        | _ => none)
      else none
end Ev

/-! Ev, part B: what a value stands for in the abstract heap; states; what an expression's evaluation promises. -/
namespace Ev
open PySem L2

/-- what isinstance asks of a class of the text -/
structure IsC (K : PySem.W.Frag) (cls : List (Nat × Addr)) (ci : Nat) (C : Addr) : Prop where
  cl : Cls K C
  at_ : PySem.W.findIn K (.ref C) "__class__" = some (some (.builtin "object.__class__"))
  gt : PySem.W.specialIn K (.builtin "object.__class__") "__get__" = some (some (.builtin "getset_descriptor.__get__"))
  tk : PySem.W.takesIn K (.builtin "object.__class__") = some true
  mr : PySem.W.mroIn K C (.type "object") = some true
  bt : ∀ t : Ty, PySem.W.kitOne K (.type t.nm) (.ref C) = some false
  tb : ∀ t : Ty, PySem.W.kitOne K (.ref C) (.type t.nm) = some false
  cc : ∀ q ∈ cls, PySem.W.kitOne K (.ref C) (.ref q.2) = some (q.1 == ci)
structure Cn where
  K : PySem.W.Frag
  cls : List (Nat × Addr)
  attrs : List Str
  nd : attrs.Nodup
  fok : Nat → Nat → Bool
  isc : ∀ q ∈ cls, IsC K cls q.1 q.2

/-- a tuple at a: tracked -/
def TupAt (K : PySem.W.Frag) (Z : Hp) (a : Addr) (vs : List V) : Prop := Z a = some (.tup vs)
theorem TupAt.sq {K : PySem.W.Frag} {Z : Hp} {a : Addr} {vs : List V} (h : TupAt K Z a vs) : SqT K Z a vs := .inl (.inl h)
mutual
def Rep (c : Cn) (Z : Hp) : D → V → Prop
  | .dK ks ds, x => ∃ a kvs vs, x = .ref a ∧ Z a = some (.dK kvs) ∧ ks = kvs.map (·.1) ∧ vs = kvs.map (·.2) ∧ RepL c Z ds vs
  | .dT ks ds, x => ∃ a kvs vs, x = .ref a ∧ Z a = some (.dT kvs) ∧ ks = kvs.map (·.1) ∧ vs = kvs.map (·.2) ∧ RepL c Z ds vs
  | .non, x => x = .non
  | .bl b, x => x = .bl b
  | .int i, x => x = .int i
  | .str s, x => x = .str s
  | .ty t, x => x = .ty t.nm
  | .cl k, x => ∃ a, c.cls.lookup k = some a ∧ x = .ref a
  | .tup ds, x => ∃ a vs, x = .ref a ∧ TupAt c.K Z a vs ∧ RepL c Z ds vs
  | .lst ds, x => ∃ a vs, x = .ref a ∧ Z a = some (.lst vs) ∧ RepL c Z ds vs
  | .ins k fs, x => ∃ a C dx gs, x = .ref a ∧ c.cls.lookup k = some C ∧ Z a = some (.ins C dx gs) ∧ RepF c Z fs gs ∧ ∀ p ∈ fs, c.fok k p.1 = true
  | .scr ns, x => ∃ a, x = .ref a ∧ SqL c.K Z a (ns.map V.int)
def RepL (c : Cn) (Z : Hp) : List D → List V → Prop
  | [], vs => vs = []
  | d :: ds, vs => ∃ v r, vs = v :: r ∧ Rep c Z d v ∧ RepL c Z ds r
def RepF (c : Cn) (Z : Hp) : List (Nat × D) → List (Str × V) → Prop
  | [], gs => gs = []
  | (f, d) :: fs, gs => ∃ s v r, gs = (s, v) :: r ∧ c.attrs[f]? = some s ∧ Rep c Z d v ∧ RepF c Z fs r
end
mutual
def OR (c : Cn) (Z H : Hp) : M → V → List Addr → Prop
  | .v d, x, A => A = [] ∧ Rep c Z d x
  | .lst ds, x, A => ∃ a vs, x = .ref a ∧ A = [a] ∧ H a = some (.lst vs) ∧ RepL c Z ds vs
  | .dK ks ds, x, A => ∃ a kvs vs, x = .ref a ∧ A = [a] ∧ H a = some (.dK kvs) ∧ ks = kvs.map (·.1) ∧ vs = kvs.map (·.2) ∧ RepL c Z ds vs
  | .dT ks ds, x, A => ∃ a kvs vs, x = .ref a ∧ A = [a] ∧ H a = some (.dT kvs) ∧ ks = kvs.map (·.1) ∧ vs = kvs.map (·.2) ∧ RepL c Z ds vs
  | .ins k fs, x, A => ∃ a C dx gs B, x = .ref a ∧ A = a :: B ∧ c.cls.lookup k = some C ∧ H a = some (.ins C dx gs) ∧ ORF c Z H fs gs B ∧ ∀ p ∈ fs, c.fok k p.1 = true
def ORF (c : Cn) (Z H : Hp) : List (Nat × M) → List (Str × V) → List Addr → Prop
  | [], gs, B => gs = [] ∧ B = []
  | (f, m) :: fs, gs, B => ∃ s v r B1 B2, gs = (s, v) :: r ∧ B = B1 ++ B2 ∧ c.attrs[f]? = some s ∧ OR c Z H m v B1 ∧ ORF c Z H fs r B2
end
theorem sqT_mono {K : PySem.W.Frag} {Z Z' : Hp} {a : Addr} {vs : List V} (h : Same Z Z') (q : TupAt K Z a vs) : TupAt K Z' a vs := h _ _ q
mutual
theorem Rep.mono {c : Cn} {Z Z' : Hp} (h : Same Z Z') : ∀ (d : D) (x : V), Rep c Z d x → Rep c Z' d x
  | .non, _, q => q
  | .bl _, _, q => q
  | .int _, _, q => q
  | .str _, _, q => q
  | .ty _, _, q => q
  | .cl _, _, q => q
  | .tup ds, _, q => by
    obtain ⟨a, vs, e, s, r⟩ := q
    exact ⟨a, vs, e, sqT_mono h s, RepL.mono h ds vs r⟩
  | .lst ds, _, q => by
    obtain ⟨a, vs, e, s, r⟩ := q
    exact ⟨a, vs, e, h _ _ s, RepL.mono h ds vs r⟩
  | .dK ks ds, _, q => by
    obtain ⟨a, kvs, vs, e, s, e1, e2, r⟩ := q
    exact ⟨a, kvs, vs, e, h _ _ s, e1, e2, RepL.mono h ds vs r⟩
  | .dT ks ds, _, q => by
    obtain ⟨a, kvs, vs, e, s, e1, e2, r⟩ := q
    exact ⟨a, kvs, vs, e, h _ _ s, e1, e2, RepL.mono h ds vs r⟩
  | .ins k fs, _, q => by
    obtain ⟨a, C, dx, gs, e, hc, s, r, ok⟩ := q
    exact ⟨a, C, dx, gs, e, hc, h _ _ s, RepF.mono h fs gs r, ok⟩
  | .scr ns, _, q => by
    obtain ⟨a, e, s⟩ := q
    exact ⟨a, e, h.seq s⟩
theorem RepL.mono {c : Cn} {Z Z' : Hp} (h : Same Z Z') : ∀ (ds : List D) (vs : List V), RepL c Z ds vs → RepL c Z' ds vs
  | [], _, q => q
  | d :: ds, _, q => by
    obtain ⟨v, r, e, q1, q2⟩ := q
    exact ⟨v, r, e, Rep.mono h d v q1, RepL.mono h ds r q2⟩
theorem RepF.mono {c : Cn} {Z Z' : Hp} (h : Same Z Z') : ∀ (fs : List (Nat × D)) (gs : List (Str × V)), RepF c Z fs gs → RepF c Z' fs gs
  | [], _, q => q
  | (f, d) :: fs, _, q => by
    obtain ⟨s, v, r, e, ha, q1, q2⟩ := q
    exact ⟨s, v, r, e, ha, Rep.mono h d v q1, RepF.mono h fs r q2⟩
end
mutual
theorem OR.keep {c : Cn} {Z Z' H H' : Hp} (h : Same Z Z') : ∀ (m : M) (x : V) (A : List Addr), (∀ a ∈ A, H' a = H a) → OR c Z H m x A → OR c Z' H' m x A
  | .v d, _, _, _, q => ⟨q.1, Rep.mono h d _ q.2⟩
  | .lst ds, _, A, k, q => by
    obtain ⟨a, vs, e, ea, s, r⟩ := q
    exact ⟨a, vs, e, ea, by rw [k a (by rw [ea]; simp)]; exact s, RepL.mono h ds vs r⟩
  | .dK ks ds, _, A, k, q => by
    obtain ⟨a, kvs, vs, e, ea, s, e1, e2, r⟩ := q
    exact ⟨a, kvs, vs, e, ea, by rw [k a (by rw [ea]; simp)]; exact s, e1, e2, RepL.mono h ds vs r⟩
  | .dT ks ds, _, A, k, q => by
    obtain ⟨a, kvs, vs, e, ea, s, e1, e2, r⟩ := q
    exact ⟨a, kvs, vs, e, ea, by rw [k a (by rw [ea]; simp)]; exact s, e1, e2, RepL.mono h ds vs r⟩
  | .ins k fs, _, A, kp, q => by
    obtain ⟨a, C, dx, gs, B, e, ea, hc, s, r, ok⟩ := q
    exact ⟨a, C, dx, gs, B, e, ea, hc, by rw [kp a (by rw [ea]; simp)]; exact s, ORF.keep h fs gs B (fun b hb => kp b (by rw [ea]; exact List.mem_cons_of_mem _ hb)) r, ok⟩
theorem ORF.keep {c : Cn} {Z Z' H H' : Hp} (h : Same Z Z') : ∀ (fs : List (Nat × M)) (gs : List (Str × V)) (B : List Addr), (∀ a ∈ B, H' a = H a) → ORF c Z H fs gs B → ORF c Z' H' fs gs B
  | [], _, _, _, q => q
  | (f, m) :: fs, _, _, k, q => by
    obtain ⟨s, v, r, B1, B2, e, eb, ha, q1, q2⟩ := q
    exact ⟨s, v, r, B1, B2, e, eb, ha, OR.keep h m v B1 (fun a z => k a (by rw [eb]; exact List.mem_append_left _ z)) q1, ORF.keep h fs r B2 (fun a z => k a (by rw [eb]; exact List.mem_append_right _ z)) q2⟩
end
theorem frzF_keys : ∀ (fs : List (Nat × M)) (p : Nat × D), p ∈ frzF fs → ∃ p' ∈ fs, p'.1 = p.1
  | [], p, h => by simp [frzF] at h
  | (f, m) :: r, p, h => by
    rcases List.mem_cons.mp (show p ∈ (f, frz m) :: frzF r from h) with z | z
    · exact ⟨(f, m), by simp, by rw [z]⟩
    · obtain ⟨p', h1, h2⟩ := frzF_keys r p z
      exact ⟨p', by simp [h1], h2⟩
theorem putA_keys (f : Nat) (m : M) : ∀ (fs : List (Nat × M)) (p : Nat × M), p ∈ putA f m fs → p.1 = f ∨ ∃ p' ∈ fs, p'.1 = p.1
  | [], p, h => by
    have : p = (f, m) := by simpa [putA] using h
    exact .inl (by rw [this])
  | (g, n) :: r, p, h => by
    by_cases e : g = f
    · have h' : p ∈ (f, m) :: r := by simpa [putA, e] using h
      rcases List.mem_cons.mp h' with z | z
      · exact .inl (by rw [z])
      · exact .inr ⟨p, by simp [z], rfl⟩
    · have h' : p ∈ (g, n) :: putA f m r := by simpa [putA, e] using h
      rcases List.mem_cons.mp h' with z | z
      · exact .inr ⟨(g, n), by simp, by rw [z]⟩
      · rcases putA_keys f m r p z with q | ⟨p', h1, h2⟩
        · exact .inl q
        · exact .inr ⟨p', by simp [h1], h2⟩
theorem getA_mem {f : Nat} {m : M} : ∀ {fs : List (Nat × M)}, getA f fs = some m → (f, m) ∈ fs
  | [], h => by simp [getA] at h
  | (g, n) :: r, h => by
    by_cases e : g = f
    · have : n = m := by simpa [getA, e] using h
      rw [e, this]; simp
    · exact List.mem_cons_of_mem _ (getA_mem (by simpa [getA, e] using h))
mutual
theorem OR.frz {c : Cn} {Z H W : Hp} (h : Same Z W) : ∀ (m : M) (x : V) (A : List Addr), (∀ a ∈ A, W a = H a) → OR c Z H m x A → Rep c W (Ev.frz m) x
  | .v d, _, _, _, q => Rep.mono h d _ q.2
  | .lst ds, _, A, k, q => by
    obtain ⟨a, vs, e, ea, s, r⟩ := q
    exact ⟨a, vs, e, by rw [k a (by rw [ea]; simp)]; exact s, RepL.mono h ds vs r⟩
  | .dK ks ds, _, A, k, q => by
    obtain ⟨a, kvs, vs, e, ea, s, e1, e2, r⟩ := q
    exact ⟨a, kvs, vs, e, by rw [k a (by rw [ea]; simp)]; exact s, e1, e2, RepL.mono h ds vs r⟩
  | .dT ks ds, _, A, k, q => by
    obtain ⟨a, kvs, vs, e, ea, s, e1, e2, r⟩ := q
    exact ⟨a, kvs, vs, e, by rw [k a (by rw [ea]; simp)]; exact s, e1, e2, RepL.mono h ds vs r⟩
  | .ins k fs, _, A, kp, q => by
    obtain ⟨a, C, dx, gs, B, e, ea, hc, s, r, ok⟩ := q
    exact ⟨a, C, dx, gs, e, hc, by rw [kp a (by rw [ea]; simp)]; exact s, ORF.frz h fs gs B (fun b hb => kp b (by rw [ea]; exact List.mem_cons_of_mem _ hb)) r, fun p hp => by
      obtain ⟨p', h1, h2⟩ := frzF_keys fs p hp
      rw [← h2]
      exact ok p' h1⟩
theorem ORF.frz {c : Cn} {Z H W : Hp} (h : Same Z W) : ∀ (fs : List (Nat × M)) (gs : List (Str × V)) (B : List Addr), (∀ a ∈ B, W a = H a) → ORF c Z H fs gs B → RepF c W (Ev.frzF fs) gs
  | [], _, _, _, q => q.1
  | (f, m) :: fs, _, _, k, q => by
    obtain ⟨s, v, r, B1, B2, e, eb, ha, q1, q2⟩ := q
    exact ⟨s, v, r, e, ha, OR.frz h m v B1 (fun a z => k a (by rw [eb]; exact List.mem_append_left _ z)) q1, ORF.frz h fs r B2 (fun a z => k a (by rw [eb]; exact List.mem_append_right _ z)) q2⟩
end
mutual
theorem OR.live {c : Cn} {Z H : Hp} : ∀ (m : M) (x : V) (A : List Addr), OR c Z H m x A → ∀ a ∈ A, H a ≠ none
  | .v d, _, A, q, a, ha => by rw [q.1] at ha; cases ha
  | .lst ds, _, A, q, a, ha => by
    obtain ⟨b, vs, e, ea, s, r⟩ := q
    rw [ea] at ha
    rw [List.mem_singleton.mp ha, s]
    intro z; cases z
  | .dK ks ds, _, A, q, a, ha => by
    obtain ⟨b, kvs, vs, e, ea, s, _⟩ := q
    rw [ea] at ha
    rw [List.mem_singleton.mp ha, s]
    intro z; cases z
  | .dT ks ds, _, A, q, a, ha => by
    obtain ⟨b, kvs, vs, e, ea, s, _⟩ := q
    rw [ea] at ha
    rw [List.mem_singleton.mp ha, s]
    intro z; cases z
  | .ins k fs, _, A, q, a, ha => by
    obtain ⟨b, C, dx, gs, B, e, ea, hc, s, r, ok⟩ := q
    rw [ea] at ha
    rcases List.mem_cons.mp ha with z | z
    · rw [z, s]
      intro z; cases z
    · exact ORF.live fs gs B r a z
theorem ORF.live {c : Cn} {Z H : Hp} : ∀ (fs : List (Nat × M)) (gs : List (Str × V)) (B : List Addr), ORF c Z H fs gs B → ∀ a ∈ B, H a ≠ none
  | [], _, B, q, a, ha => by rw [q.2] at ha; cases ha
  | (f, m) :: fs, _, B, q, a, ha => by
    obtain ⟨s, v, r, B1, B2, e, eb, hs, q1, q2⟩ := q
    rw [eb] at ha
    rcases List.mem_append.mp ha with z | z
    · exact OR.live m v B1 q1 a z
    · exact ORF.live fs r B2 q2 a z
end
mutual
theorem OR.nt {c : Cn} {Z H : Hp} : ∀ (m : M) (x : V) (A : List Addr), OR c Z H m x A → ∀ a ∈ A, ∀ us, H a ≠ some (.tup us)
  | .v d, _, A, q, a, ha, us => by rw [q.1] at ha; cases ha
  | .lst ds, _, A, q, a, ha, us => by
    obtain ⟨b, vs, e, ea, s, r⟩ := q
    rw [ea] at ha
    rw [List.mem_singleton.mp ha, s]
    intro z; cases z
  | .dK ks ds, _, A, q, a, ha, us => by
    obtain ⟨b, kvs, vs, e, ea, s, _⟩ := q
    rw [ea] at ha
    rw [List.mem_singleton.mp ha, s]
    intro z; cases z
  | .dT ks ds, _, A, q, a, ha, us => by
    obtain ⟨b, kvs, vs, e, ea, s, _⟩ := q
    rw [ea] at ha
    rw [List.mem_singleton.mp ha, s]
    intro z; cases z
  | .ins k fs, _, A, q, a, ha, us => by
    obtain ⟨b, C, dx, gs, B, e, ea, hc, s, r, ok⟩ := q
    rw [ea] at ha
    rcases List.mem_cons.mp ha with z | z
    · rw [z, s]
      intro z; cases z
    · exact ORF.nt fs gs B r a z us
theorem ORF.nt {c : Cn} {Z H : Hp} : ∀ (fs : List (Nat × M)) (gs : List (Str × V)) (B : List Addr), ORF c Z H fs gs B → ∀ a ∈ B, ∀ us, H a ≠ some (.tup us)
  | [], _, B, q, a, ha, us => by rw [q.2] at ha; cases ha
  | (f, m) :: fs, _, B, q, a, ha, us => by
    obtain ⟨s, v, r, B1, B2, e, eb, hs, q1, q2⟩ := q
    rw [eb] at ha
    rcases List.mem_append.mp ha with z | z
    · exact OR.nt m v B1 q1 a z us
    · exact ORF.nt fs r B2 q2 a z us
end
theorem RepL.len {c : Cn} {Z : Hp} : ∀ (ds : List D) (vs : List V), RepL c Z ds vs → vs.length = ds.length
  | [], _, q => by rw [show _ = [] from q]; rfl
  | d :: ds, _, q => by
    obtain ⟨v, r, rfl, _, q2⟩ := q
    simp [RepL.len ds r q2]
theorem RepL.get {c : Cn} {Z : Hp} : ∀ (ds : List D) (vs : List V) (i : Nat) (d : D), RepL c Z ds vs → ds[i]? = some d → ∃ v, vs[i]? = some v ∧ Rep c Z d v
  | [], _, i, d, _, h => by simp at h
  | e :: ds, _, 0, d, q, h => by
    obtain ⟨v, r, rfl, q1, q2⟩ := q
    simp at h
    subst h
    exact ⟨v, rfl, q1⟩
  | e :: ds, _, i + 1, d, q, h => by
    obtain ⟨v, r, rfl, q1, q2⟩ := q
    simpa using RepL.get ds r i d q2 (by simpa using h)
theorem RepL.getV {c : Cn} {Z : Hp} : ∀ (ds : List D) (vs : List V) (i : Nat) (v : V), RepL c Z ds vs → vs[i]? = some v → ∃ d, ds[i]? = some d ∧ Rep c Z d v := by
  intro ds vs i v q h
  have hl := RepL.len ds vs q
  have hi : i < vs.length := (List.getElem?_eq_some_iff.mp h).1
  obtain ⟨w, e, r⟩ := RepL.get ds vs i (ds[i]'(by omega)) q (by simp)
  rw [h] at e
  cases e
  exact ⟨_, by simp, r⟩
theorem RepL.append {c : Cn} {Z : Hp} : ∀ (ds es : List D) (vs ws : List V), RepL c Z ds vs → RepL c Z es ws → RepL c Z (ds ++ es) (vs ++ ws)
  | [], _, _, _, q, q' => by rw [show _ = [] from q]; exact q'
  | d :: ds, es, _, ws, q, q' => by
    obtain ⟨v, r, rfl, q1, q2⟩ := q
    exact ⟨v, r ++ ws, rfl, q1, RepL.append ds es r ws q2 q'⟩
theorem RepL.one {c : Cn} {Z : Hp} {d : D} {v : V} (q : Rep c Z d v) : RepL c Z [d] [v] := ⟨v, [], rfl, q, rfl⟩
theorem RepL.take {c : Cn} {Z : Hp} : ∀ (n : Nat) (ds : List D) (vs : List V), RepL c Z ds vs → RepL c Z (ds.take n) (vs.take n)
  | 0, _, _, _ => by simp [RepL]
  | n + 1, [], _, q => by rw [show _ = [] from q]; simp [RepL]
  | n + 1, d :: ds, _, q => by
    obtain ⟨v, r, rfl, q1, q2⟩ := q
    exact ⟨v, r.take n, rfl, q1, RepL.take n ds r q2⟩
theorem RepL.drop {c : Cn} {Z : Hp} : ∀ (n : Nat) (ds : List D) (vs : List V), RepL c Z ds vs → RepL c Z (ds.drop n) (vs.drop n)
  | 0, _, _, q => q
  | n + 1, [], _, q => by rw [show _ = [] from q]; simp [RepL]
  | n + 1, d :: ds, _, q => by
    obtain ⟨v, r, rfl, q1, q2⟩ := q
    simpa using RepL.drop n ds r q2
theorem RepL.set {c : Cn} {Z : Hp} {d : D} {v : V} (h : Rep c Z d v) : ∀ (n : Nat) (ds : List D) (vs : List V), RepL c Z ds vs → RepL c Z (ds.set n d) (vs.set n v)
  | _, [], _, q => by rw [show _ = [] from q]; simp [RepL]
  | 0, e :: ds, _, q => by
    obtain ⟨w, r, rfl, q1, q2⟩ := q
    exact ⟨v, r, rfl, h, q2⟩
  | n + 1, e :: ds, _, q => by
    obtain ⟨w, r, rfl, q1, q2⟩ := q
    exact ⟨w, r.set n v, rfl, q1, RepL.set h n ds r q2⟩
theorem RepL.erase {c : Cn} {Z : Hp} : ∀ (n : Nat) (ds : List D) (vs : List V), RepL c Z ds vs → RepL c Z (ds.eraseIdx n) (vs.eraseIdx n)
  | _, [], _, q => by rw [show _ = [] from q]; simp [RepL]
  | 0, e :: ds, _, q => by
    obtain ⟨w, r, rfl, q1, q2⟩ := q
    exact q2
  | n + 1, e :: ds, _, q => by
    obtain ⟨w, r, rfl, q1, q2⟩ := q
    exact ⟨w, r.eraseIdx n, rfl, q1, RepL.erase n ds r q2⟩
theorem RepL.rep {c : Cn} {Z : Hp} {ds : List D} {vs : List V} (q : RepL c Z ds vs) : ∀ k : Nat, RepL c Z (List.replicate k ds).flatten (List.replicate k vs).flatten
  | 0 => by simp [RepL]
  | k + 1 => by
    rw [List.replicate_succ, List.flatten_cons, List.replicate_succ, List.flatten_cons]
    exact RepL.append _ _ _ _ q (RepL.rep q k)
theorem RepL.dropLast {c : Cn} {Z : Hp} {ds : List D} {vs : List V} (q : RepL c Z ds vs) : RepL c Z ds.dropLast vs.dropLast := by
  rw [List.dropLast_eq_take, List.dropLast_eq_take, RepL.len ds vs q]
  exact RepL.take _ _ _ q
theorem RepL.ints {c : Cn} {Z : Hp} : ∀ (ns : List Int), RepL c Z (ns.map D.int) (ns.map V.int)
  | [] => rfl
  | n :: ns => ⟨_, _, rfl, rfl, RepL.ints ns⟩

/-! ### states -/
/-- every tracked tuple is frozen -/
def TupsIn (Z H : Hp) : Prop := ∀ b vs, H b = some (.tup vs) → Z b = some (.tup vs)
theorem TupsIn.mono {Z Z' H : Hp} (t : TupsIn Z H) (h : Same Z Z') : TupsIn Z' H := fun b vs e => h _ _ (t b vs e)
theorem TupsIn.upd {Z H : Hp} (t : TupsIn Z H) {a : Addr} {o : HO} (ho : ∀ vs, o ≠ .tup vs) : TupsIn Z (L2.upd H a o) := fun b vs e => by
  by_cases z : b = a
  · subst z
    rw [upd_same] at e
    exact absurd (Option.some.inj e) (ho vs)
  · rw [upd_ne z] at e
    exact t b vs e
theorem TupsIn.new {Z H : Hp} (t : TupsIn Z H) {a : Addr} {us : List V} : TupsIn (L2.upd Z a (.tup us)) (L2.upd H a (.tup us)) := fun b vs e => by
  by_cases z : b = a
  · subst z
    rw [upd_same] at e ⊢
    exact e
  · rw [upd_ne z] at e ⊢
    exact t b vs e
structure Sta (c : Cn) (F Z H : Hp) (σ : L2.St) (τ : T) (A : Nat → List Addr) : Prop where
  fh : Same F H
  zh : Same Z H
  fz : ∀ a o, Z a = some o → F a = none
  len : τ.length = σ.length
  own : ∀ (i : Nat) (m : M), τ[i]? = some (some m) → ∃ v, σ[i]? = some (some v) ∧ OR c Z H m v (A i)
  nd : ∀ i, (A i).Nodup
  dj : ∀ i j a, a ∈ A i → a ∈ A j → i = j
  fr : ∀ i a, a ∈ A i → F a = none ∧ Z a = none ∧ H a ≠ none
  tz : TupsIn Z H
/-- what a result stands for -/
def RR (c : Cn) (Z H : Hp) (σ : L2.St) (τ : T) : R → V → List Addr → Prop
  | .d d, x, B => B = [] ∧ Rep c Z d x
  | .m m, x, B => OR c Z H m x B
  | .pl i none, x, B => B = [] ∧ σ[i]? = some (some x) ∧ ∃ m, slotM τ i = some m ∧ isV m = false
  | .pl i (some f), x, B => B = [] ∧ (∃ m, getP τ i (some f) = some m ∧ isV m = false) ∧ ∃ a C dx gs s, σ[i]? = some (some (.ref a)) ∧ H a = some (.ins C dx gs) ∧ c.attrs[f]? = some s ∧ gs.lookup s = some x
structure Res (c : Cn) (F Z H : Hp) (σ : L2.St) (τ : T) (A : Nat → List Addr) (r : R) (x : V) (B : List Addr) : Prop where
  rr : RR c Z H σ τ r x B
  nd : B.Nodup
  dj : ∀ i a, a ∈ A i → a ∉ B
  fr : ∀ a ∈ B, F a = none ∧ Z a = none ∧ H a ≠ none
structure Post (c : Cn) (p : Bool) (F Z H : Hp) (σ : L2.St) (τ : T) (A : Nat → List Addr) (τ' : T) (H' Z' : Hp) (A' : Nat → List Addr) : Prop where
  zz : Same Z Z'
  st : Sta c F Z' H' σ τ' A'
  pu : p = true → Same H H' ∧ τ' = τ ∧ A' = A
theorem Post.refl {c : Cn} {p : Bool} {F Z H : Hp} {σ : L2.St} {τ : T} {A : Nat → List Addr} (s : Sta c F Z H σ τ A) : Post c p F Z H σ τ A τ H Z A := ⟨Same.refl _, s, fun _ => ⟨Same.refl _, rfl, rfl⟩⟩
theorem Post.trans {c : Cn} {p q : Bool} {F Z H : Hp} {σ : L2.St} {τ : T} {A : Nat → List Addr} {τ1 : T} {H1 Z1 : Hp} {A1 : Nat → List Addr} {τ2 : T} {H2 Z2 : Hp} {A2 : Nat → List Addr}
    (a : Post c p F Z H σ τ A τ1 H1 Z1 A1) (b : Post c q F Z1 H1 σ τ1 A1 τ2 H2 Z2 A2) (h : p = true → q = true) : Post c p F Z H σ τ A τ2 H2 Z2 A2 :=
  ⟨a.zz.trans b.zz, b.st, fun hp => by
    obtain ⟨x1, x2, x3⟩ := a.pu hp
    obtain ⟨y1, y2, y3⟩ := b.pu (h hp)
    exact ⟨x1.trans y1, y2.trans x2, y3.trans x3⟩⟩

/-! ### states that grow -/
section
variable {c : Cn} {F Z H : Hp} {σ : L2.St} {τ : T} {A : Nat → List Addr}
theorem Sta.grow (s : Sta c F Z H σ τ A) {H' : Hp} (h : Same H H') (ht : TupsIn Z H') : Sta c F Z H' σ τ A := by
  have live : ∀ i a, a ∈ A i → H' a = H a := fun i a ha => by
    cases e : H a with
    | none => exact absurd e (s.fr i a ha).2.2
    | some o => exact h _ _ e
  refine ⟨s.fh.trans h, s.zh.trans h, s.fz, s.len, fun i m e => ?_, s.nd, s.dj, fun i a ha => ?_, ht⟩
  · obtain ⟨v, e1, q⟩ := s.own i m e
    exact ⟨v, e1, OR.keep (Same.refl _) m v (A i) (fun a ha => live i a ha) q⟩
  · obtain ⟨h1, h2, h3⟩ := s.fr i a ha
    exact ⟨h1, h2, by rw [live i a ha]; exact h3⟩
theorem Sta.zgrow (s : Sta c F Z H σ τ A) {Z' : Hp} (hz : Same Z Z') (hh : Same Z' H) (hf : ∀ a o, Z' a = some o → F a = none) (ha : ∀ i a, a ∈ A i → Z' a = none) : Sta c F Z' H σ τ A := by
  refine ⟨s.fh, hh, hf, s.len, fun i m e => ?_, s.nd, s.dj, fun i a h => ?_, s.tz.mono hz⟩
  · obtain ⟨v, e1, q⟩ := s.own i m e
    exact ⟨v, e1, OR.keep hz m v (A i) (fun _ _ => rfl) q⟩
  · obtain ⟨h1, h2, h3⟩ := s.fr i a h
    exact ⟨h1, ha i a h, h3⟩
theorem Post.grow (s : Sta c F Z H σ τ A) {H' Z' : Hp} {p : Bool} (h : Same H H') (hz : Same Z Z') (hh : Same Z' H') (hf : ∀ a o, Z' a = some o → F a = none) (ha : ∀ i a, a ∈ A i → Z' a = none) (ht : TupsIn Z' H') : Post c p F Z H σ τ A τ H' Z' A := by
  have live : ∀ i a, a ∈ A i → H' a = H a := fun i a q => by
    cases e : H a with
    | none => exact absurd e (s.fr i a q).2.2
    | some o => exact h _ _ e
  refine ⟨hz, ⟨s.fh.trans h, hh, hf, s.len, fun i m e => ?_, s.nd, s.dj, fun i a q => ?_, ht⟩, fun _ => ⟨h, rfl, rfl⟩⟩
  · obtain ⟨v, e1, q⟩ := s.own i m e
    exact ⟨v, e1, OR.keep hz m v (A i) (fun a q => live i a q) q⟩
  · obtain ⟨h1, h2, h3⟩ := s.fr i a q
    exact ⟨h1, ha i a q, by rw [live i a q]; exact h3⟩
/-- a new object laid -/
theorem Same.upd {H : Hp} {a : Addr} {o : HO} (h : H a = none) : Same H (L2.upd H a o) := fun b u e => by rw [upd_ne (ne_of_none e h)]; exact e
/-- the frozen part with more -/
def fzw (Z H : Hp) (B : List Addr) : Hp := fun a => if a ∈ B then H a else Z a
theorem fzw_in {Z H : Hp} {B : List Addr} {a : Addr} (h : a ∈ B) : fzw Z H B a = H a := if_pos h
theorem fzw_out {Z H : Hp} {B : List Addr} {a : Addr} (h : a ∉ B) : fzw Z H B a = Z a := if_neg h
theorem fzw_z {Z H : Hp} {B : List Addr} (h : ∀ a ∈ B, Z a = none) : Same Z (fzw Z H B) := fun a o e => by
  rw [fzw_out (fun z => by rw [h a z] at e; cases e)]; exact e
theorem fzw_h {Z H : Hp} {B : List Addr} (h : Same Z H) : Same (fzw Z H B) H := fun a o e => by
  by_cases z : a ∈ B
  · rw [fzw_in z] at e; exact e
  · rw [fzw_out z] at e; exact h _ _ e
/-- a new thing of one's own is frozen -/
theorem freeze_new (s : Sta c F Z H σ τ A) {m : M} {x : V} {B : List Addr} (r : Res c F Z H σ τ A (.m m) x B) : Same Z (fzw Z H B) ∧ Sta c F (fzw Z H B) H σ τ A ∧ Rep c (fzw Z H B) (frz m) x := by
  have hz : Same Z (fzw Z H B) := fzw_z fun a ha => (r.fr a ha).2.1
  refine ⟨hz, s.zgrow hz (fzw_h s.zh) (fun a o e => ?_) (fun i a ha => ?_), OR.frz hz m x B (fun a ha => fzw_in ha) r.rr⟩
  · by_cases z : a ∈ B
    · exact (r.fr a z).1
    · rw [fzw_out z] at e; exact s.fz a o e
  · rw [fzw_out (r.dj i a ha)]
    exact (s.fr i a ha).2.1
/-- operands: values, places -/
def OpW (c : Cn) (Z H : Hp) (σ : L2.St) : R → V → Prop
  | .d d, x => Rep c Z d x
  | .m _, _ => False
  | .pl i none, x => σ[i]? = some (some x)
  | .pl i (some f), x => ∃ a C dx gs s, σ[i]? = some (some (.ref a)) ∧ H a = some (.ins C dx gs) ∧ c.attrs[f]? = some s ∧ gs.lookup s = some x
theorem setl_ok (s : Sta c F Z H σ τ A) {r : R} {x : V} {B : List Addr} (q : Res c F Z H σ τ A r x B) {p : Bool} : ∃ Z', Post c p F Z H σ τ A τ H Z' A ∧ OpW c Z' H σ (setl r) x := by
  cases r with
  | d d => exact ⟨Z, Post.refl s, q.rr.2⟩
  | m m =>
    obtain ⟨h1, h2, h3⟩ := freeze_new s q
    exact ⟨_, ⟨h1, h2, fun _ => ⟨Same.refl _, rfl, rfl⟩⟩, h3⟩
  | pl i f =>
    cases f with
    | none => exact ⟨Z, Post.refl s, q.rr.2.1⟩
    | some f => exact ⟨Z, Post.refl s, q.rr.2.2⟩
theorem OpW.keep {o : R} {x : V} {τ' : T} {H' Z' : Hp} {A' : Nat → List Addr} {p : Bool} (q : OpW c Z H σ o x) (h : Post c p F Z H σ τ A τ' H' Z' A') (hp : o.isF = true → p = true) : OpW c Z' H' σ o x := by
  cases o with
  | d d => exact Rep.mono h.zz d x q
  | m m => exact q
  | pl i f =>
    cases f with
    | none => exact q
    | some f =>
      obtain ⟨a, C, dx, gs, s, h1, h2, h3, h4⟩ := q
      exact ⟨a, C, dx, gs, s, h1, (h.pu (hp rfl)).1 _ _ h2, h3, h4⟩
/-- a look at a value -/
def Vw (c : Cn) (Z H : Hp) : D → V → Prop
  | .lst ds, x => ∃ a vs, x = .ref a ∧ H a = some (.lst vs) ∧ RepL c Z ds vs
  | .dK ks ds, x => ∃ a kvs vs, x = .ref a ∧ H a = some (.dK kvs) ∧ ks = kvs.map (·.1) ∧ vs = kvs.map (·.2) ∧ RepL c Z ds vs
  | .dT ks ds, x => ∃ a kvs vs, x = .ref a ∧ H a = some (.dT kvs) ∧ ks = kvs.map (·.1) ∧ vs = kvs.map (·.2) ∧ RepL c Z ds vs
  | d, x => Rep c Z d x
theorem Vw.of {d : D} {x : V} (h : Same Z H) (q : Rep c Z d x) : Vw c Z H d x := by
  cases d <;> first
    | exact q
    | (obtain ⟨a, vs, e, s, r⟩ := q; exact ⟨a, vs, e, h _ _ s, r⟩)
    | (obtain ⟨a, kvs, vs, e, s, r⟩ := q; exact ⟨a, kvs, vs, e, h _ _ s, r⟩)
theorem attr_inj {f g : Nat} {s : Str} (h : c.attrs[f]? = some s) (h' : c.attrs[g]? = some s) : f = g := nodup_ix c.nd h h'
/-- a field of a thing: what it holds, and what remains -/
theorem ORF.at {f : Nat} {m : M} : ∀ {fs : List (Nat × M)} {gs : List (Str × V)} {B : List Addr}, ORF c Z H fs gs B → getA f fs = some m → ∃ s x B1 B2, c.attrs[f]? = some s ∧ gs.lookup s = some x ∧ OR c Z H m x B1 ∧ B.Perm (B1 ++ B2) ∧
    ∀ (Z' H' : Hp) (m' : M) (x' : V) (B' : List Addr), Same Z Z' → (∀ a ∈ B2, H' a = H a) → OR c Z' H' m' x' B' → ∃ B3, ORF c Z' H' (putA f m' fs) (putF s x' gs) B3 ∧ B3.Perm (B' ++ B2)
  | [], gs, B, _, h => by simp [getA] at h
  | (g, n) :: fs, gs, B, q, h => by
    obtain ⟨s, v, r, B1, B2, rfl, rfl, hs, q1, q2⟩ := q
    by_cases e : g = f
    · subst e
      have h' : n = m := by simpa [getA] using h
      subst h'
      refine ⟨s, v, B1, B2, hs, by simp [List.lookup], q1, List.Perm.refl _, fun Z' H' m' x' B' hz hk o => ⟨B' ++ B2, ?_, List.Perm.refl _⟩⟩
      have e1 : putA g m' ((g, n) :: fs) = (g, m') :: fs := by simp [putA]
      have e2 : putF s x' ((s, v) :: r) = (s, x') :: r := by simp [putF]
      rw [e1, e2]
      exact ⟨s, x', r, B', B2, rfl, rfl, hs, o, ORF.keep hz fs r B2 hk q2⟩
    · have h' : getA f fs = some m := by simpa [getA, e] using h
      obtain ⟨s', x, C1, C2, hs', hl, o, hp, put⟩ := ORF.at q2 h'
      have ns : s' ≠ s := fun z => e (attr_inj hs (z ▸ hs'))
      refine ⟨s', x, C1, B1 ++ C2, hs', ?_, o, ?_, fun Z' H' m' x' B' hz hk o' => ?_⟩
      · have : (s' == s) = false := by simpa using ns
        simp [List.lookup, this, hl]
      · have p1 : (B1 ++ B2).Perm (B1 ++ (C1 ++ C2)) := List.Perm.append_left B1 hp
        refine p1.trans ?_
        rw [← List.append_assoc, ← List.append_assoc]
        exact List.Perm.append_right C2 List.perm_append_comm
      · obtain ⟨B3, o3, p3⟩ := put Z' H' m' x' B' hz (fun a ha => hk a (List.mem_append_right _ ha)) o'
        refine ⟨B1 ++ B3, ?_, ?_⟩
        · have e1 : putA f m' ((g, n) :: fs) = (g, n) :: putA f m' fs := by simp [putA, e]
          have e2 : putF s' x' ((s, v) :: r) = (s, v) :: putF s' x' r := by
            show (if s = s' then _ else _) = _
            rw [if_neg (fun z => ns z.symm)]
          rw [e1, e2]
          exact ⟨s, v, _, B1, B3, rfl, rfl, hs, OR.keep hz n v B1 (fun a ha => hk a (List.mem_append_left _ ha)) q1, o3⟩
        · have p1 : (B1 ++ B3).Perm (B1 ++ (B' ++ C2)) := List.Perm.append_left B1 p3
          refine p1.trans ?_
          rw [← List.append_assoc, ← List.append_assoc]
          exact List.Perm.append_right C2 List.perm_append_comm
theorem putF_same {s : Str} {x : V} : ∀ {gs : List (Str × V)}, gs.lookup s = some x → putF s x gs = gs
  | [], h => by simp at h
  | (g, v) :: gs, h => by
    show (if g = s then _ else _) = _
    by_cases e : g = s
    · rw [if_pos e]
      subst e
      have : v = x := by simpa [List.lookup] using h
      rw [this]
    · rw [if_neg e]
      have e' : (s == g) = false := by simpa using fun z => e z.symm
      have h' : gs.lookup s = some x := by simpa [List.lookup, e'] using h
      rw [putF_same h']
theorem slotM_some {i : Nat} {m : M} (h : slotM τ i = some m) : τ[i]? = some (some m) := by
  unfold slotM at h
  split at h
  · rename_i m' e
    rw [e]
    rw [Option.some.inj h]
  · cases h
theorem getP_field {i f : Nat} {m : M} (h : getP τ i (some f) = some m) : ∃ k fs, slotM τ i = some (.ins k fs) ∧ getA f fs = some m := by
  unfold getP at h
  simp only at h
  split at h
  · rename_i k fs e
    exact ⟨k, fs, e, h⟩
  · cases h
theorem look_ok (s : Sta c F Z H σ τ A) {o : R} {x : V} {d : D} (q : OpW c Z H σ o x) (h : look τ o = some d) : Vw c Z H d x := by
  have vm : ∀ {m : M} {B : List Addr}, OR c Z H m x B → viewM m = some d → Vw c Z H d x := fun {m B} o e => by
    cases m with
    | v d' => cases e; exact Vw.of s.zh o.2
    | lst ds =>
      cases e
      obtain ⟨a, vs, e1, _, e3, r⟩ := o
      exact ⟨a, vs, e1, e3, r⟩
    | dK ks ds =>
      cases e
      obtain ⟨a, kvs, vs, e1, _, e3, r⟩ := o
      exact ⟨a, kvs, vs, e1, e3, r⟩
    | dT ks ds =>
      cases e
      obtain ⟨a, kvs, vs, e1, _, e3, r⟩ := o
      exact ⟨a, kvs, vs, e1, e3, r⟩
    | ins k fs => cases e
  cases o with
  | d d' => cases h; exact Vw.of s.zh q
  | m m => exact q.elim
  | pl i f =>
    unfold look at h
    simp only at h
    split at h
    · rename_i m e
      cases f with
      | none =>
        obtain ⟨v, e1, o⟩ := s.own i m (slotM_some e)
        have q' : σ[i]? = some (some x) := q
        rw [q'] at e1
        cases e1
        exact vm o h
      | some f =>
        obtain ⟨k, fs, e1, e2⟩ := getP_field e
        obtain ⟨v, e3, o⟩ := s.own i _ (slotM_some e1)
        obtain ⟨a, C, dx, gs, B, ea, eA, hc, hH, oF, ok⟩ := o
        obtain ⟨a', C', dx', gs', s', q1, q2, q3, q4⟩ := q
        rw [e3] at q1
        cases q1
        cases ea
        rw [hH] at q2
        cases q2
        obtain ⟨s2, x2, B1, B2, z1, z2, z3, _⟩ := oF.at e2
        rw [q3] at z1
        cases z1
        rw [q4] at z2
        cases z2
        exact vm z3 h
    · cases h
/-- the slots' things, one replaced -/
def put1 (A : Nat → List Addr) (i : Nat) (B : List Addr) : Nat → List Addr := fun j => if j = i then B else A j
theorem put1_same {i : Nat} {B : List Addr} : put1 A i B i = B := if_pos rfl
theorem put1_ne {i j : Nat} {B : List Addr} (h : j ≠ i) : put1 A i B j = A j := if_neg h
theorem Sta.put (s : Sta c F Z H σ τ A) {i : Nat} {m' : M} {v : V} {B' : List Addr} {Z' H' : Hp} {σ' : L2.St} (hi : σ'[i]? = some (some v)) (hσ : ∀ j, j ≠ i → σ'[j]? = σ[j]?) (hl : σ'.length = σ.length) (hz : Same Z Z') (hzh : Same Z' H') (hfh : Same F H')
    (hfz : ∀ a o, Z' a = some o → F a = none) (htz : TupsIn Z' H') (ho : OR c Z' H' m' v B') (nd : B'.Nodup) (hk : ∀ j a, j ≠ i → a ∈ A j → H' a = H a ∧ Z' a = none ∧ a ∉ B') (hB : ∀ a ∈ B', F a = none ∧ Z' a = none) :
    Sta c F Z' H' σ' (τ.set i (some m')) (put1 A i B') := by
  have li : i < τ.length := by rw [s.len, ← hl]; exact (List.getElem?_eq_some_iff.mp hi).1
  refine ⟨hfh, hzh, hfz, by rw [List.length_set, hl]; exact s.len, fun j m e => ?_, fun j => ?_, fun j k a h1 h2 => ?_, fun j a h => ?_, htz⟩
  · by_cases z : j = i
    · subst z
      rw [List.getElem?_set_self li] at e
      cases e
      exact ⟨v, hi, by rw [put1_same]; exact ho⟩
    · rw [List.getElem?_set_ne (Ne.symm z)] at e
      obtain ⟨w, e1, q⟩ := s.own j m e
      exact ⟨w, by rw [hσ j z]; exact e1, by rw [put1_ne z]; exact OR.keep hz m w (A j) (fun a ha => (hk j a z ha).1) q⟩
  · by_cases z : j = i
    · subst z; rw [put1_same]; exact nd
    · rw [put1_ne z]; exact s.nd j
  · by_cases z : j = i
    · subst z
      rw [put1_same] at h1
      by_cases z' : k = j
      · exact z'.symm
      · rw [put1_ne z'] at h2
        exact absurd h1 (hk k a z' h2).2.2
    · rw [put1_ne z] at h1
      by_cases z' : k = i
      · subst z'
        rw [put1_same] at h2
        exact absurd h2 (hk j a z h1).2.2
      · rw [put1_ne z'] at h2
        exact s.dj j k a h1 h2
  · by_cases z : j = i
    · subst z
      rw [put1_same] at h
      exact ⟨(hB a h).1, (hB a h).2, OR.live m' v B' ho a h⟩
    · rw [put1_ne z] at h
      obtain ⟨h1, _, h3⟩ := s.fr j a h
      obtain ⟨k1, k2, _⟩ := hk j a z h
      exact ⟨h1, k2, by rw [k1]; exact h3⟩
/-- a slot is emptied -/
theorem Sta.drop (s : Sta c F Z H σ τ A) (i : Nat) : Sta c F Z H σ (τ.set i none) (put1 A i []) := by
  refine ⟨s.fh, s.zh, s.fz, by rw [List.length_set]; exact s.len, fun j m e => ?_, fun j => ?_, fun j k a h1 h2 => ?_, fun j a h => ?_, s.tz⟩
  · by_cases z : j = i
    · subst z
      by_cases l : j < τ.length
      · rw [List.getElem?_set_self l] at e; cases e
      · rw [List.getElem?_eq_none (by rw [List.length_set]; omega)] at e; cases e
    · rw [List.getElem?_set_ne (Ne.symm z)] at e
      obtain ⟨w, e1, q⟩ := s.own j m e
      exact ⟨w, e1, by rw [put1_ne z]; exact q⟩
  · by_cases z : j = i
    · subst z; rw [put1_same]; exact List.nodup_nil
    · rw [put1_ne z]; exact s.nd j
  · have z : j ≠ i := fun z => by subst z; rw [put1_same] at h1; cases h1
    have z' : k ≠ i := fun z => by subst z; rw [put1_same] at h2; cases h2
    rw [put1_ne z] at h1
    rw [put1_ne z'] at h2
    exact s.dj j k a h1 h2
  · have z : j ≠ i := fun z => by subst z; rw [put1_same] at h; cases h
    rw [put1_ne z] at h
    exact s.fr j a h
/-- what stands at a place -/
theorem place_at (s : Sta c F Z H σ τ A) {i : Nat} {f : Option Nat} {m : M} {x : V} (q : OpW c Z H σ (.pl i f) x) (h : getP τ i f = some m) : ∃ B, (∀ a ∈ B, a ∈ A i) ∧ B.Nodup ∧ OR c Z H m x B ∧
    ∀ (Z' H' : Hp) (m' : M) (B' : List Addr), Same Z Z' → Same Z' H' → Same F H' → (∀ a o, Z' a = some o → F a = none) → TupsIn Z' H' → (∀ j a, a ∈ A j → a ∉ B → H' a = H a ∧ Z' a = none ∧ a ∉ B') → OR c Z' H' m' x B' → B'.Nodup → (∀ a ∈ B', F a = none ∧ Z' a = none) →
      ∃ A', Sta c F Z' H' σ (setP τ i m' f) A' := by
  cases f with
  | none =>
    have e := slotM_some (show slotM τ i = some m from h)
    obtain ⟨v, e1, o⟩ := s.own i m e
    have q' : σ[i]? = some (some x) := q
    rw [q'] at e1
    cases e1
    refine ⟨A i, fun _ ha => ha, s.nd i, o, fun Z' H' m' B' hz hzh hfh hfz htz hk o' nd hB => ⟨_, s.put q' (fun _ _ => rfl) rfl hz hzh hfh hfz htz o' nd (fun j a hj ha => ?_) hB⟩⟩
    exact hk j a ha fun z => hj (s.dj j i a ha z)
  | some f =>
    obtain ⟨k, fs, e1, e2⟩ := getP_field h
    obtain ⟨v, e3, o⟩ := s.own i _ (slotM_some e1)
    obtain ⟨a, C, dx, gs, B, ea, eA, hc, hH, oF, ok⟩ := o
    obtain ⟨a', C', dx', gs', s', q1, q2, q3, q4⟩ := q
    rw [e3] at q1
    cases q1
    cases ea
    rw [hH] at q2
    cases q2
    obtain ⟨s2, x2, B1, B2, z1, z2, z3, pm, put⟩ := oF.at e2
    rw [q3] at z1
    cases z1
    rw [q4] at z2
    cases z2
    have nA : (a :: B).Nodup := by rw [← eA]; exact s.nd i
    have nB : (B1 ++ B2).Nodup := pm.nodup_iff.mp (List.nodup_cons.mp nA).2
    have sub : ∀ b, b ∈ B1 ++ B2 → b ∈ B := fun b hb => pm.mem_iff.mpr hb
    refine ⟨B1, fun b hb => by rw [eA]; exact List.mem_cons_of_mem _ (sub b (List.mem_append_left _ hb)), (List.nodup_append.mp nB).1, z3, fun Z' H' m' B' hz hzh hfh hfz htz hk o' nd hB => ?_⟩
    have n2 : ∀ b ∈ B2, b ∈ A i ∧ b ∉ B1 := fun b hb => ⟨by rw [eA]; exact List.mem_cons_of_mem _ (sub b (List.mem_append_right _ hb)), fun z => (List.nodup_append.mp nB).2.2 b z b hb rfl⟩
    have na : a ∈ A i ∧ a ∉ B1 := ⟨by rw [eA]; simp, fun z => (List.nodup_cons.mp nA).1 (sub a (List.mem_append_left _ z))⟩
    obtain ⟨B3, o3, p3⟩ := put Z' H' m' x B' hz (fun b hb => (hk i b (n2 b hb).1 (n2 b hb).2).1) o'
    rw [putF_same q4] at o3
    have eS : setP τ i m' (some f) = τ.set i (some (.ins k (putA f m' fs))) := by
      unfold setP
      simp only
      rw [e1]
    rw [eS]
    have m3 : ∀ b, b ∈ B3 → b ∈ B' ∨ b ∈ B2 := fun b hb => List.mem_append.mp (p3.mem_iff.mp hb)
    refine ⟨_, s.put (B' := a :: B3) e3 (fun _ _ => rfl) rfl hz hzh hfh hfz htz ⟨a, C, dx, gs, B3, rfl, rfl, hc, by rw [(hk i a na.1 na.2).1]; exact hH, o3, fun p hp => by
      rcases putA_keys f m' fs p hp with z | ⟨p', h1, h2⟩
      · rw [z]; exact ok _ (getA_mem e2)
      · rw [← h2]; exact ok p' h1⟩ ?_ (fun j b hj hb => ?_) fun b hb => ?_⟩
    · refine List.nodup_cons.mpr ⟨fun z => ?_, p3.nodup_iff.mpr (List.nodup_append.mpr ⟨nd, (List.nodup_append.mp nB).2.1, fun b h1 d h2 e => ?_⟩)⟩
      · rcases m3 a z with z | z
        · exact (hk i a na.1 na.2).2.2 z
        · exact (List.nodup_cons.mp nA).1 (sub a (List.mem_append_right _ z))
      · subst e
        exact (hk i b (n2 b h2).1 (n2 b h2).2).2.2 h1
    · have hbi : b ∉ A i := fun z => hj (s.dj j i b hb z)
      have hb1 : b ∉ B1 := fun z => hbi (by rw [eA]; exact List.mem_cons_of_mem _ (sub b (List.mem_append_left _ z)))
      obtain ⟨k1, k2, k3⟩ := hk j b hb hb1
      refine ⟨k1, k2, fun z => ?_⟩
      rcases List.mem_cons.mp z with z | z
      · subst z; exact hbi na.1
      · rcases m3 b z with z | z
        · exact k3 z
        · exact hbi (n2 b z).1
    · rcases List.mem_cons.mp hb with z | z
      · subst z
        exact ⟨(s.fr i b na.1).1, (hk i b na.1 na.2).2.1⟩
      · rcases m3 b z with z | z
        · exact hB b z
        · exact ⟨(s.fr i b (n2 b z).1).1, (hk i b (n2 b z).1 (n2 b z).2).2.1⟩
theorem esc_op (s : Sta c F Z H σ τ A) {p : Bool} {o : R} {x : V} {d : D} {τ' : T} (q : OpW c Z H σ o x) (h : esc p τ o = some (d, τ')) : ∃ Z' A', Post c p F Z H σ τ A τ' H Z' A' ∧ Rep c Z' d x := by
  cases o with
  | d d' =>
    cases h
    exact ⟨Z, A, Post.refl s, q⟩
  | m m => exact q.elim
  | pl i f =>
    unfold esc at h
    simp only at h
    cases p with
    | true => simp at h
    | false =>
      rw [if_neg Bool.false_ne_true] at h
      split at h
      · rename_i m e
        cases h
        obtain ⟨B, hB, nd, o, put⟩ := place_at s q e
        have hz : Same Z (fzw Z H B) := fzw_z fun a ha => (s.fr i a (hB a ha)).2.1
        have r : Rep c (fzw Z H B) (frz m) x := OR.frz hz m x B (fun a ha => fzw_in ha) o
        have hf : ∀ a o, fzw Z H B a = some o → F a = none := fun a o e => by
          by_cases z : a ∈ B
          · exact (s.fr i a (hB a z)).1
          · rw [fzw_out z] at e; exact s.fz a o e
        obtain ⟨A', st⟩ := put (fzw Z H B) H (.v (frz m)) [] hz (fzw_h s.zh) s.fh hf (s.tz.mono hz) (fun j a ha hb => ⟨rfl, by rw [fzw_out hb]; exact (s.fr j a ha).2.1, by simp⟩) ⟨rfl, r⟩ List.nodup_nil (fun a ha => by cases ha)
        exact ⟨_, A', ⟨hz, st, fun z => by cases z⟩, r⟩
      · cases h
theorem esc_ok (s : Sta c F Z H σ τ A) {p : Bool} {r : R} {x : V} {B : List Addr} {d : D} {τ' : T} (q : Res c F Z H σ τ A r x B) (h : esc p τ r = some (d, τ')) : ∃ Z' A', Post c p F Z H σ τ A τ' H Z' A' ∧ Rep c Z' d x := by
  cases r with
  | d d' => exact esc_op s (o := .d d') q.rr.2 h
  | m m =>
    cases h
    obtain ⟨h1, h2, h3⟩ := freeze_new s q
    exact ⟨_, A, ⟨h1, h2, fun _ => ⟨Same.refl _, rfl, rfl⟩⟩, h3⟩
  | pl i f =>
    refine esc_op s (o := .pl i f) ?_ h
    cases f with
    | none => exact q.rr.2.1
    | some f => exact q.rr.2.2
/-- a result laid anew: a value that was there, a new tuple, a new list -/
def NewR (c : Cn) (Z H : Hp) (r : R) (z : V) (H' : Hp) : Prop :=
  (∃ d, r = .d d ∧ H' = H ∧ Rep c Z d z) ∨ (∃ a vs ds, r = .d (.tup ds) ∧ z = .ref a ∧ H a = none ∧ H' = L2.upd H a (.tup vs) ∧ RepL c Z ds vs) ∨ ∃ a vs ds, r = .m (.lst ds) ∧ z = .ref a ∧ H a = none ∧ H' = L2.upd H a (.lst vs) ∧ RepL c Z ds vs
theorem NewR.post {p : Bool} (s : Sta c F Z H σ τ A) {r : R} {z : V} {H' : Hp} (n : NewR c Z H r z H') : ∃ Z' B, Post c p F Z H σ τ A τ H' Z' A ∧ Res c F Z' H' σ τ A r z B := by
  rcases n with ⟨d, rfl, rfl, q⟩ | ⟨a, vs, ds, rfl, rfl, na, rfl, q⟩ | ⟨a, vs, ds, rfl, rfl, na, rfl, q⟩
  · exact ⟨Z, [], Post.refl s, ⟨⟨rfl, q⟩, List.nodup_nil, fun _ _ _ h => (by cases h), fun a h => by cases h⟩⟩
  · have nz : Z a = none := s.zh.free na
    have nf : F a = none := s.fh.free na
    refine ⟨L2.upd Z a (.tup vs), [], Post.grow s (Same.upd na) (Same.upd nz) (fun b o e => ?_) (fun b o e => ?_) (fun i b hb => ?_) s.tz.new, ⟨⟨rfl, a, vs, rfl, upd_same, RepL.mono (Same.upd nz) ds vs q⟩, List.nodup_nil, fun _ _ _ h => (by cases h), fun a h => by cases h⟩⟩
    · by_cases z : b = a
      · subst z; rw [upd_same] at e ⊢; exact e
      · rw [upd_ne z] at e ⊢; exact s.zh _ _ e
    · by_cases z : b = a
      · subst z; exact nf
      · rw [upd_ne z] at e; exact s.fz _ _ e
    · have : b ≠ a := fun z => by subst z; exact (s.fr i b hb).2.2 na
      rw [upd_ne this]
      exact (s.fr i b hb).2.1
  · have nz : Z a = none := s.zh.free na
    have nf : F a = none := s.fh.free na
    refine ⟨Z, [a], Post.grow s (Same.upd na) (Same.refl _) (s.zh.trans (Same.upd na)) s.fz (fun i b hb => (s.fr i b hb).2.1) (s.tz.upd fun _ z => nomatch z), ⟨⟨a, vs, rfl, rfl, upd_same, q⟩, by simp, fun i b hb h => ?_, fun b h => ?_⟩⟩
    · have e : b = a := by simpa using h
      subst e; exact (s.fr i b hb).2.2 na
    · have e : b = a := by simpa using h
      subst e; exact ⟨nf, nz, by rw [upd_same]; intro z; cases z⟩
end
end Ev

/-! Ev, part Sd: sorting where some tuples are empty; sorted of a set. -/
namespace Ev
open PySem PySem.W PySem.SeqAt PyProof.Rows
section
variable {prog : Program} {w : World} {A : Around} {E : Value → Shared → Prop} {s : Shared}
/-- tuple's own __lt__, as sorting calls it -/
theorem call_tup_lt {Q : Value → Shared → Prop} {l b : Addr} {xs ys : Array Value} {e r : Nat → Bool} (hl : s.heap.IsTuple l xs) (hb : s.heap.IsTuple b ys) (he : ∀ j (h1 : j < xs.size) (h2 : j < ys.size), EqAt A.in1 s xs[j] ys[j] (e j))
    (hr : ∀ j (h1 : j < xs.size) (h2 : j < ys.size), e j = false → RcLt A.in1 s xs[j] ys[j] (r j)) (h : Q (.bool (firstLt e r (decide (xs.size < ys.size)) (List.range (min xs.size ys.size)))) s) :
    wpAny (model prog w) A (call (.builtin "tuple.__lt__") [.ref l, .ref b]) Q E s := by
  obtain ⟨⟨c1, d1, a1, l1⟩, ho, hc, n, hd⟩ := id hl
  obtain ⟨⟨c2, d2, a2, l2⟩, ho2, hc2, n2, hd2⟩ := id hb
  simp only at hc hd hc2 hd2
  subst hc hd hc2 hd2
  exact call_meets F.slot_tuple_lt ⟨_, ho, rfl⟩ F.entry_tuple_lt (F.args_tuple_lt_2 _ _) (tuple_ltAt l b xs ys n n2 d1 d2 l1 l2 e r) ⟨ho, ho2, he, hr, h⟩
theorem one_tup {xs ys : List PyData} {a b : Value} {as bs : List Addr} {Q : Bool → Shared → Prop} (ra : Reads s.heap a (.tuple xs) as) (rb : Reads s.heap b (.tuple ys) bs) (h : alike (.tuple xs) (.tuple ys) = true)
    (hu : A.units + min (PyData.tuple xs).depth (PyData.tuple ys).depth < cLine) (hq : Q (dataLt (.tuple xs) (.tuple ys)) s) : wpAny (model prog w) A (oneLt' true a b) Q E s := by
  have hal : alikeAll xs ys = true := by simpa [alike] using h
  cases ra with
  | @tuple l o vs n _ as₁ h1 h2 h3 h4 =>
    cases rb with
    | @tuple l' o' vs' n' _ bs₁ k1 k2 k3 k4 =>
      have n1 : vs.size = xs.length := by simpa using ReadsAll.length _ _ _ h4
      have n2 : vs'.size = ys.length := by simpa using ReadsAll.length _ _ _ k4
      rw [dataLt_tuple, ← firstLt_toks xs ys hal, ← n1, ← n2] at hq
      rw [oneLt'_eq]
      simp only [if_true]
      refine wpAny_bind (wpAny_cRoomFor (room_here hu) ?_)
      refine wpAny_bind (wpAny_callSpecialIfBound?_slot (T := "tuple") ⟨_, h1, h2⟩ F.slot_tuple_lt (call_tup_lt (e := pairEq xs ys) (r := fun j => dataLt (xs.getD j .none) (ys.getD j .none)) ⟨_, h1, h2, _, h3⟩ ⟨_, k1, k2, _, k3⟩ (fun j j1 j2 => ?_) (fun j j1 j2 hj => ?_) ?_))
      · have := eqAt_alikeAll xs ys A.in1 s vs.toList vs'.toList _ _ h4 k4 hal (room_in hu) j (by simpa using j1) (by simpa using j2)
        simpa using this
      · have := rcLt_alikeAll xs ys A.in1 s vs.toList vs'.toList _ _ h4 k4 hal (room_in hu) j (by simpa using j1) (by simpa using j2) hj
        simpa using this
      · exact wpAny_truthy_bool hq
/-- the first items of tuples, where there are any -/
theorem firsts_at : ∀ {vs : List Value} {ds : List PyData} {Q : List (Option Value) → Shared → Prop}, EachIs (fun v d => ∃ as, Reads s.heap v d as) vs ds → (∀ d ∈ ds, ∃ xs, d = PyData.tuple xs) →
    (∀ fs : List (Option Value), fs.length = vs.length → (∀ i : Nat, (∃ f : Value, fs[i]? = some (some f)) → ∃ x r, ds[i]? = some (PyData.tuple (x :: r))) → (∀ i : Nat, fs[i]? = some none → ds[i]? = some (PyData.tuple [])) → Q fs s) → wpAny (model prog w) A (vs.mapM firstOfTuple') Q E s
  | [], _, Q, .nil, _, h => by
    rw [List.mapM_nil]
    exact wpAny_pure (h [] rfl (fun i ⟨f, e⟩ => by simp at e) fun i e => by simp at e)
  | v :: vs, d :: ds, Q, .cons ⟨as, r⟩ t, ht, h => by
    obtain ⟨xs, rfl⟩ := ht d (List.mem_cons_self ..)
    cases r with
    | @tuple a o its n _ _ h1 h2 h3 h4 =>
      rw [List.mapM_cons]
      refine wpAny_bind ?_
      rw [kas_first_eq]
      refine wpAny_bind (Looks.here (show Looks _ s.heap (typeOf (.ref a)) o.cls from (Looks.ld h1).andThen .now) ?_)
      rw [h2, if_neg (by first | decide | simp)]
      refine wpAny_bind (listItems_at h1 h3 (wpAny_pure ?_))
      refine wpAny_bind (firsts_at t (fun d hd => ht d (List.mem_cons_of_mem _ hd)) fun fs l1 l2 l3 => wpAny_pure (h _ (by simp [l1]) (fun i => ?_) fun i => ?_))
      · cases i with
        | zero =>
          rintro ⟨f, e⟩
          cases xs with
          | nil =>
            have : its.toList = [] := by cases q : its.toList with | nil => rfl | cons _ _ => rw [q] at h4; cases h4
            have : its[0]? = none := by rw [← Array.getElem?_toList, this]; rfl
            simp [this] at e
          | cons x r => exact ⟨x, r, rfl⟩
        | succ i => simpa using l2 i
      · cases i with
        | zero =>
          intro e
          cases xs with
          | nil => rfl
          | cons x r =>
            cases q : its.toList with
            | nil => rw [q] at h4; cases h4
            | cons f fr =>
              have : its[0]? = some f := by rw [← Array.getElem?_toList, q]; rfl
              simp [this] at e
        | succ i => simpa using l3 i
theorem SortsAt.tups {vs : List Value} {ds : List PyData} (e : EachIs (fun v d => ∃ as, Reads s.heap v d as) vs ds) (hal : AllAlike ds) (ht : ∀ d ∈ ds, ∃ xs, d = .tuple xs) (hu : ∀ d, d ∈ ds → A.units + d.depth < cLine) : SortsAt prog w A s (dataKind s.heap ds) vs := by
  by_cases hall : ∀ d ∈ ds, ∃ x r, d = .tuple (x :: r)
  · exact SortsAt.data e hal (.inl hall) hu
  · have hempty : PyData.tuple [] ∈ ds := Classical.not_not.mp fun z => hall fun d hd => by
      obtain ⟨xs, rfl⟩ := ht d hd
      cases xs with
      | nil => exact absurd hd z
      | cons x r => exact ⟨x, r, rfl⟩
    have room : ∀ {d d' : PyData}, d ∈ ds → A.units + min d.depth d'.depth < cLine := fun {d d'} hd => Nat.lt_of_le_of_lt (Nat.add_le_add_left (Nat.min_le_left _ _) _) (hu d hd)
    have lt1 : PyProof.Rows.H.LtAt prog w A s (dataKind s.heap ds) oneType' := by
      intro E x y a b Q ha hb hq
      obtain ⟨d, as, hd, ra, rfl⟩ := dataKind_inv ha
      obtain ⟨d', as', hd', rb, rfl⟩ := dataKind_inv hb
      obtain ⟨xs, rfl⟩ := ht d hd
      obtain ⟨ys, rfl⟩ := ht d' hd'
      rw [keyLt'_oneType]
      exact one_tup ra rb (hal _ hd _ hd') (room hd) hq
    have lt2 : PyProof.Rows.H.LtAt prog w A s (dataKind s.heap ds) general' := by
      intro E x y a b Q ha hb hq
      obtain ⟨d, as, hd, ra, rfl⟩ := dataKind_inv ha
      obtain ⟨d', as', hd', rb, rfl⟩ := dataKind_inv hb
      show wpAny _ A (oneLt' false x y) Q E s
      exact oneLt_alike (fun z => by cases z) ra rb (hal d hd d' hd') (fun z => by obtain ⟨xs, q⟩ := ht d hd; rw [z] at q; cases q) (room hd) hq
    refine ⟨fun v hv => ?_, ?_⟩
    · obtain ⟨d, hd, as, r⟩ := e.left v hv
      exact ⟨_, dataKind_some hal hd r⟩
    · have look : ∀ v ∈ vs, Looks (model prog w) s.heap (typeOf v) (.type "tuple") := fun v hv => by
        obtain ⟨d, hd, as, r⟩ := e.left v hv
        obtain ⟨xs, rfl⟩ := ht d hd
        exact looks_reads r
      have len := e.length
      obtain ⟨i0, hi0, ei0⟩ := List.getElem_of_mem hempty
      classical
      have kinds : ∀ (kd : SortKind), (kd = if ∃ x r, ds[0]? = some (PyData.tuple (x :: r)) then general' else oneType') → 2 ≤ vs.length → ∀ (E : Value → Shared → Prop) {Q : SortKind → Shared → Prop}, Q kd s → wpAny (model prog w) A (keyKind' vs.toArray) Q E s := by
        intro kd hkd h2 E Q hq
        rw [keyKind'_eq, List.mapM_toArray, map_eq_pure_bind]
        refine wpAny_bind (wpAny_bind (firsts_at e ht fun fs l1 l2 l3 => wpAny_pure ?_))
        have fi : fs[i0]? = some none := by
          have li : i0 < fs.length := by rw [l1, len]; exact hi0
          cases q : fs[i0] with
          | none => rw [List.getElem?_eq_getElem li, q]
          | some f =>
            obtain ⟨x, r, z⟩ := l2 i0 ⟨f, by rw [List.getElem?_eq_getElem li, q]⟩
            rw [List.getElem?_eq_getElem hi0, ei0] at z
            cases z
        have na : ¬ (fs.toArray.all fun x => x.isSome) = true := fun z => by
          rw [List.all_toArray, List.all_eq_true] at z
          have := z none (List.mem_of_getElem? fi)
          cases this
        rw [if_neg na]
        have f0 : fs.toArray[0]? = fs[0]? := by simp
        rw [f0]
        have l0 : 0 < fs.length := by omega
        cases q : fs[0] with
        | some f =>
          have q' : fs[0]? = some (some f) := by rw [List.getElem?_eq_getElem l0, q]
          have : ∃ x r, ds[0]? = some (PyData.tuple (x :: r)) := l2 0 ⟨f, q'⟩
          rw [if_pos this] at hkd
          rw [q', if_pos (by rfl)]
          exact wpAny_pure (hkd ▸ hq)
        | none =>
          have q' : fs[0]? = some none := by rw [List.getElem?_eq_getElem l0, q]
          have : ¬ ∃ x r, ds[0]? = some (PyData.tuple (x :: r)) := fun ⟨x, r, z⟩ => by rw [l3 0 q'] at z; cases z
          rw [if_neg this] at hkd
          rw [q', if_neg (by simp)]
          rw [oneTypeOnly'_eq, List.mapM_toArray, map_eq_pure_bind]
          refine wpAny_bind (wpAny_bind (wpAny_bind (kas_mapM (r := Value.type "tuple") _ (fun v hv Q' hq => (look v hv).here hq) (wpAny_pure ?_))))
          have t0 : (List.map (fun _ => Value.type "tuple") vs).toArray[0]? = some (Value.type "tuple") := by
            cases vs with
            | nil => simp at h2
            | cons _ _ => simp
          have t1 : ((List.map (fun _ => Value.type "tuple") vs).toArray.all fun x => x == Value.type "tuple") = true := by simp
          rw [t0]
          simp only [t1, if_true]
          exact wpAny_pure (wpAny_pure (hkd ▸ hq))
      by_cases z : ∃ x r, ds[0]? = some (PyData.tuple (x :: r))
      · exact ⟨general', lt2, fun h2 E Q hq => kinds general' (by rw [if_pos z]) h2 E hq⟩
      · exact ⟨oneType', lt1, fun h2 E Q hq => kinds oneType' (by rw [if_neg z]) h2 E hq⟩
/-- what sorting takes: all alike, and tuples all, or none None or a tuple -/
def Srt (ds : List PyData) : Prop := (∀ d ∈ ds, ∃ xs, d = .tuple xs) ∨ ∀ d ∈ ds, d ≠ .none ∧ ∀ xs, d ≠ .tuple xs
theorem SortsAt.srt {vs : List Value} {ds : List PyData} (e : EachIs (fun v d => ∃ as, Reads s.heap v d as) vs ds) (hal : AllAlike ds) (hk : Srt ds) (hu : ∀ d, d ∈ ds → A.units + d.depth < cLine) : SortsAt prog w A s (dataKind s.heap ds) vs :=
  hk.elim (fun h => SortsAt.tups e hal h hu) fun h => SortsAt.data e hal (.inr h) hu
variable {β : Type} {vs : List Value} {bs : List β} {enc : β → PyData} {R : Value → β → Prop}
/-- sorted of what gives its items in some order -/
theorem sorted_collP {x : Value} {Q : Value → Shared → Prop} (Pm : List β → Prop) (hP : ∀ bs', Pm bs' → bs'.Perm bs) (hL : bs.length ≤ sizeLine)
    (coll : ∀ (Q' : List Value → Shared → Prop), (∀ (s' : Shared) (vs : List Value) (bs' : List β), (∀ b o, s.heap.get? b = some o → s'.heap.get? b = some o) → s.heap.objs.size ≤ s'.heap.objs.size → s'.gens = s.gens → s'.os = s.os → EachIs R vs bs' → Pm bs' → Q' vs s') → wpAny (model prog w) A.in1 (collect x) Q' E s)
    (rd : ∀ (h' : Heap), (∀ b o, s.heap.get? b = some o → h'.get? b = some o) → ∀ v b, b ∈ bs → R v b → ∃ as, Reads h' v (enc b) as) (hal : AllAlike (bs.map enc)) (hk : Srt (bs.map enc))
    (hu : ∀ b ∈ bs, A.units + 2 + (enc b).depth < cLine)
    (h : ∀ (s' : Shared) (p : Addr) (out : List Value) (c : Nat) (bs' : List β), (∀ b o, s.heap.get? b = some o → s'.heap.get? b = some o) → s'.gens = s.gens → s'.os = s.os → s.heap.objs.size ≤ p → s'.heap.get? p = some (seqObj "list" (List.toArray out) c) → Pm bs' → EachIs R out (bs'.mergeSort (dataLe false enc)) → Q (.ref p) s') :
    wpAny (model prog w) A (call (.builtin "sorted") [x]) Q E s := by
  refine Calls.call_function_entry kind_sorted plain_sorted entry_sorted (args_sorted1 _) ?_
  unfold Builtin.«sorted»
  refine wpAny_bind (m := checkCount "sorted" 1 1 _) (wpAny_pure ?_)
  refine wpAny_bind (coll _ fun s1 vs bs' k1 hz g1 o1 e pm0 => ?_)
  have pm := hP bs' pm0
  have hlen : vs.length ≤ sizeLine := by rw [e.length, pm.length_eq]; exact hL
  refine wpAny_bind (wpAny_newList ?_ hlen)
  have hoL : (s1.heap.push (seqObj "list" vs.toArray 0)).get? s1.heap.objs.size = some (seqObj "list" vs.toArray 0) := Heap.get?_push_size _ rfl
  have old : ∀ b o, s.heap.get? b = some o → (sortingHeap (s1.heap.push (seqObj "list" vs.toArray 0)) s1.heap.objs.size vs).get? b = some o := fun b o q => by
    have q1 := k1 b o q
    exact sortingHeap_old (Nat.ne_of_lt (Heap.lt_size q1)) (Heap.get?_push_of_some _ q1)
  have er : EachIs (fun v b => ∃ as, Reads (sortingHeap (s1.heap.push (seqObj "list" vs.toArray 0)) s1.heap.objs.size vs) v (enc b) as) vs bs' := (each_mem e).mono fun v b ⟨r, hb⟩ => rd _ old v b (pm.mem_iff.mp hb) r
  have hal' : AllAlike (bs'.map enc) := fun d hd d' hd' => hal d ((pm.map enc).mem_iff.mp hd) d' ((pm.map enc).mem_iff.mp hd')
  have hk' : Srt (bs'.map enc) := hk.elim (fun q => .inl fun d hd => q d ((pm.map enc).mem_iff.mp hd)) fun q => .inr fun d hd => q d ((pm.map enc).mem_iff.mp hd)
  refine wpAny_bind (wpAny_holding (wpAny_call_entry slot_list_sort ⟨_, hoL, rfl⟩ entry_list_sort ?_ (args_list_sort _)))
  refine list_sort_vals (s := { s1 with heap := s1.heap.push (seqObj "list" vs.toArray 0) }) hoL (SortsAt.srt (A := A.in1.in1) (s := { s1 with heap := sortingHeap (s1.heap.push (seqObj "list" vs.toArray 0)) s1.heap.objs.size vs })
    (each_map (R := fun v d => ∃ as, Reads (sortingHeap (s1.heap.push (seqObj "list" vs.toArray 0)) s1.heap.objs.size vs) v d as) enc er) hal' hk' (bound_map fun b hb => hu b (pm.mem_iff.mp hb))) hlen ⟨_, rfl, ?_⟩
  obtain ⟨c, hc⟩ := sortedHeap_at (vs := vs) (out := (sortVals (dataKind (sortingHeap (s1.heap.push (seqObj "list" vs.toArray 0)) s1.heap.objs.size vs) (bs'.map enc)) false vs vs).toArray) hoL
  refine wpAny_pure ⟨_, rfl, h _ s1.heap.objs.size _ c bs' (fun b o q => ?_) g1 o1 hz hc pm0 (sortVals_data false e er hal')⟩
  have q1 := k1 b o q
  exact (sortedHeap_old (Nat.ne_of_lt (Heap.lt_size q1)) (by rw [size_push']; exact Nat.lt_succ_of_lt (Heap.lt_size q1))).trans (Heap.get?_push_of_some _ q1)
/-- a list's, a tuple's items, collected -/
theorem coll_seq {a : Addr} {T : String} {ob : Obj} {its : List Value} {ep : Nat} {Q : List Value → Shared → Prop} (hT : T = "list" ∨ T = "tuple") (hob : s.heap.get? a = some ob) (hcl : ob.cls = .type T) (hda : ob.data = .seq its.toArray ep) (hz : its.length ≤ sizeLine)
    (k : ∀ h', (∀ b o, s.heap.get? b = some o → h'.get? b = some o) → s.heap.objs.size ≤ h'.objs.size → Q its { s with heap := h' }) : wpAny (model prog w) A (collect (.ref a)) Q E s := by
  have z : its.toArray.size ≤ sizeLine := by rw [List.size_toArray]; exact hz
  have new : (s.heap.push { cls := .type "list", data := .seq ([] : List Value).toArray }).get? s.heap.objs.size = some { cls := .type "list", data := .seq #[] 0 } := Heap.get?_push_size _ rfl
  have full := Heap.get?_update_self (Obj.mapSeq (· ++ its.toArray)) new rfl
  have all : ((#[] : Array Value) ++ its.toArray).toList = its := by simp
  have done : wpAny (model prog w) A (match Value.ref s.heap.objs.size with
      | Value.ref l => do
        match (← load l).data with
          | Data.seq ys _ => pure ys.toList
          | _ => unsupported "internal:collect"
      | _ => unsupported "internal:collect") Q E { s with heap := (s.heap.push { cls := .type "list", data := .seq ([] : List Value).toArray }).update s.heap.objs.size (Obj.mapSeq (· ++ its.toArray)) } := by
    refine wpAny_bind (m := load s.heap.objs.size) (wpAny_load full (wpAny_pure ?_))
    show Q ((#[] : Array Value) ++ its.toArray).toList _
    rw [all]
    refine k _ (fun b o hb => ?_) ?_
    · rw [Heap.get?_update_other _ _ (Nat.ne_of_gt (Heap.lt_size hb))]
      exact Heap.get?_push_of_some _ hb
    · show s.heap.objs.size ≤ ((s.heap.objs.push _).modify _ _).size
      rw [Array.size_modify, Array.size_push]
      omega
  unfold collect
  refine wpAny_bind (wpAny_runValue (codeAny_builtin F.entry_proto_collect ?_))
  rw [Around.under_plainId F.plain_proto_collect _]
  refine wpAny_bind (m := newList []) (wpAny_newObj_type (wpAny_pure ⟨plainId_quiet F.plain_list_iadd _, codeAny_builtin F.entry_list_iadd ?_⟩))
  rw [Around.under_plainId F.plain_list_iadd _]
  refine wpAny_mono (wpAny_extend_seq (hsz := z) (A := A) (R := fun r s' => r = .ok (.ret (.ref s.heap.objs.size)) ∧ s' = { s with heap := (s.heap.push { cls := .type "list", data := .seq ([] : List Value).toArray }).update s.heap.objs.size (Obj.mapSeq (· ++ its.toArray)) })
    (s := { s with heap := s.heap.push { cls := .type "list", data := .seq ([] : List Value).toArray } }) _ a _ 0 hT new (Heap.get?_push_of_some _ hob) hcl hda ⟨rfl, rfl⟩) (fun fin s' q => ?_) fun e s' q => absurd q.1 (by simp)
  cases fin with
  | done f =>
    obtain ⟨r1, rfl⟩ := q
    cases r1
    exact done
  | again cd =>
    refine ⟨q.1, codeAny_mono q.2 fun r s2 hr => ?_⟩
    obtain ⟨rfl, rfl⟩ := hr
    exact done
end
end Ev

/-! Ev, part Sf: list(d) of a dict, of either kind of keys; displays of one pair. -/
namespace Ev
open PySem L2 PySem.W PyProof.Rows
section
variable {prog : Program} {w : World} {A : Around} {E : Value → Shared → Prop} {s : Shared} {d : Addr} {es : Array DictEntry} {ep : Nat}
theorem src_raw (lo : (d == sysModules) = false) : KdlSrc prog w "dict" d d es.size (fun i v => ∃ hi : i < es.size, v = es[i].key) (fun h => h.DictRaw d es ep) where
  type := fun _ q => q.typeIs
  there := fun _ q => by
    obtain ⟨o, ho, _⟩ := q
    exact ⟨Heap.lt_size ho, Heap.lt_size ho⟩
  keep := fun _ _ q k => q.at fun o e => k d (.inl rfl) o e
  notList := by decide
  notTuple := by decide
  hint := fun _ _ _ _ q z => kdl_hint_dict q.typeIs z
  iter := fun _ s hh q => by
    have hlt : d < s.heap.objs.size := by obtain ⟨o, ho, _⟩ := q; exact Heap.lt_size ho
    exact ⟨_, _, fun _ _ z => wpAny_pyIter_dict_raw lo q z, Walks.rawKeys hh _ d (Nat.ne_of_lt hlt) es ep, ⟨⟨_, Heap.get?_push_size _ rfl, rfl, rfl⟩, q.at fun o e => Heap.get?_push_of_some _ e⟩⟩
theorem list_raw {Q : Value → Shared → Prop} (lo : (d == sysModules) = false) (hh : A.handled = none) (q : s.heap.DictRaw d es ep) (hn : es.size ≤ sizeLine)
    (k : ∀ h' tk c' (acc : List Value), (∀ b o, s.heap.get? b = some o → h'.get? b = some o) → h'.get? s.heap.objs.size = some { cls := .type "list", dict := none, data := .seq acc.toArray c', slots := #[] } → acc = es.toList.map (·.key) → Q (.ref s.heap.objs.size) { s with heap := h', toks := tk }) :
    wpAny (model prog w) A (call (.type "list") [.ref d]) Q E s := by
  refine kdl_call (src_raw lo) hh q hn fun h' tk acc c' kp hl it => ?_
  refine k h' tk c' acc.toList kp (by rw [hl]) ?_
  refine List.ext_getElem (by rw [Array.length_toList, List.length_map, Array.length_toList]; exact it.1) fun i h1 h2 => ?_
  obtain ⟨hi, e⟩ := it.2 i acc[i] (by rw [Array.getElem?_eq_getElem])
  rw [Array.getElem_toList, List.getElem_map, Array.getElem_toList]
  exact e
end
section
variable {X : Cx}
theorem vals_of : ∀ {ys : List V} {us : List Value}, ys.length = us.length → (∀ (i : Nat) (y : V) (v : Value), ys[i]? = some y → us[i]? = some v → RelV y v) → Vals ys us
  | [], [], _, _ => .nil
  | [], _ :: _, h, _ => by cases h
  | _ :: _, [], h, _ => by cases h
  | y :: ys, u :: us, h, k => .cons (k 0 y u rfl rfl) (vals_of (by simpa using h) fun i a b h1 h2 => k (i + 1) a b (by simpa using h1) (by simpa using h2))
theorem kV_rel {P : Program} {w : World} {k : L2.Key} {u : Value} (h : (mixKind P w).is k u = true) : RelV (kV k) u := by
  rcases keyIs_shape h with ⟨i, t, rfl, rfl⟩ | ⟨x, t, rfl, rfl⟩
  · exact ⟨t, rfl⟩
  · exact ⟨t, rfl⟩
/-- the keys of a dict, as values of the abstract heap: texts, ints; the tuples that are its keys -/
def KeysAre (H : Hp) (a : Addr) (ys : List V) : Prop :=
  (∃ kvs : List (L2.Key × V), H a = some (.dK kvs) ∧ ys = kvs.map fun p => kV p.1) ∨ ∃ (kvs : List (List L2.Key × V)), H a = some (.dT kvs) ∧ Paired (fun (p : List L2.Key × V) y => ∃ b, y = V.ref b ∧ H b = some (.tup (p.1.map kV))) kvs ys
theorem call_list_dict (hc : X.calm = true) : CallR X (.type "list") (fun xs H Q => ∃ a, xs = [.ref a] ∧ ((∃ kvs : List (L2.Key × V), H a = some (.dK kvs)) ∨ ∃ kvs : List (List L2.Key × V), H a = some (.dT kvs)) ∧ ∀ l ys, KeysAre H a ys → H l = none → Q (.ref l) (upd H l (.lst ys))) := by
  intro pins s σ H xs us Q I r h
  obtain ⟨a, rfl, hd, q⟩ := h
  obtain ⟨u, rfl, rx⟩ := vals1 r
  cases rx
  have fin : ∀ {es : Array DictEntry} {ep : Nat} {ys : List V}, (a == sysModules) = false → s.heap.DictRaw a es ep → es.size ≤ sizeLine → Vals ys (es.toList.map (·.key)) → KeysAre H a ys → wpAny (model X.prog X.w) X.A (call (.type "list") [.ref a]) (EP X pins σ Q) X.xe s := by
    intro es ep ys lo raw hz rv ka
    refine list_raw lo (I.ok.hd hc) raw hz fun h' tk c' acc kp e ea => ?_
    subst ea
    exact ⟨.ref s.heap.objs.size, _, I.laid (t' := tk) kp (Nat.le_refl _) (show ObjOk X.prog X.w _ h' _ (.lst ys) from ⟨by rw [rv.length, List.length_map, Array.length_toList]; exact hz, _, c', rv, e⟩), rfl, q _ _ ka (I.hok.fresh (Nat.le_refl _))⟩
  rcases hd with ⟨kvs, e⟩ | ⟨kvs, e⟩
  · obtain ⟨z, lo, vs, rel, dd⟩ := dk_of I.hok e
    obtain ⟨es, ep, raw, hs, hk⟩ := dd.raw
    have hl := rel.length
    refine fin (ys := kvs.map fun p => kV p.1) lo raw (by rw [hs, ← hl]; exact z) ?_ (.inl ⟨kvs, e, rfl⟩)
    have ek := rel.keys
    refine vals_of (by have e0 : es.toList.length = es.size := Array.length_toList; rw [List.length_map, List.length_map, e0, hs, hl]) fun i y v h1 h2 => ?_
    rw [List.getElem?_map] at h1 h2
    obtain ⟨en, h3, rfl⟩ := Option.map_eq_some_iff.mp h2
    obtain ⟨p, h4, rfl⟩ := Option.map_eq_some_iff.mp h1
    rw [Array.getElem?_toList] at h3
    obtain ⟨hi, h5⟩ := Array.getElem?_eq_some_iff.mp h3
    subst h5
    have h6 : vs[i]? = some (p.1, (vs[i]'(by omega)).2) := by
      have h7 : (kvs.map (·.1))[i]? = some p.1 := by rw [List.getElem?_map, h4]; rfl
      rw [ek, List.getElem?_map, List.getElem?_eq_getElem (show i < vs.length by omega)] at h7
      rw [List.getElem?_eq_getElem (show i < vs.length by omega)]
      have h8 := Option.some.inj h7
      rw [← h8]
    exact kV_rel (hk i hi p.1 _ h6).1
  · obtain ⟨z, lo, xs, rel, dd⟩ := dt_of I.hok e
    obtain ⟨es, ep, raw, hs, hk⟩ := dd.raw
    have hl := Paired.length rel
    refine fin (ys := xs.map fun p => V.ref p.2.1) lo raw (by rw [hs, ← hl]; exact z) ?_ (.inr ⟨kvs, e, ?_⟩)
    · refine vals_of (by have e0 : es.toList.length = es.size := Array.length_toList; rw [List.length_map, List.length_map, e0, hs]) fun i y v h1 h2 => ?_
      rw [List.getElem?_map] at h1 h2
      obtain ⟨en, h3, rfl⟩ := Option.map_eq_some_iff.mp h2
      obtain ⟨p, h4, rfl⟩ := Option.map_eq_some_iff.mp h1
      rw [Array.getElem?_toList] at h3
      obtain ⟨hi, h5⟩ := Array.getElem?_eq_some_iff.mp h3
      subst h5
      obtain ⟨y, h6, h7, _⟩ := hk i hi
      rw [h4] at h6
      cases h6
      exact h7
    · clear hk hs raw z dd fin hl e
      induction rel with
      | nil => exact .nil
      | cons h t ih => exact .cons ⟨_, rfl, h.2.1⟩ ih
end
end Ev

/-! Ev, part C: the operations on values keep what the evaluation says. -/
namespace Ev
open PySem L2 PyProof.Rows
section
variable {X : Cx}
/-- sum of a tuple of ints -/
def rSumT (K : PySem.W.Frag) : List V → Hp → VK → Prop := fun vs H Q => ∃ (a : Addr) (ns : List Int), vs = [V.ref a] ∧ SqT K H a (ns.map V.int) ∧ Q (.int ns.sum) H
theorem cr_sumT (hc : X.calm = true) : CallR X (.builtin "sum") (rSumT X.K) := by
  intro pins s σ H vs us Q I r h
  obtain ⟨a, ns, rfl, hs, q⟩ := h
  obtain ⟨its, rv, hl, _⟩ := I.tuple hs
  rw [Vals.ref1 r]
  have hi := rv.ints
  obtain ⟨xs, ex⟩ := hi.allInts.items
  have hn : numsOf (intItems xs).toList = ns := by rw [← ex]; exact hi.numsOf
  rw [nums_intItems] at hn
  rw [ex] at hl
  refine PySem.W.ktm_sumG (I.ok.hd hc) hl fun h' tk t' hk => ?_
  refine ⟨.int _, H, I.kept hk, ?_, q⟩
  rw [preSum_eq, List.take_of_length_le (by simp), hn]
  exact ⟨_, rfl⟩
end
section
variable {c : Cn} {X : Cx}
theorem repInts {c : Cn} {Z : Hp} : ∀ {ds : List D} {ns : List Int} {vs : List V}, intsOf ds = some ns → RepL c Z ds vs → vs = ns.map V.int
  | [], ns, vs, h, q => by cases h; exact q
  | .int i :: r, ns, vs, h, q => by
    obtain ⟨v, w, rfl, q1, q2⟩ := q
    cases e : intsOf r with
    | none => simp [intsOf, e] at h
    | some ms =>
      have : ns = i :: ms := by simpa [intsOf, e] using h.symm
      subst this
      rw [repInts e q2]
      have q1' : v = V.int i := q1
      rw [q1', List.map_cons]
  | .non :: r, ns, vs, h, q => by simp [intsOf] at h
  | .bl _ :: r, ns, vs, h, q => by simp [intsOf] at h
  | .str _ :: r, ns, vs, h, q => by simp [intsOf] at h
  | .ty _ :: r, ns, vs, h, q => by simp [intsOf] at h
  | .cl _ :: r, ns, vs, h, q => by simp [intsOf] at h
  | .tup _ :: r, ns, vs, h, q => by simp [intsOf] at h
  | .lst _ :: r, ns, vs, h, q => by simp [intsOf] at h
  | .dK _ _ :: r, ns, vs, h, q => by simp [intsOf] at h
  | .dT _ _ :: r, ns, vs, h, q => by simp [intsOf] at h
  | .ins _ _ :: r, ns, vs, h, q => by simp [intsOf] at h
  | .scr _ :: r, ns, vs, h, q => by simp [intsOf] at h
theorem repBools {c : Cn} {Z : Hp} : ∀ {ds : List D} {ns : List Bool} {vs : List V}, boolsOf ds = some ns → RepL c Z ds vs → vs = ns.map V.bl
  | [], ns, vs, h, q => by cases h; exact q
  | .bl i :: r, ns, vs, h, q => by
    obtain ⟨v, w, rfl, q1, q2⟩ := q
    cases e : boolsOf r with
    | none => simp [boolsOf, e] at h
    | some ms =>
      have : ns = i :: ms := by simpa [boolsOf, e] using h.symm
      subst this
      rw [repBools e q2]
      have q1' : v = V.bl i := q1
      rw [q1', List.map_cons]
  | .non :: r, ns, vs, h, q => by simp [boolsOf] at h
  | .int _ :: r, ns, vs, h, q => by simp [boolsOf] at h
  | .str _ :: r, ns, vs, h, q => by simp [boolsOf] at h
  | .ty _ :: r, ns, vs, h, q => by simp [boolsOf] at h
  | .cl _ :: r, ns, vs, h, q => by simp [boolsOf] at h
  | .tup _ :: r, ns, vs, h, q => by simp [boolsOf] at h
  | .lst _ :: r, ns, vs, h, q => by simp [boolsOf] at h
  | .dK _ _ :: r, ns, vs, h, q => by simp [boolsOf] at h
  | .dT _ _ :: r, ns, vs, h, q => by simp [boolsOf] at h
  | .ins _ _ :: r, ns, vs, h, q => by simp [boolsOf] at h
  | .scr _ :: r, ns, vs, h, q => by simp [boolsOf] at h
/- data as the library's data -/
mutual
theorem Rep.dp {c : Cn} {Z H : Hp} (h : Same Z H) : ∀ (d : D) (pd : PyData) (x : V), toPy d = some pd → Rep c Z d x → Dp c.K H x pd
  | .non, _, _, e, q => by cases e; rw [show _ = V.non from q]; exact .non
  | .bl b, _, _, e, q => by cases e; rw [show _ = V.bl b from q]; exact .bl b
  | .int i, _, _, e, q => by cases e; rw [show _ = V.int i from q]; exact .int i
  | .str s, _, _, e, q => by cases e; rw [show _ = V.str s from q]; exact .str s
  | .tup ds, pd, _, e, q => by
    obtain ⟨a, vs, rfl, s, r⟩ := q
    cases e1 : toPys ds with
    | none => simp [toPy, e1] at e
    | some ps =>
      have : pd = .tuple ps := by simpa [toPy, e1] using e.symm
      subst this
      exact Dp.tup (sqT_mono h s).sq (RepL.dp h ds ps vs e1 r)
  | .lst ds, pd, _, e, q => by
    obtain ⟨a, vs, rfl, s, r⟩ := q
    cases e1 : toPys ds with
    | none => simp [toPy, e1] at e
    | some ps =>
      have : pd = .list ps := by simpa [toPy, e1] using e.symm
      subst this
      exact .lst (SqL.of (h _ _ s)) (RepL.dp h ds ps vs e1 r)
  | .ty _, _, _, e, _ => by simp [toPy] at e
  | .cl _, _, _, e, _ => by simp [toPy] at e
  | .dK _ _, _, _, e, _ => by simp [toPy] at e
  | .dT _ _, _, _, e, _ => by simp [toPy] at e
  | .ins _ _, _, _, e, _ => by simp [toPy] at e
  | .scr _, _, _, e, _ => by simp [toPy] at e
theorem RepL.dp {c : Cn} {Z H : Hp} (h : Same Z H) : ∀ (ds : List D) (ps : List PyData) (vs : List V), toPys ds = some ps → RepL c Z ds vs → DpAll c.K H vs ps
  | [], _, _, e, q => by cases e; rw [show _ = [] from q]; exact .nil
  | d :: ds, ps, _, e, q => by
    obtain ⟨v, r, rfl, q1, q2⟩ := q
    cases e1 : toPy d with
    | none => simp [toPys, e1] at e
    | some p =>
      cases e2 : toPys ds with
      | none => simp [toPys, e1, e2] at e
      | some s =>
        have : ps = p :: s := by simpa [toPys, e1, e2] using e.symm
        subst this
        exact .cons (Rep.dp h d p v e1 q1) (RepL.dp h ds s r e2 q2)
end
theorem Vw.dp {c : Cn} {Z H : Hp} (h : Same Z H) {d : D} {pd : PyData} {x : V} (e : toPy d = some pd) (q : Vw c Z H d x) : Dp c.K H x pd := by
  cases d with
  | dK _ _ => simp [toPy] at e
  | dT _ _ => simp [toPy] at e
  | lst ds =>
    obtain ⟨a, vs, rfl, s, r⟩ := q
    cases e1 : toPys ds with
    | none => simp [toPy, e1] at e
    | some ps =>
      have : pd = .list ps := by simpa [toPy, e1] using e.symm
      subst this
      exact .lst (SqL.of s) (RepL.dp h ds ps vs e1 r)
  | _ => exact Rep.dp h _ pd x e q
/-! ### dicts -/
theorem keyD_rep {c : Cn} {Z H : Hp} {d : D} {k : L2.Key} {x : V} (e : keyD d = some k) (q : Vw c Z H d x) : x = kV k := by
  cases d with
  | int i => cases e; exact q
  | str i => cases e; exact q
  | _ => cases e
theorem keysD_rep {c : Cn} {Z : Hp} : ∀ {ds : List D} {ks : List L2.Key} {xs : List V}, keysD ds = some ks → RepL c Z ds xs → xs = ks.map kV
  | [], ks, xs, e, q => by
    cases e
    exact q
  | d :: ds, ks, xs, e, q => by
    obtain ⟨v, r, rfl, q1, q2⟩ := q
    cases e1 : keyD d with
    | none => simp [keysD, e1] at e
    | some k =>
      cases e2 : keysD ds with
      | none => simp [keysD, e1, e2] at e
      | some ks' =>
        have : ks = k :: ks' := by simpa [keysD, e1, e2] using e.symm
        subst this
        have h1 : v = kV k := by
          cases d with
          | int i => cases e1; exact q1
          | str i => cases e1; exact q1
          | _ => cases e1
        rw [h1, keysD_rep e2 q2]
        rfl
theorem keyT_rep {c : Cn} {Z H : Hp} {d : D} {k : List L2.Key} {x : V} (hz : Same Z H) (e : keyT d = some k) (q : Vw c Z H d x) : ∃ b, x = .ref b ∧ H b = some (.tup (k.map kV)) := by
  unfold keyT at e
  split at e
  · obtain ⟨a, vs, rfl, s1, r1⟩ := q
    refine ⟨a, rfl, ?_⟩
    rw [← keysD_rep e r1]
    exact hz _ _ s1
  · cases e
section
variable {κ : Type} [DecidableEq κ] {c : Cn} {Z : Hp}
theorem dLook_rep {q : κ} : ∀ {kvs : List (κ × V)} {ds : List D}, RepL c Z ds (kvs.map (·.2)) → (∀ d, dLook (kvs.map (·.1)) ds q = some d → ∃ v, valV kvs q = some v ∧ Rep c Z d v) ∧ (dLook (kvs.map (·.1)) ds q).isSome = (valV kvs q).isSome
  | [], ds, h => by
    cases ds with
    | nil => exact ⟨fun d e => (by cases e), rfl⟩
    | cons d ds => obtain ⟨_, _, e, _⟩ := h; cases e
  | p :: kvs, [], h => by cases (show (p :: kvs).map (·.2) = [] from h)
  | p :: kvs, d :: ds, h => by
    obtain ⟨v, r, e, h1, h2⟩ := h
    cases e
    by_cases z : p.1 = q
    · have e1 : dLook ((p :: kvs).map (·.1)) (d :: ds) q = some d := by simp [dLook, z]
      rw [e1, valV_pos z]
      exact ⟨fun d' e => by cases e; exact ⟨_, rfl, h1⟩, rfl⟩
    · have e1 : dLook ((p :: kvs).map (·.1)) (d :: ds) q = dLook (kvs.map (·.1)) ds q := by simp [dLook, z]
      rw [e1, valV_neg z]
      exact dLook_rep h2
theorem dRepl_rep {q : κ} {e : D} {v : V} (he : Rep c Z e v) : ∀ {kvs : List (κ × V)} {ds : List D}, RepL c Z ds (kvs.map (·.2)) → RepL c Z (dRepl (kvs.map (·.1)) ds q e) ((kvs.map (fun kv => if kv.1 = q then (kv.1, v) else kv)).map (·.2))
  | [], ds, h => by
    cases ds with
    | nil => rfl
    | cons d ds => obtain ⟨_, _, e, _⟩ := h; cases e
  | p :: kvs, [], h => by cases (show (p :: kvs).map (·.2) = [] from h)
  | p :: kvs, d :: ds, h => by
    obtain ⟨w, r, e1, h1, h2⟩ := h
    cases e1
    have ih := dRepl_rep (q := q) he h2
    by_cases z : p.1 = q
    · simp only [List.map_cons, dRepl, if_pos z]
      exact ⟨_, _, rfl, he, ih⟩
    · simp only [List.map_cons, dRepl, if_neg z]
      exact ⟨_, _, rfl, h1, ih⟩
theorem dPut_rep {q : κ} {e : D} {v : V} (he : Rep c Z e v) {kvs : List (κ × V)} {ds : List D} (h : RepL c Z ds (kvs.map (·.2))) : (dPut (kvs.map (·.1)) ds q e).1 = (putK kvs q v).map (·.1) ∧ RepL c Z (dPut (kvs.map (·.1)) ds q e).2 ((putK kvs q v).map (·.2)) := by
  unfold dPut putK
  by_cases z : q ∈ kvs.map (·.1)
  · have z' : (kvs.any fun kv => decide (kv.1 = q)) = true := by
      obtain ⟨p, hp, e1⟩ := List.mem_map.mp z
      exact List.any_eq_true.mpr ⟨p, hp, by simpa using e1⟩
    rw [if_pos z, if_pos z']
    refine ⟨?_, dRepl_rep he h⟩
    show kvs.map (·.1) = _
    rw [List.map_map]
    apply List.map_congr_left
    intro p _
    by_cases y : p.1 = q <;> simp [y]
  · have z' : ¬ (kvs.any fun kv => decide (kv.1 = q)) = true := fun y => by
      obtain ⟨p, hp, e1⟩ := List.any_eq_true.mp y
      exact z (List.mem_map.mpr ⟨p, hp, by simpa using e1⟩)
    rw [if_neg z, if_neg z']
    simp only [List.map_append, List.map_cons, List.map_nil]
    exact ⟨trivial, RepL.append _ _ _ _ h (RepL.one he)⟩
end
abbrev UR := D → D → Option R
/-- an operation by values: what it asks, what it gives -/
def rBin (c : Cn) (f : D → D → Option R) : R2 := fun x y H Q => ∃ Z dx dy r, Same Z H ∧ Vw c Z H dx x ∧ Vw c Z H dy y ∧ f dx dy = some r ∧ ∀ z H', NewR c Z H r z H' → Q z H'
theorem newd {c : Cn} {Z H : Hp} {d : D} {z : V} (q : Rep c Z d z) : NewR c Z H (.d d) z H := .inl ⟨d, rfl, rfl, q⟩
theorem sl_eq : SL = sizeLine := by rw [sizeLine_eq]; rfl
theorem bin_ok (hK : X.K = c.K) (op : Operator) : OpR X (binaryOp op) (rBin c (binD op)) := by
  intro pins s σ H x y v u Q I rx ry h
  obtain ⟨Z, dx, dy, r, hz, vx, vy, e, k⟩ := h
  unfold binD at e
  split at e
  · cases e
    exact op_add pins s σ H x y v u Q I rx ry ⟨_, _, vx, vy, k _ _ (newd rfl)⟩
  · cases e
    exact op_sub pins s σ H x y v u Q I rx ry ⟨_, _, vx, vy, k _ _ (newd rfl)⟩
  · split at e
    · rename_i hc
      cases e
      exact op_mul pins s σ H x y v u Q I rx ry ⟨_, _, vx, vy, hc, k _ _ (newd rfl)⟩
    · cases e
  · split at e
    · rename_i hc
      cases e
      exact op_fdiv pins s σ H x y v u Q I rx ry ⟨_, _, vx, vy, hc, k _ _ (newd rfl)⟩
    · cases e
  · split at e
    · rename_i hc
      cases e
      exact op_mod pins s σ H x y v u Q I rx ry ⟨_, _, vx, vy, hc, k _ _ (newd rfl)⟩
    · cases e
  · split at e
    · rename_i hc
      cases e
      exact op_pow pins s σ H x y v u Q I rx ry ⟨_, _, vx, vy, hc, k _ _ (newd rfl)⟩
    · cases e
  · split at e
    · rename_i hc
      cases e
      exact op_shl pins s σ H x y v u Q I rx ry ⟨_, _, vx, vy, hc, k _ _ (newd rfl)⟩
    · cases e
  · split at e
    · rename_i hc
      cases e
      exact op_shr pins s σ H x y v u Q I rx ry ⟨_, _, vx, vy, hc, k _ _ (newd rfl)⟩
    · cases e
  · cases e
    exact op_and pins s σ H x y v u Q I rx ry ⟨_, _, vx, vy, k _ _ (newd rfl)⟩
  · cases e
    exact op_or pins s σ H x y v u Q I rx ry ⟨_, _, vx, vy, k _ _ (newd rfl)⟩
  · cases e
    exact op_xor pins s σ H x y v u Q I rx ry ⟨_, _, vx, vy, k _ _ (newd rfl)⟩
  · split at e
    · rename_i hc
      cases e
      exact op_add_str pins s σ H x y v u Q I rx ry ⟨_, _, vx, vy, by rw [← sl_eq]; exact hc, k _ _ (newd rfl)⟩
    · cases e
  · rename_i xs ys
    split at e
    · rename_i hc
      cases e
      obtain ⟨a, vs, rfl, s1, r1⟩ := vx
      obtain ⟨b, ws, rfl, s2, r2⟩ := vy
      have t1 := (sqT_mono hz s1).sq
      have t2 := (sqT_mono hz s2).sq
      rw [← hK] at t1 t2
      have l1 := RepL.len xs vs r1
      have l2 := RepL.len ys ws r2
      by_cases n1 : vs = []
      · subst n1
        have : xs = [] := by cases xs with | nil => rfl | cons _ _ => simp at l1
        subst this
        exact op_catA pins s σ H _ _ v u Q I rx ry ⟨a, b, [], ws, rfl, rfl, t1, t2, by simp; rw [l2, ← sl_eq]; simpa using hc, by simpa using k _ _ (newd ⟨b, ws, rfl, s2, r2⟩)⟩
      · by_cases n2 : ws = []
        · subst n2
          have : ys = [] := by cases ys with | nil => rfl | cons _ _ => simp at l2
          subst this
          refine op_catA pins s σ H _ _ v u Q I rx ry ⟨a, b, vs, [], rfl, rfl, t1, t2, by simp; rw [l1, ← sl_eq]; simpa using hc, ?_⟩
          have kk := k _ _ (newd (H := H) (d := .tup (xs ++ [])) ⟨a, vs, rfl, s1, by rw [List.append_nil]; exact r1⟩)
          simpa [n1] using kk
        · refine op_catA pins s σ H _ _ v u Q I rx ry ⟨a, b, vs, ws, rfl, rfl, t1, t2, by rw [l1, l2, ← sl_eq]; exact hc, ?_⟩
          exact ⟨fun z => absurd z n1, fun _ z => absurd z n2, fun _ _ p np => k _ _ (.inr (.inl ⟨p, vs ++ ws, xs ++ ys, rfl, rfl, np, rfl, RepL.append _ _ _ _ r1 r2⟩))⟩
    · cases e
  · rename_i xs ys
    split at e
    · rename_i hc
      cases e
      obtain ⟨a, vs, rfl, s1, r1⟩ := vx
      obtain ⟨b, ws, rfl, s2, r2⟩ := vy
      have l1 := RepL.len xs vs r1
      have l2 := RepL.len ys ws r2
      exact op_cat pins s σ H _ _ v u Q I rx ry ⟨a, b, vs, ws, rfl, rfl, s1, s2, by rw [l1, l2, ← sl_eq]; exact hc, fun p np => k _ _ (.inr (.inr ⟨p, vs ++ ws, xs ++ ys, rfl, rfl, np, rfl, RepL.append _ _ _ _ r1 r2⟩))⟩
    · cases e
  · rename_i xs n
    split at e
    · rename_i hc
      cases e
      obtain ⟨a, vs, rfl, s1, r1⟩ := vx
      have l1 := RepL.len xs vs r1
      exact op_rep pins s σ H _ _ v u Q I rx ry ⟨a, _, vs, rfl, vy, s1, hc.1, hc.2.1, by rw [l1, ← sl_eq]; exact hc.2.2, fun p np => k _ _ (.inr (.inr ⟨p, _, _, rfl, rfl, np, rfl, RepL.rep r1 _⟩))⟩
    · cases e
  · cases e
def rUn1 (c : Cn) (f : D → Option D) : V → Hp → VK → Prop := fun x H Q => ∃ Z dx d, Same Z H ∧ Vw c Z H dx x ∧ f dx = some d ∧ ∀ z, Rep c Z d z → Q z H
theorem un_ok (op : UnaryOp) : UnR X (unaryOp op) (rUn1 c (unD op)) := by
  intro pins s σ H x v Q I rx h
  obtain ⟨Z, dx, d, hz, vx, e, k⟩ := h
  unfold unD at e
  split at e
  · cases e
    exact un_neg pins s σ H x v Q I rx ⟨_, vx, k _ rfl⟩
  · cases e
    exact un_inv pins s σ H x v Q I rx ⟨_, vx, k _ rfl⟩
  · cases e
/-- a comparison -/
def rCmp (c : Cn) (f : D → D → Option Bool) : R2 := fun x y H Q => ∃ Z dx dy b, Same Z H ∧ Vw c Z H dx x ∧ Vw c Z H dy y ∧ f dx dy = some b ∧ Q (.bl b) H
theorem is_bools {X : Cx} {pins : List (Addr × Obj)} {σ : L2.St} {s : Shared} {H : Hp} {Q : VK} {a b : Bool} {v u : Value} (I : Inv X pins σ H s) (rx : RelV (.bl a) v) (ry : RelV (.bl b) u) (k : Q (.bl (a == b)) H) : wpAny (model X.prog X.w) X.A (compareOp .Is v u) (EP X pins σ Q) X.xe s := by
  cases (show v = Value.bool a from rx)
  cases (show u = Value.bool b from ry)
  show wpAny _ _ ((isSame (Value.bool a) (Value.bool b)) >>= fun z => pure (Value.bool z)) _ _ s
  have e : isSame (Value.bool a) (Value.bool b) = pure (a == b) := by cases a <;> cases b <;> rfl
  rw [e]
  exact wpAny_bind (wpAny_pure (wpAny_pure ⟨.bl (a == b), H, I, rfl, k⟩))
theorem isnot_bools {X : Cx} {pins : List (Addr × Obj)} {σ : L2.St} {s : Shared} {H : Hp} {Q : VK} {a b : Bool} {v u : Value} (I : Inv X pins σ H s) (rx : RelV (.bl a) v) (ry : RelV (.bl b) u) (k : Q (.bl (!(a == b))) H) : wpAny (model X.prog X.w) X.A (compareOp .IsNot v u) (EP X pins σ Q) X.xe s := by
  cases (show v = Value.bool a from rx)
  cases (show u = Value.bool b from ry)
  show wpAny _ _ ((isSame (Value.bool a) (Value.bool b)) >>= fun z => pure (Value.bool (!z))) _ _ s
  have e : isSame (Value.bool a) (Value.bool b) = pure (a == b) := by cases a <;> cases b <;> rfl
  rw [e]
  exact wpAny_bind (wpAny_pure (wpAny_pure ⟨.bl (!(a == b)), H, I, rfl, k⟩))
theorem lexLt_le : ∀ ns ms : List Int, HT.lexLt ns ms = !lexLe ms ns
  | [], [] => rfl
  | [], _ :: _ => rfl
  | _ :: _, [] => rfl
  | x :: xs, y :: ys => by
    rw [HT.lexLt_cons, lexLe]
    by_cases e : x = y
    · subst e
      rw [if_pos rfl, if_pos rfl, lexLt_le]
    · rw [if_neg e, if_neg (fun z => e z.symm)]
      by_cases h : x < y
      · rw [decide_eq_true h, decide_eq_false (by omega)]; rfl
      · rw [decide_eq_false h, decide_eq_true (by omega)]; rfl
theorem lexAt_shift (e r : Nat → Bool) (z : Bool) : ∀ k i, Ob.lexAt e r z (i + 1) k = Ob.lexAt (fun j => e (j + 1)) (fun j => r (j + 1)) z i k
  | 0, _ => rfl
  | k + 1, i => by
    rw [Ob.lexAt_succ, Ob.lexAt_succ, lexAt_shift e r z k (i + 1)]
theorem lexAt_le : ∀ ns ms : List Int, Ob.lexAt (fun j => decide (ns.getD j 0 = ms.getD j 0)) (fun j => decide (ns.getD j 0 ≤ ms.getD j 0)) (decide (ns.length ≤ ms.length)) 0 (min ns.length ms.length) = lexLe ns ms
  | [], ms => by simp [Ob.lexAt_zero, lexLe]
  | n :: ns, [] => by simp [Ob.lexAt_zero, lexLe]
  | n :: ns, m :: ms => by
    have e1 : min (n :: ns).length (m :: ms).length = min ns.length ms.length + 1 := by simp only [List.length_cons]; omega
    have e2 : decide ((n :: ns).length ≤ (m :: ms).length) = decide (ns.length ≤ ms.length) := by simp
    rw [e1, e2, Ob.lexAt_succ, lexAt_shift, lexLe]
    have e3 := lexAt_le ns ms
    simp only [List.getD_cons_succ, List.getD_cons_zero, decide_eq_true_eq]
    rw [e3]
theorem dp_list {Z H : Hp} (h : Same Z H) {ds : List D} {ps : List PyData} {x : V} (e : toPys ds = some ps) (q : Vw c Z H (.lst ds) x) : Dp c.K H x (.list ps) := Vw.dp h (by simp [toPy, e]) q
theorem eqD_some {a b : D} {k : Bool} (h : eqD a b = some k) : ∃ x y, toPy a = some x ∧ toPy b = some y ∧ SeqAt.shaped x = true ∧ SeqAt.shaped y = true ∧ k = PyData.eqv x y := by
  unfold eqD at h
  split at h
  · rename_i x y ex ey
    split at h
    · rename_i hs
      rw [Bool.and_eq_true] at hs
      exact ⟨x, y, ex, ey, hs.1, hs.2, (Option.some.inj h).symm⟩
    · cases h
  · cases h
theorem inD_some {x : D} {ys : List D} {k : Bool} (h : inD x ys = some k) : ∃ p ps, toPy x = some p ∧ toPys ys = some ps ∧ SeqAt.shaped p = true ∧ SeqAt.shaped (.list ps) = true ∧ k = ps.any fun z => PyData.eqv z p := by
  unfold inD at h
  split at h
  · rename_i p ps e1 e2
    split at h
    · rename_i hs
      rw [Bool.and_eq_true] at hs
      exact ⟨p, ps, e1, e2, hs.1, hs.2, (Option.some.inj h).symm⟩
    · cases h
  · cases h
theorem in_tup (hu : X.A.units + 65 < cLine) {neg : Bool} {pins : List (Addr × Obj)} {s : Shared} {σ : L2.St} {H : Hp} {x y : V} {v u : Value} {Q : VK} (I : Inv X pins σ H s) (rx : RelV x v) (ry : RelV y u) {d : PyData} {ds : List PyData} (hd : Dp X.K H x d) (he : Dp X.K H y (.tuple ds))
    (sd : SeqAt.shaped d = true) (se : SeqAt.shaped (.list ds) = true) (q : Q (.bl (if neg then !ds.any (fun z => PyData.eqv z d) else ds.any fun z => PyData.eqv z d)) H) : wpAny (model X.prog X.w) X.A (compareOp (if neg then .NotIn else .In) v u) (EP X pins σ Q) X.xe s := by
  obtain ⟨as, r1⟩ := Dp.reads I d x v hd rx
  obtain ⟨bs, r2⟩ := Dp.reads I (.tuple ds) y u he ry
  have c1 : PyData.canLayAll0 ds = true := by
    have := SeqAt.canLay_of_shaped se
    simpa only [PyData.canLay0] using this
  have c2 : d.depth ≤ 64 := SeqAt.depth_of_shaped sd
  have c3 : X.A.units + 1 + min (PyData.depthAll ds) d.depth < cLine := by
    have : min (PyData.depthAll ds) d.depth ≤ d.depth := Nat.min_le_right _ _
    omega
  cases neg with
  | true => exact SeqAt.notIn_tuple_reads r2 r1 c1 (SeqAt.canLay_of_shaped sd) c3 ⟨.bl _, H, I, rfl, q⟩
  | false => exact SeqAt.in_tuple_reads r2 r1 c1 (SeqAt.canLay_of_shaped sd) c3 ⟨.bl _, H, I, rfl, q⟩
theorem isNon_ok {Z H : Hp} {dx : D} {x : V} (vx : Vw c Z H dx x) : decide (x = .non) = isNon dx := by
  cases dx with
  | non => cases (show x = .non from vx); rfl
  | bl b => cases (show x = .bl b from vx); rfl
  | int b => cases (show x = .int b from vx); rfl
  | str b => cases (show x = .str b from vx); rfl
  | ty b => cases (show x = .ty b.nm from vx); rfl
  | cl b => obtain ⟨_, _, rfl⟩ := vx; rfl
  | tup b => obtain ⟨_, _, rfl, _⟩ := vx; rfl
  | lst b => obtain ⟨_, _, rfl, _⟩ := vx; rfl
  | dK b _ => obtain ⟨_, _, _, rfl, _⟩ := vx; rfl
  | dT b _ => obtain ⟨_, _, _, rfl, _⟩ := vx; rfl
  | ins k b => obtain ⟨_, _, _, _, rfl, _⟩ := vx; rfl
  | scr b => obtain ⟨_, rfl, _⟩ := vx; rfl
theorem cmp_ok (hK : X.K = c.K) (hu : X.A.units + 65 < cLine) (op : CmpOp) : OpR X (compareOp op) (rCmp c (cmpD op)) := by
  intro pins s σ H x y v u Q I rx ry h
  obtain ⟨Z, dx, dy, b, hz, vx, vy, e, k⟩ := h
  have hu1 : X.A.units < cLine := by omega
  have hu2 : X.A.units + 64 < cLine := by omega
  cases op with
  | Lt =>
    unfold cmpD at e
    simp only at e
    split at e
    · cases e
      exact op_lt pins s σ H x y v u Q I rx ry ⟨_, _, vx, vy, k⟩
    · rename_i xs ys
      split at e
      · rename_i ns ms e1 e2
        cases e
        obtain ⟨a, vs, rfl, s1, r1⟩ := vx
        obtain ⟨a', ws, rfl, s2, r2⟩ := vy
        rw [repInts e1 r1] at s1
        rw [repInts e2 r2] at s2
        exact op_ltT hu1 pins s σ H _ _ v u Q I rx ry ⟨a, a', ns, ms, rfl, rfl, by rw [hK]; exact (sqT_mono hz s1).sq, by rw [hK]; exact (sqT_mono hz s2).sq, by rw [lexLt_le]; exact k⟩
      · cases e
    · cases e
  | LtE =>
    unfold cmpD at e
    simp only at e
    split at e
    · cases e
      exact op_le pins s σ H x y v u Q I rx ry ⟨_, _, vx, vy, k⟩
    · rename_i xs ys
      split at e
      · rename_i ns ms e1 e2
        cases e
        obtain ⟨a, vs, rfl, s1, r1⟩ := vx
        obtain ⟨a', ws, rfl, s2, r2⟩ := vy
        rw [repInts e1 r1] at s1
        rw [repInts e2 r2] at s2
        exact op_leT hu1 pins s σ H _ _ v u Q I rx ry ⟨a, a', ns, ms, rfl, rfl, by rw [hK]; exact (sqT_mono hz s1).sq, by rw [hK]; exact (sqT_mono hz s2).sq, by rw [lexAt_le]; exact k⟩
      · cases e
    · cases e
  | Gt =>
    unfold cmpD at e
    simp only at e
    split at e
    · cases e
      exact op_gt pins s σ H x y v u Q I rx ry ⟨_, _, vx, vy, k⟩
    · cases e
  | GtE =>
    unfold cmpD at e
    simp only at e
    split at e
    · cases e
      exact op_ge pins s σ H x y v u Q I rx ry ⟨_, _, vx, vy, k⟩
    · cases e
  | Eq =>
    obtain ⟨px, py, e1, e2, s1, s2, rfl⟩ := eqD_some (show eqD dx dy = some b from e)
    exact op_eqD hu2 pins s σ H x y v u Q I rx ry ⟨px, py, by rw [hK]; exact Vw.dp hz e1 vx, by rw [hK]; exact Vw.dp hz e2 vy, s1, s2, k⟩
  | NotEq =>
    have e' : (eqD dx dy).map (!·) = some b := e
    cases e0 : eqD dx dy with
    | none => rw [e0] at e'; cases e'
    | some b0 =>
      rw [e0] at e'
      cases e'
      obtain ⟨px, py, e1, e2, s1, s2, rfl⟩ := eqD_some e0
      exact op_neD hu2 pins s σ H x y v u Q I rx ry ⟨px, py, by rw [hK]; exact Vw.dp hz e1 vx, by rw [hK]; exact Vw.dp hz e2 vy, s1, s2, k⟩
  | Is =>
    unfold cmpD at e
    simp only at e
    split at e
    · cases e
      have hy : y = .non := vy
      exact op_isN pins s σ H x y v u Q I rx ry ⟨hy, by rw [isNon_ok vx]; exact k⟩
    · split at e
      · cases e
        cases (show x = .bl _ from vx)
        cases (show y = .bl _ from vy)
        exact is_bools I rx ry k
      · cases e
    · cases e
  | IsNot =>
    unfold cmpD at e
    simp only at e
    split at e
    · cases e
      have hy : y = .non := vy
      exact op_notN pins s σ H x y v u Q I rx ry ⟨hy, by rw [isNon_ok vx]; exact k⟩
    · split at e
      · cases e
        cases (show x = .bl _ from vx)
        cases (show y = .bl _ from vy)
        exact isnot_bools I rx ry k
      · cases e
    · cases e
  | In =>
    unfold cmpD at e
    simp only at e
    split at e
    · obtain ⟨px, ps, e1, e2, s1, s2, rfl⟩ := inD_some e
      exact op_inD hu pins s σ H x y v u Q I rx ry ⟨px, ps, by rw [hK]; exact Vw.dp hz e1 vx, by rw [hK]; exact dp_list hz e2 vy, s1, s2, k⟩
    · obtain ⟨px, ps, e1, e2, s1, s2, rfl⟩ := inD_some e
      exact in_tup hu (neg := false) I rx ry (by rw [hK]; exact Vw.dp hz e1 vx) (by rw [hK]; exact Vw.dp (d := .tup _) hz (by simp [toPy, e2]) vy) s1 s2 k
    · cases e0 : keyD dx with
      | none => rw [e0] at e; cases e
      | some q =>
        rw [e0] at e
        cases e
        obtain ⟨a, kvs, vs, rfl, s1, rfl, rfl, r1⟩ := vy
        obtain rfl : u = Value.ref a := ry
        cases keyD_rep e0 vx
        exact d_in (by omega) I (DGet.k s1) rx fun s' I' => ⟨.bl (valV kvs q).isSome, H, I', rfl, by rw [← (dLook_rep r1).2]; exact k⟩
    · cases e0 : keyT dx with
      | none => rw [e0] at e; cases e
      | some q =>
        rw [e0] at e
        cases e
        obtain ⟨a, kvs, vs, rfl, s1, rfl, rfl, r1⟩ := vy
        obtain rfl : u = Value.ref a := ry
        obtain ⟨b, rfl, hb⟩ := keyT_rep hz e0 vx
        exact d_in (by omega) I (DGet.t s1 hb) rx fun s' I' => ⟨.bl (valV kvs q).isSome, H, I', rfl, by rw [← (dLook_rep r1).2]; exact k⟩
    · cases e
  | NotIn =>
    unfold cmpD at e
    simp only at e
    split at e
    · rename_i ys
      cases e0 : inD dx ys with
      | none => rw [e0] at e; cases e
      | some b0 =>
        rw [e0] at e
        cases e
        obtain ⟨px, ps, e1, e2, s1, s2, rfl⟩ := inD_some e0
        exact op_notInD hu pins s σ H x y v u Q I rx ry ⟨px, ps, by rw [hK]; exact Vw.dp hz e1 vx, by rw [hK]; exact dp_list hz e2 vy, s1, s2, k⟩
    · rename_i ys
      cases e0 : inD dx ys with
      | none => rw [e0] at e; cases e
      | some b0 =>
        rw [e0] at e
        cases e
        obtain ⟨px, ps, e1, e2, s1, s2, rfl⟩ := inD_some e0
        exact in_tup hu (neg := true) I rx ry (by rw [hK]; exact Vw.dp hz e1 vx) (by rw [hK]; exact Vw.dp (d := .tup _) hz (by simp [toPy, e2]) vy) s1 s2 k
    · cases e0 : keyD dx with
      | none => rw [e0] at e; cases e
      | some q =>
        rw [e0] at e
        cases e
        obtain ⟨a, kvs, vs, rfl, s1, rfl, rfl, r1⟩ := vy
        obtain rfl : u = Value.ref a := ry
        cases keyD_rep e0 vx
        exact d_notIn (by omega) I (DGet.k s1) rx fun s' I' => ⟨.bl (!(valV kvs q).isSome), H, I', rfl, by rw [← (dLook_rep r1).2]; exact k⟩
    · cases e0 : keyT dx with
      | none => rw [e0] at e; cases e
      | some q =>
        rw [e0] at e
        cases e
        obtain ⟨a, kvs, vs, rfl, s1, rfl, rfl, r1⟩ := vy
        obtain rfl : u = Value.ref a := ry
        obtain ⟨b, rfl, hb⟩ := keyT_rep hz e0 vx
        exact d_notIn (by omega) I (DGet.t s1 hb) rx fun s' I' => ⟨.bl (!(valV kvs q).isSome), H, I', rfl, by rw [← (dLook_rep r1).2]; exact k⟩
    · cases e

theorem atI_rep {Z : Hp} {ds : List D} {vs : List V} {i : Int} {d : D} (q : RepL c Z ds vs) (h : atI ds i = some d) : ∃ v, atI vs i = some v ∧ Rep c Z d v := by
  unfold atI at h ⊢
  rw [RepL.len ds vs q]
  cases e : ixN ds.length i with
  | none => rw [e] at h; cases h
  | some j =>
    rw [e] at h
    exact RepL.get ds vs j d q h
/-- an item -/
def rIdx (c : Cn) (f : D → D → Option D) : R2 := fun x y H Q => ∃ Z dx dy d, Same Z H ∧ Vw c Z H dx x ∧ Vw c Z H dy y ∧ f dx dy = some d ∧ ∀ z, Rep c Z d z → Q z H
theorem ix_dct (hu : X.A.units + 1 < cLine) : IxR X (fun x y H Q => ∃ a v, x = .ref a ∧ DGet H a y (some v) ∧ Q v H) := by
  intro value slice pins s σ H x y v u Q I rx ry h hs
  obtain ⟨a, w, rfl, g, q⟩ := h
  obtain rfl : v = Value.ref a := rx
  exact tail_any (dict_typeIs I g) PySem.F.slot_dict_getitem.lookup (d_getItem hu I g ry fun w' s' I' r' => ⟨w, H, I', r', q⟩) hs
theorem idx_ok (hK : X.K = c.K) (hu : X.A.units + 65 < cLine) : IxR X (rIdx c idxD) := by
  intro value slice pins s σ H x y v u Q I rx ry h hs
  obtain ⟨Z, dx, dy, d, hz, vx, vy, e, k⟩ := h
  unfold idxD at e
  split at e
  · obtain ⟨a, vs, rfl, s1, r1⟩ := vx
    obtain ⟨w, e1, r⟩ := atI_rep r1 e
    exact ix_list value slice pins s σ H _ y v u Q I rx ry ⟨a, vs, _, w, rfl, vy, SqL.of s1, e1, k w r⟩ hs
  · obtain ⟨a, vs, rfl, s1, r1⟩ := vx
    obtain ⟨w, e1, r⟩ := atI_rep r1 e
    exact ix_tup value slice pins s σ H _ y v u Q I rx ry ⟨a, vs, _, w, rfl, vy, by rw [hK]; exact (sqT_mono hz s1).sq, e1, k w r⟩ hs
  · split at e
    · rename_i q e0
      obtain ⟨a, kvs, vs, rfl, s1, rfl, rfl, r1⟩ := vx
      cases keyD_rep e0 vy
      obtain ⟨w, e1, r⟩ := (dLook_rep r1).1 _ e
      exact ix_dct (by omega) value slice pins s σ H _ _ v u Q I rx ry ⟨a, w, rfl, by rw [← e1]; exact DGet.k s1, k w r⟩ hs
    · cases e
  · split at e
    · rename_i q e0
      obtain ⟨a, kvs, vs, rfl, s1, rfl, rfl, r1⟩ := vx
      obtain ⟨b, rfl, hb⟩ := keyT_rep hz e0 vy
      obtain ⟨w, e1, r⟩ := (dLook_rep r1).1 _ e
      exact ix_dct (by omega) value slice pins s σ H _ _ v u Q I rx ry ⟨a, w, rfl, by rw [← e1]; exact DGet.t s1 hb, k w r⟩ hs
    · cases e
  · rename_i ns z
    obtain ⟨a, rfl, s1⟩ := vx
    obtain ⟨w, e1, r⟩ := atI_rep (RepL.ints (c := c) (Z := Z) ns) e
    exact ix_list value slice pins s σ H _ y v u Q I rx ry ⟨a, _, _, w, rfl, vy, by rw [hK]; exact hz.seq s1, e1, k w r⟩ hs
  · cases e
theorem cut_rep {Z : Hp} {ds : List D} {vs : List V} (q : RepL c Z ds vs) (lo hi : Option Int) : RepL c Z (cutD ds lo hi) (cutV vs lo hi) := by
  unfold cutD cutV
  rw [RepL.len ds vs q]
  exact RepL.take _ _ _ (RepL.drop _ _ _ q)
def rSlc (c : Cn) : V → Option Int → Option Int → Hp → VK → Prop := fun x lo hi H Q => ∃ Z dx r, Same Z H ∧ Vw c Z H dx x ∧ slcP dx lo hi = some r ∧ ∀ z H', NewR c Z H r z H' → Q z H'
theorem slc_ok (hK : X.K = c.K) : SlR X (rSlc c) := by
  intro pins s σ H x v vl vu lo hi sl Q I rx hs pl pu h
  obtain ⟨Z, dx, r, hz, vx, e, k⟩ := h
  unfold slcP at e
  split at e
  · rename_i ns
    cases e
    obtain ⟨a, rfl, s1⟩ := vx
    refine sl_list pins s σ H _ v vl vu lo hi sl Q I rx hs pl pu ⟨a, _, rfl, by rw [hK]; exact hz.seq s1, fun p np => k _ _ (.inr (.inr ⟨p, _, _, rfl, rfl, np, rfl, ?_⟩))⟩
    have : cutV (ns.map V.int) lo hi = (cutI ns lo hi).map V.int := by unfold cutV cutI; simp
    rw [this]
    exact RepL.ints _
  · cases e
    obtain ⟨a, vs, rfl, s1, r1⟩ := vx
    exact sl_list pins s σ H _ v vl vu lo hi sl Q I rx hs pl pu ⟨a, vs, rfl, SqL.of s1, fun p np => k _ _ (.inr (.inr ⟨p, _, _, rfl, rfl, np, rfl, cut_rep r1 lo hi⟩))⟩
  · rename_i xs
    cases e
    obtain ⟨a, vs, rfl, s1, r1⟩ := vx
    refine sl_tupA pins s σ H _ v vl vu lo hi sl Q I rx hs pl pu ⟨a, vs, rfl, by rw [hK]; exact (sqT_mono hz s1).sq, fun w => ?_, fun w p np => k _ _ (.inr (.inl ⟨p, _, _, rfl, rfl, np, rfl, cut_rep r1 lo hi⟩))⟩
    refine k _ _ (newd ⟨a, vs, rfl, s1, ?_⟩)
    have : cutD xs lo hi = xs := by
      unfold cutD
      rw [← RepL.len xs vs r1, w.1, w.2, RepL.len xs vs r1]
      simp
    rw [this]
    exact r1
  · cases e
/-! ### built-in functions -/
def Blt.val : Blt → Value
  | .len => .builtin "len" | .isi => .builtin "isinstance" | .int => .type "int" | .min2 => .builtin "min" | .max2 => .builtin "max" | .abs => .builtin "abs"
  | .tuple => .type "tuple" | .list => .type "list" | .sorted => .builtin "sorted" | .all => .builtin "all" | .any => .builtin "any" | .sum => .builtin "sum" | .max1 => .builtin "max" | .min1 => .builtin "min" | .repr => .builtin "repr"
def VwL (c : Cn) (Z H : Hp) : List D → List V → Prop
  | [], xs => xs = []
  | d :: ds, xs => ∃ v r, xs = v :: r ∧ Vw c Z H d v ∧ VwL c Z H ds r
theorem kit_all (a b : Ty) : kitB a.nm b.nm = some (a.sub b) := by cases a <;> cases b <;> decide +kernel
theorem tyx {Z H : Hp} (hK : X.K = c.K) (hz : Same Z H) {d : D} {t : Ty} {x : V} (e : tyOfD d = some t) (q : Vw c Z H d x) : TyX X.K H x (.type t.nm) := by
  cases d with
  | non => cases e; cases (show x = .non from q); exact .base .non
  | bl b => cases e; cases (show x = .bl b from q); exact .base (.bl b)
  | int b => cases e; cases (show x = .int b from q); exact .base (.int b)
  | str b => cases e; cases (show x = .str b from q); exact .base (.str b)
  | ty b => cases e
  | cl b => cases e
  | tup ds =>
    cases e
    obtain ⟨a, vs, rfl, s, r⟩ := q
    exact .base (.tup (hz _ _ s))
  | lst ds =>
    cases e
    obtain ⟨a, vs, rfl, s, r⟩ := q
    exact .base (.lst s)
  | dK b _ =>
    cases e
    obtain ⟨a, kvs, vs, rfl, s, r⟩ := q
    exact .base (.dK s)
  | dT b _ =>
    cases e
    obtain ⟨a, kvs, vs, rfl, s, r⟩ := q
    exact .base (.dT s)
  | ins k b => cases e
  | scr b => cases e
theorem mem_of_lookup {α : Type} {k : Nat} {v : α} : ∀ {l : List (Nat × α)}, l.lookup k = some v → (k, v) ∈ l
  | [], h => by simp at h
  | (a, b) :: l, h => by
    by_cases e : k = a
    · subst e
      simp [List.lookup] at h
      simp [h]
    · have e' : (k == a) = false := by simpa using e
      simp only [List.lookup, e'] at h
      exact List.mem_cons_of_mem _ (mem_of_lookup h)
theorem isi_tys {C : Addr} (ic : ∀ t : Ty, PySem.W.kitOne X.K (.ref C) (.type t.nm) = some false) {Z : Hp} : ∀ {cs : List D} {vs : List V}, cs.all isTyD = true → RepL c Z cs vs → ∃ us : List Value, Paired ClsV vs us ∧ PySem.W.kitAny X.K (.ref C) us = some false ∧ Vals vs us
  | [], vs, e, q => by
    rw [show vs = [] from q]
    exact ⟨[], .nil, kitAny_nil, .nil⟩
  | d :: cs, vs, e, q => by
    obtain ⟨v, r, rfl, q1, q2⟩ := q
    rw [List.all_cons] at e
    obtain ⟨e1, e2⟩ := Bool.and_eq_true_iff.mp e
    obtain ⟨us, p, h, w⟩ := isi_tys ic e2 q2
    cases d with
    | ty u =>
      cases (show v = .ty u.nm from q1)
      exact ⟨.type u.nm :: us, .cons (.ty _) p, kitAny_cons (ic u) (fun _ => h) fun z => (by cases z), .cons rfl w⟩
    | _ => cases e1
theorem tyx_ins {Z H : Hp} (hK : X.K = c.K) (hz : Same Z H) {d : D} {ki : Nat} {x : V} (e : insD d = some ki) (q : Vw c Z H d x) : ∃ C, c.cls.lookup ki = some C ∧ TyX X.K H x (.ref C) ∧ IsC X.K c.cls ki C := by
  cases d with
  | ins k fs =>
    cases e
    obtain ⟨a, C, dx, gs, rfl, hC, s1, r1, ok⟩ := q
    have I := c.isc _ (mem_of_lookup hC)
    rw [← hK] at I
    exact ⟨C, hC, .base (.ins (hz _ _ s1) I.cl I.at_ I.gt I.tk I.mr), I⟩
  | _ => cases e
theorem isi_ins {Z H : Hp} {pins : List (Addr × Obj)} {σ : L2.St} {s : Shared} {us : List Value} {Q : VK} {x y : V} {dx dc : D} {ki : Nat} {b : Bool} (hK : X.K = c.K) (hz : Same Z H) (I : Inv X pins σ H s) (r : Vals [x, y] us) (ek : insD dx = some ki)
    (e0 : (match dc with
    | .ty _ => some false
    | .cl j => some (j == ki)
    | .tup cs => if cs.all isTyD = true then some false else none
    | _ => none) = some b) (vx : Vw c Z H dx x) (vc : Vw c Z H dc y) (k : ∀ (v : V) (H' : Hp), NewR c Z H (.d (.bl b)) v H' → Q v H') : wpAny (model X.prog X.w) X.A (call (.builtin "isinstance") us) (EP X pins σ Q) X.xe s := by
  obtain ⟨C, hC, ty, ic⟩ := tyx_ins hK hz ek vx
  split at e0
  · rename_i u
    cases e0
    exact call_isi pins s σ H _ us Q I r ⟨x, y, _, .type u.nm, _, rfl, by rw [show y = .ty u.nm from vc]; exact .ty _, ty, ic.tb u, k _ _ (.inl ⟨_, rfl, rfl, rfl⟩)⟩
  · rename_i j
    cases e0
    obtain ⟨D, hD, rfl⟩ := vc
    exact call_isi pins s σ H _ us Q I r ⟨x, _, _, .ref D, _, rfl, .own D, ty, ic.cc _ (mem_of_lookup hD), k _ _ (.inl ⟨_, rfl, rfl, rfl⟩)⟩
  · rename_i cs
    split at e0
    · rename_i hty
      cases e0
      obtain ⟨a, vs, rfl, s1, r1⟩ := vc
      obtain ⟨ws, p, h, vv⟩ := isi_tys ic.tb hty r1
      exact call_isiT pins s σ H _ us Q I r ⟨x, a, vs, _, ws, _, rfl, hz _ _ s1, p, ty, h, k _ _ (.inl ⟨_, rfl, rfl, rfl⟩)⟩
    · cases e0
  · cases e0
theorem isi_vals {Z : Hp} {t : Ty} : ∀ {cs : List D} {vs : List V} {b : Bool}, isiAll t cs = some b → RepL c Z cs vs → ∃ us : List Value, Paired ClsV vs us ∧ PySem.W.kitAny X.K (.type t.nm) us = some b ∧ Vals vs us
  | [], vs, b, e, q => by
    cases e
    rw [show vs = [] from q]
    exact ⟨[], .nil, kitAny_nil, .nil⟩
  | d :: cs, vs, b, e, q => by
    obtain ⟨v, r, rfl, q1, q2⟩ := q
    cases d with
    | ty u =>
      unfold isiAll at e
      split at e
      · rename_i b' e'
        cases e
        obtain ⟨us, p, h, w⟩ := isi_vals e' q2
        cases (show v = .ty u.nm from q1)
        refine ⟨.type u.nm :: us, .cons (.ty _) p, ?_, .cons rfl w⟩
        refine kitAny_cons (kit_ty (kit_all t u)) (fun z => ?_) fun z => ?_
        · rw [z]; exact h
        · rw [z]; rfl
      · cases e
    | _ => simp [isiAll] at e
theorem each_of {Z : Hp} : ∀ {ds : List D} {vs : List V} {us : List Value}, RepL c Z ds vs → Vals vs us → PySem.W.EachIs (fun (u : Value) (d : D) => ∃ v, RelV v u ∧ Rep c Z d v) us ds
  | [], vs, us, q, r => by
    rw [show vs = [] from q] at r
    cases r
    exact .nil
  | d :: ds, vs, us, q, r => by
    obtain ⟨v, w, rfl, q1, q2⟩ := q
    cases r with
    | cons r1 r2 => exact .cons ⟨v, r1, q1⟩ (each_of q2 r2)
theorem of_each {Z : Hp} : ∀ {ds : List D} {us : List Value}, PySem.W.EachIs (fun (u : Value) (d : D) => ∃ v, RelV v u ∧ Rep c Z d v) us ds → ∃ vs, Vals vs us ∧ RepL c Z ds vs
  | _, _, .nil => ⟨[], .nil, rfl⟩
  | _, _, .cons ⟨v, r1, q1⟩ t => by
    obtain ⟨vs, r2, q2⟩ := of_each t
    exact ⟨v :: vs, .cons r1 r2, v, vs, rfl, q1, q2⟩
abbrev enc (d : D) : PyData := (toPy d).getD .none
theorem toPys_map : ∀ {ds : List D} {ps : List PyData}, toPys ds = some ps → ds.map enc = ps ∧ ∀ d ∈ ds, toPy d = some (enc d)
  | [], ps, e => by cases e; exact ⟨rfl, fun _ h => by cases h⟩
  | d :: ds, ps, e => by
    cases e1 : toPy d with
    | none => simp [toPys, e1] at e
    | some p =>
      cases e2 : toPys ds with
      | none => simp [toPys, e1, e2] at e
      | some s =>
        have : ps = p :: s := by simpa [toPys, e1, e2] using e.symm
        subst this
        obtain ⟨h1, h2⟩ := toPys_map e2
        have e3 : enc d = p := by show (toPy d).getD .none = p; rw [e1]; rfl
        refine ⟨by rw [List.map_cons, h1, e3], fun x hx => ?_⟩
        rcases List.mem_cons.mp hx with z | z
        · subst z; rw [e3]; exact e1
        · exact h2 x z
theorem headed_tup {p : PyData} (h : headed p = true) : ∃ xs, p = .tuple xs := by
  unfold headed at h
  split at h
  · exact ⟨_, rfl⟩
  · cases h
theorem sorted_ok (hK : X.K = c.K) (hu : X.A.units + 16 < cLine) : CallR X (.builtin "sorted") (fun xs H Q => ∃ Z ds ys a vs, Same Z H ∧ xs = [.ref a] ∧ (H a = some (.lst vs) ∨ TupAt c.K H a vs) ∧ RepL c Z ds vs ∧ sortD ds = some ys ∧ ∀ z H', NewR c Z H (.m (.lst ys)) z H' → Q z H') := by
  intro pins s σ H xs us Q I r h
  obtain ⟨Z, ds, ys, a, vs, hz, rfl, hl, q, e, k⟩ := h
  unfold sortD at e
  split at e
  · rename_i ps ep
    split at e
    · rename_i hc
      cases e
      obtain ⟨c1, c2, c3, c4⟩ := hc
      obtain ⟨m1, m2⟩ := toPys_map ep
      rw [Vals.ref1 r]
      obtain ⟨its, rv, T, o, n, hT, ho, hcl, hd, hlen⟩ : ∃ (its : List Value), Vals vs its ∧ ∃ (T : String) (o : Obj) (n : Nat), (T = "list" ∨ T = "tuple") ∧ s.heap.get? a = some o ∧ o.cls = .type T ∧ o.data = .seq its.toArray n ∧ vs.length ≤ sizeLine := by
        rcases hl with hl | hl
        · obtain ⟨its, rv, hp, hlen⟩ := I.list (SqL.of hl)
          obtain ⟨o, ho, hcl, n, hd⟩ := hp.isList
          exact ⟨its, rv, "list", o, n, .inl rfl, ho, hcl, hd, hlen⟩
        · obtain ⟨its, rv, hp, hlen⟩ := I.tuple (by rw [hK]; exact hl.sq)
          obtain ⟨o, ho, hcl, n, hd⟩ := hp
          exact ⟨its, rv, "tuple", o, n, .inr rfl, ho, hcl, hd, hlen⟩
      have hal : PySem.W.AllAlike (ds.map enc) := by
        rw [m1]
        intro d hd d' hd'
        exact List.all_eq_true.mp (List.all_eq_true.mp c2 d hd) d' hd'
      have hk : Srt (ds.map enc) := by
        rw [m1]
        rcases c3 with c3 | c3
        · exact .inl fun d hd => headed_tup (List.all_eq_true.mp c3 d hd)
        · refine .inr fun d hd => ?_
          have := List.all_eq_true.mp c3 d hd
          unfold notTup at this
          split at this
          · cases this
          · cases this
          · rename_i n1 n2
            exact ⟨n1, fun xs z => n2 xs z⟩
      have hrd : ∀ (u : Value) (d : D), d ∈ ds → (∃ v, RelV v u ∧ Rep c Z d v) → ∃ as, Reads s.heap u (enc d) as := fun u d hd ⟨v, r1, r2⟩ => Dp.reads I _ v _ (by rw [hK]; exact Rep.dp hz d _ v (m2 d hd) r2) r1
      refine sorted_collP (β := D) (bs := ds) (enc := enc) (R := fun u d => ∃ v, RelV v u ∧ Rep c Z d v) (Pm := fun bs' => bs' = ds) (hP := fun bs' h => by rw [h]) (by rw [← sl_eq]; exact c1) (fun Q' hq => ?_) (fun h' keep v b hb rr => ?_) hal hk (fun b hb => ?_) fun s' p out epo bs' kp g o1 hp hg pm eo => ?_
      · exact coll_seq hT ho hcl hd (by rw [rv.length] at hlen; exact hlen) fun h' kp hs => hq { s with heap := h' } its ds kp hs rfl rfl (each_of q rv) rfl
      · obtain ⟨as, rd⟩ := hrd v b hb rr
        exact ⟨as, PyProof.Rows.Reads.keeps (fun {b'} {o'} => keep b' o') rd⟩
      · have := List.all_eq_true.mp c4 (enc b) (by rw [← m1]; exact List.mem_map_of_mem hb)
        have := of_decide_eq_true this
        omega
      · subst pm
        obtain ⟨ws, rw1, rw2⟩ := of_each eo
        have hl2 : ws.length ≤ sizeLine := by
          rw [rw1.length, eo.length, List.length_mergeSort, ← sl_eq]; exact c1
        have J : Inv X pins σ (upd H p (.lst ws)) { s with heap := s'.heap, gens := s'.gens, drawn := s'.drawn, toks := s'.toks } :=
          Inv.call (s := s) I (ch := []) (Un.laid kp hp (I.hok.fresh hp)) (I.hok.laid kp hp ⟨hl2, out, epo, rw1, hg⟩) (by rw [g]; exact I.bare) (fun _ z => nomatch z)
        have es : s' = { s with heap := s'.heap, gens := s'.gens, drawn := s'.drawn, toks := s'.toks } := by
          cases s'
          cases s
          cases o1
          rfl
        rw [es]
        exact ⟨.ref p, _, J, rfl, k _ _ (.inr (.inr ⟨p, ws, _, rfl, rfl, I.hok.fresh hp, rfl, rw2⟩))⟩
    · cases e
  · cases e
theorem key_rep {Z : Hp} (k : L2.Key) : Rep c Z (keyV k) (kV k) := by cases k <;> rfl
theorem keys_rep {Z : Hp} : ∀ ks : List L2.Key, RepL c Z (ks.map keyV) (ks.map kV)
  | [] => rfl
  | k :: ks => ⟨_, _, rfl, key_rep k, keys_rep ks⟩
theorem keys_repK {H Z : Hp} {a : Addr} {ys : List V} {kvs : List (L2.Key × V)} (h : KeysAre H a ys) (e : H a = some (.dK kvs)) : RepL c Z ((kvs.map (·.1)).map keyV) ys := by
  rcases h with ⟨kvs', e', rfl⟩ | ⟨kvs', e', _⟩
  · rw [e] at e'
    cases e'
    have := keys_rep (c := c) (Z := Z) (kvs.map (·.1))
    have e2 : (kvs.map (·.1)).map kV = kvs.map fun p => kV p.1 := by rw [List.map_map]; rfl
    rw [e2] at this
    exact this
  · rw [e] at e'; cases e'
theorem keys_repT {H Z : Hp} {a : Addr} {ys : List V} {kvs : List (List L2.Key × V)} (tz : TupsIn Z H) (h : KeysAre H a ys) (e : H a = some (.dT kvs)) : RepL c Z ((kvs.map (·.1)).map fun k => .tup (k.map keyV)) ys := by
  rcases h with ⟨kvs', e', _⟩ | ⟨kvs', e', p⟩
  · rw [e] at e'; cases e'
  · rw [e] at e'
    cases e'
    clear e
    induction p with
    | nil => rfl
    | cons h t ih =>
      obtain ⟨b, rfl, hb⟩ := h
      exact ⟨_, _, rfl, ⟨b, _, rfl, tz _ _ hb, keys_rep _⟩, ih⟩
def rBlt (c : Cn) (f : Blt) : List V → Hp → VK → Prop := fun xs H Q => ∃ Z ds r, Same Z H ∧ TupsIn Z H ∧ VwL c Z H ds xs ∧ bltD f ds = some r ∧ ∀ z H', NewR c Z H r z H' → Q z H'
theorem max_fold_ge : ∀ {ns : List Int} {n : Int}, n ≤ ns.foldl max n ∧ (∀ y ∈ ns, y ≤ ns.foldl max n) ∧ (ns.foldl max n = n ∨ ns.foldl max n ∈ ns)
  | [], n => ⟨by simp, fun _ h => (nomatch h), .inl rfl⟩
  | a :: ns, n => by
    obtain ⟨h1, h2, h3⟩ := max_fold_ge (ns := ns) (n := max n a)
    rw [List.foldl_cons]
    refine ⟨by omega, fun y hy => ?_, ?_⟩
    · rcases List.mem_cons.mp hy with rfl | hy
      · omega
      · exact h2 y hy
    · rcases h3 with h3 | h3
      · rw [h3]
        rcases Int.le_total n a with q | q
        · exact .inr (by rw [Int.max_eq_right q]; exact List.mem_cons_self)
        · exact .inl (Int.max_eq_left q)
      · exact .inr (List.mem_cons_of_mem _ h3)
theorem min_fold_le : ∀ {ns : List Int} {n : Int}, ns.foldl min n ≤ n ∧ (∀ y ∈ ns, ns.foldl min n ≤ y) ∧ (ns.foldl min n = n ∨ ns.foldl min n ∈ ns)
  | [], n => ⟨by simp, fun _ h => (nomatch h), .inl rfl⟩
  | a :: ns, n => by
    obtain ⟨h1, h2, h3⟩ := min_fold_le (ns := ns) (n := min n a)
    rw [List.foldl_cons]
    refine ⟨by omega, fun y hy => ?_, ?_⟩
    · rcases List.mem_cons.mp hy with rfl | hy
      · omega
      · exact h2 y hy
    · rcases h3 with h3 | h3
      · rw [h3]
        rcases Int.le_total n a with q | q
        · exact .inl (Int.min_eq_left q)
        · exact .inr (by rw [Int.min_eq_right q]; exact List.mem_cons_self)
      · exact .inr (List.mem_cons_of_mem _ h3)
theorem max_fold {ns : List Int} {n m : Int} (h1 : m ∈ n :: ns) (h2 : ∀ y ∈ n :: ns, y ≤ m) : m = ns.foldl max n := by
  obtain ⟨q1, q2, q3⟩ := max_fold_ge (ns := ns) (n := n)
  have a : ns.foldl max n ≤ m := by
    rcases q3 with q | q
    · rw [q]; exact h2 n List.mem_cons_self
    · exact h2 _ (List.mem_cons_of_mem _ q)
  have b : m ≤ ns.foldl max n := by
    rcases List.mem_cons.mp h1 with rfl | h
    · exact q1
    · exact q2 m h
  omega
theorem min_fold {ns : List Int} {n m : Int} (h1 : m ∈ n :: ns) (h2 : ∀ y ∈ n :: ns, m ≤ y) : m = ns.foldl min n := by
  obtain ⟨q1, q2, q3⟩ := min_fold_le (ns := ns) (n := n)
  have a : m ≤ ns.foldl min n := by
    rcases q3 with q | q
    · rw [q]; exact h2 n List.mem_cons_self
    · exact h2 _ (List.mem_cons_of_mem _ q)
  have b : ns.foldl min n ≤ m := by
    rcases List.mem_cons.mp h1 with rfl | h
    · exact q1
    · exact q2 m h
  omega
/-- repr of data -/
theorem repr_ok (hK : X.K = c.K) (hg : X.A.guards = some []) (hu : X.A.units + 65 < cLine) {pins : List (Addr × Obj)} {s : Shared} {σ : L2.St} {H Z : Hp} {x : V} {us : List Value} {Q : VK} {d : D} {res : R} (hz : Same Z H) (I : Inv X pins σ H s) (r : Vals [x] us) (vx : Vw c Z H d x) (e : reprD d = some res)
    (k : ∀ z H', NewR c Z H res z H' → Q z H') : wpAny (model X.prog X.w) X.A (call (.builtin "repr") us) (EP X pins σ Q) X.xe s := by
  obtain ⟨u, rfl, rx⟩ := vals1 r
  unfold reprD at e
  split at e
  · rename_i p ep
    split at e
    · rename_i ok
      cases e
      obtain ⟨as, rd⟩ := Dp.reads I p x u (by rw [hK]; exact Vw.dp hz ep vx) rx
      have fin : ∀ (h' : Heap) (v tk : Tok), (∀ b o, s.heap.get? b = some o → h'.get? b = some o) → EP X pins σ Q (.str p.shown v) { s with heap := h', toks := tk } := fun h' v tk kp =>
        ⟨.str p.shown, H, Inv.call (s := s) I (ch := []) (Un.kept kp) (I.hok.kept kp) I.bare (fun _ z => nomatch z), ⟨v, rfl⟩, k _ _ (newd rfl)⟩
      have fin0 : ∀ (v tk : Tok), EP X pins σ Q (.str p.shown v) { s with toks := tk } := fun v tk => fin s.heap v tk fun _ _ z => z
      cases p with
      | none =>
        cases rd
        refine PySem.P.repr_of_none ?_
        have := fin0 s.toks (s.toks + 1)
        rwa [PyData.shown_none] at this
      | bool b =>
        cases rd
        refine PySem.P.repr_of_bool ?_
        have := fin0 s.toks (s.toks + 1)
        rwa [PyData.shown_bool] at this
      | int i =>
        cases rd
        have hs : decide (i.natAbs.log2 < 1920) = true := by
          unfold okR at ok
          simp only [PyData.showable, Bool.and_eq_true] at ok
          exact ok.1.1.1
        refine PySem.P.repr_of_int (of_decide_eq_true hs) ?_
        have := fin0 s.toks (s.toks + 1)
        rwa [PyData.shown_int] at this
      | str x => cases ok
      | list xs =>
        have ok' : (((PyData.list xs).showable && !(PyData.list xs).hasDict && decide ((PyData.list xs).depth ≤ 60) && decide ((PyData.list xs).shown.length ≤ SL)) = true) := ok
        simp only [Bool.and_eq_true, Bool.not_eq_true', decide_eq_true_eq] at ok'
        obtain ⟨⟨⟨o1, o2⟩, o3⟩, o4⟩ := ok'
        cases rd with
        | list h1 h2 h3 h4 =>
          exact repr_of_reads' (h₀ := s.heap) (.list h1 h2 h3 h4) o1 (fun z => by rw [o2] at z; cases z) hg (by omega) (fun _ _ z => z) fin (by rw [← sl_eq]; exact o4)
      | tuple xs =>
        have ok' : (((PyData.tuple xs).showable && !(PyData.tuple xs).hasDict && decide ((PyData.tuple xs).depth ≤ 60) && decide ((PyData.tuple xs).shown.length ≤ SL)) = true) := ok
        simp only [Bool.and_eq_true, Bool.not_eq_true', decide_eq_true_eq] at ok'
        obtain ⟨⟨⟨o1, o2⟩, o3⟩, o4⟩ := ok'
        cases rd with
        | tuple h1 h2 h3 h4 =>
          exact repr_of_reads' (h₀ := s.heap) (.tuple h1 h2 h3 h4) o1 (fun z => by rw [o2] at z; cases z) hg (by omega) (fun _ _ z => z) fin (by rw [← sl_eq]; exact o4)
      | dict kvs =>
        have ok' : (((PyData.dict kvs).showable && !(PyData.dict kvs).hasDict && decide ((PyData.dict kvs).depth ≤ 60) && decide ((PyData.dict kvs).shown.length ≤ SL)) = true) := ok
        simp [PyData.hasDict] at ok'
    · cases e
  · cases e
theorem blt_ok (hK : X.K = c.K) (hc : X.calm = true) (hu : X.A.units + 65 < cLine) (f : Blt) (hg : f = .repr → X.A.guards = some []) : CallR X f.val (rBlt c f) := by
  intro pins s σ H xs us Q I r h
  obtain ⟨Z, ds, res, hz, tz, vl, e, k⟩ := h
  unfold bltD at e
  split at e
  · obtain ⟨x, _, rfl, vx, rfl⟩ := vl
    exact repr_ok hK (hg rfl) hu hz I r vx e k
  · cases e
    obtain ⟨x, _, rfl, ⟨a, vs, rfl, s1, r1⟩, rfl⟩ := vl
    exact call_len_seq pins s σ H _ us Q I r ⟨a, vs, rfl, .inl (SqL.of s1), by rw [RepL.len _ vs r1]; exact k _ _ (newd rfl)⟩
  · cases e
    obtain ⟨x, _, rfl, ⟨a, vs, rfl, s1, r1⟩, rfl⟩ := vl
    exact call_len_seq pins s σ H _ us Q I r ⟨a, vs, rfl, .inr (by rw [hK]; exact (sqT_mono hz s1).sq), by rw [RepL.len _ vs r1]; exact k _ _ (newd rfl)⟩
  · rename_i dx dc
    obtain ⟨x, _, rfl, vx, y, _, rfl, vc, rfl⟩ := vl
    cases e0 : isiD dx dc with
    | none => rw [e0] at e; cases e
    | some b =>
      rw [e0] at e
      cases e
      unfold isiD at e0
      split at e0
      · rename_i ki ek
        exact isi_ins hK hz I r ek e0 vx vc fun v H' n => k v H' n
      split at e0
      · rename_i t u et
        cases e0
        exact call_isi pins s σ H _ us Q I r ⟨x, y, _, .type u.nm, _, rfl, by rw [show y = .ty u.nm from vc]; exact .ty _, tyx hK hz et vx, kit_ty (kit_all t u), k _ _ (newd rfl)⟩
      · rename_i t j et
        cases e0
        obtain ⟨C, hC, rfl⟩ := vc
        exact call_isi pins s σ H _ us Q I r ⟨x, _, _, .ref C, _, rfl, .own C, tyx hK hz et vx, by rw [hK]; exact (c.isc _ (mem_of_lookup hC)).bt t, k _ _ (newd rfl)⟩
      · rename_i t cs et
        obtain ⟨a, vs, rfl, s1, r1⟩ := vc
        obtain ⟨ws, p, h, vv⟩ := isi_vals (X := X) e0 r1
        exact call_isiT pins s σ H _ us Q I r ⟨x, a, vs, _, ws, b, rfl, hz _ _ s1, p, tyx hK hz et vx, h, k _ _ (newd rfl)⟩
      · cases e0
  · cases e
    obtain ⟨x, _, rfl, v1, rfl⟩ := vl
    exact call_int1 pins s σ H _ us Q I r (.inl ⟨_, by rw [show x = .int _ from v1], k _ _ (newd rfl)⟩)
  · cases e
    obtain ⟨x, _, rfl, v1, rfl⟩ := vl
    exact call_int1 pins s σ H _ us Q I r (.inr ⟨_, by rw [show x = .bl _ from v1], k _ _ (newd rfl)⟩)
  · cases e
    obtain ⟨x, _, rfl, v1, y, _, rfl, v2, rfl⟩ := vl
    exact call_min2 hc pins s σ H _ us Q I r ⟨_, _, by rw [show x = .int _ from v1, show y = .int _ from v2], k _ _ (newd rfl)⟩
  · cases e
    obtain ⟨x, _, rfl, v1, y, _, rfl, v2, rfl⟩ := vl
    exact call_max2 hc pins s σ H _ us Q I r ⟨_, _, by rw [show x = .int _ from v1, show y = .int _ from v2], k _ _ (newd rfl)⟩
  · cases e
    obtain ⟨x, _, rfl, v1, rfl⟩ := vl
    exact call_abs pins s σ H _ us Q I r ⟨_, by rw [show x = .int _ from v1], k _ _ (newd rfl)⟩
  · cases e
    obtain ⟨x, _, rfl, ⟨a, vs, rfl, s1, r1⟩, rfl⟩ := vl
    exact call_tuple_of pins s σ H _ us Q I r ⟨a, vs, rfl, .inl ⟨SqL.of s1, fun l nl => k _ _ (.inr (.inl ⟨l, vs, _, rfl, rfl, nl, rfl, r1⟩))⟩⟩
  · cases e
    obtain ⟨x, _, rfl, ⟨a, vs, rfl, s1, r1⟩, rfl⟩ := vl
    exact call_tuple_of pins s σ H _ us Q I r ⟨a, vs, rfl, .inr ⟨by rw [hK]; exact (sqT_mono hz s1).sq, k _ _ (newd ⟨a, vs, rfl, s1, r1⟩)⟩⟩
  · cases e
    obtain ⟨x, _, rfl, ⟨a, vs, rfl, s1, r1⟩, rfl⟩ := vl
    exact call_list_of pins s σ H _ us Q I r ⟨a, vs, rfl, .inl (SqL.of s1), fun l nl => k _ _ (.inr (.inr ⟨l, vs, _, rfl, rfl, nl, rfl, r1⟩))⟩
  · cases e
    obtain ⟨x, _, rfl, ⟨a, vs, rfl, s1, r1⟩, rfl⟩ := vl
    exact call_list_of pins s σ H _ us Q I r ⟨a, vs, rfl, .inr (by rw [hK]; exact (sqT_mono hz s1).sq), fun l nl => k _ _ (.inr (.inr ⟨l, vs, _, rfl, rfl, nl, rfl, r1⟩))⟩
  · cases e
    obtain ⟨x, _, rfl, ⟨a, rfl, s1⟩, rfl⟩ := vl
    exact call_list_of pins s σ H _ us Q I r ⟨a, _, rfl, .inl (by rw [hK]; exact hz.seq s1), fun l nl => k _ _ (.inr (.inr ⟨l, _, _, rfl, rfl, nl, rfl, RepL.ints _⟩))⟩
  · cases e
    obtain ⟨x, _, rfl, ⟨a, kvs, vs, rfl, s1, rfl, rfl, r1⟩, rfl⟩ := vl
    refine call_list_dict hc pins s σ H _ us Q I r ⟨a, rfl, .inl ⟨kvs, s1⟩, fun l ys ka nl => k _ _ (.inr (.inr ⟨l, ys, _, rfl, rfl, nl, rfl, ?_⟩))⟩
    exact keys_repK ka s1
  · cases e
    obtain ⟨x, _, rfl, ⟨a, kvs, vs, rfl, s1, rfl, rfl, r1⟩, rfl⟩ := vl
    refine call_list_dict hc pins s σ H _ us Q I r ⟨a, rfl, .inr ⟨kvs, s1⟩, fun l ys ka nl => k _ _ (.inr (.inr ⟨l, ys, _, rfl, rfl, nl, rfl, ?_⟩))⟩
    exact keys_repT tz ka s1
  · cases e
    obtain ⟨x, _, rfl, ⟨a, rfl, s1⟩, rfl⟩ := vl
    exact call_len_seq pins s σ H _ us Q I r ⟨a, _, rfl, .inl (by rw [hK]; exact hz.seq s1), by rw [List.length_map]; exact k _ _ (newd rfl)⟩
  · cases e
    obtain ⟨x, _, rfl, ⟨a, kvs, vs, rfl, s1, _, rfl, r1⟩, rfl⟩ := vl
    have ln := RepL.len _ _ r1
    rw [List.length_map] at ln
    exact call_lenD pins s σ H _ us Q I r ⟨a, kvs, rfl, s1, by rw [ln]; exact k _ _ (newd rfl)⟩
  · cases e
    obtain ⟨x, _, rfl, ⟨a, kvs, vs, rfl, s1, _, rfl, r1⟩, rfl⟩ := vl
    have ln := RepL.len _ _ r1
    rw [List.length_map] at ln
    exact call_len_dT pins s σ H _ us Q I r ⟨a, kvs, rfl, s1, by rw [ln]; exact k _ _ (newd rfl)⟩
  · rename_i xs
    cases e0 : sortD xs with
    | none => rw [e0] at e; cases e
    | some ys =>
      rw [e0] at e
      cases e
      obtain ⟨x, _, rfl, ⟨a, vs, rfl, s1, r1⟩, rfl⟩ := vl
      exact sorted_ok hK (by omega) pins s σ H _ us Q I r ⟨Z, xs, ys, a, vs, hz, rfl, .inl s1, r1, e0, k⟩
  · rename_i xs
    cases e0 : sortD xs with
    | none => rw [e0] at e; cases e
    | some ys =>
      rw [e0] at e
      cases e
      obtain ⟨x, _, rfl, ⟨a, vs, rfl, s1, r1⟩, rfl⟩ := vl
      exact sorted_ok hK (by omega) pins s σ H _ us Q I r ⟨Z, xs, ys, a, vs, hz, rfl, .inr (sqT_mono hz s1), r1, e0, k⟩
  · rename_i xs
    cases e0 : boolsOf xs with
    | none => rw [e0] at e; cases e
    | some ys =>
      rw [e0] at e
      cases e
      obtain ⟨x, _, rfl, ⟨a, vs, rfl, s1, r1⟩, rfl⟩ := vl
      rw [repBools e0 r1] at s1
      exact cr_all hc pins s σ H _ us Q I r ⟨a, ys, rfl, SqL.of s1, k _ _ (newd rfl)⟩
  · rename_i xs
    cases e0 : boolsOf xs with
    | none => rw [e0] at e; cases e
    | some ys =>
      rw [e0] at e
      cases e
      obtain ⟨x, _, rfl, ⟨a, vs, rfl, s1, r1⟩, rfl⟩ := vl
      rw [repBools e0 r1] at s1
      exact cr_any hc pins s σ H _ us Q I r ⟨a, ys, rfl, SqL.of s1, k _ _ (newd rfl)⟩
  · rename_i xs
    cases e0 : intsOf xs with
    | none => rw [e0] at e; cases e
    | some ys =>
      rw [e0] at e
      cases e
      obtain ⟨x, _, rfl, ⟨a, vs, rfl, s1, r1⟩, rfl⟩ := vl
      rw [repInts e0 r1] at s1
      exact cr_sum hc pins s σ H _ us Q I r ⟨a, ys, rfl, SqL.of s1, k _ _ (newd rfl)⟩
  · rename_i xs
    cases e0 : intsOf xs with
    | none => rw [e0] at e; cases e
    | some ys =>
      rw [e0] at e
      cases e
      obtain ⟨x, _, rfl, ⟨a, vs, rfl, s1, r1⟩, rfl⟩ := vl
      rw [repInts e0 r1] at s1
      exact cr_sumT hc pins s σ H _ us Q I r ⟨a, ys, rfl, by rw [hK]; exact (sqT_mono hz s1).sq, k _ _ (newd rfl)⟩
  · rename_i xs
    split at e
    · rename_i n ns e0
      cases e
      obtain ⟨x, _, rfl, ⟨a, vs, rfl, s1, r1⟩, rfl⟩ := vl
      rw [repInts e0 r1] at s1
      refine cr_max hc pins s σ H _ us Q I r ⟨a, n :: ns, rfl, SqL.of s1, by simp, fun m h1 h2 => ?_⟩
      have : m = ns.foldl max n := max_fold h1 h2
      subst this
      exact k _ _ (newd rfl)
    · cases e
  · rename_i xs
    split at e
    · rename_i n ns e0
      cases e
      obtain ⟨x, _, rfl, ⟨a, vs, rfl, s1, r1⟩, rfl⟩ := vl
      rw [repInts e0 r1] at s1
      refine cr_min hc pins s σ H _ us Q I r ⟨a, n :: ns, rfl, SqL.of s1, by simp, fun m h1 h2 => ?_⟩
      have : m = ns.foldl min n := min_fold h1 h2
      subst this
      exact k _ _ (newd rfl)
    · cases e
  · cases e
/-! ### methods that change a list -/
def Bm.id : Bm → String
  | .append => "list.append" | .pop0 => "list.pop" | .popAt => "list.pop" | .extend => "list.extend"
def rBm (c : Cn) (m : Bm) : V → List V → Hp → VK → Prop := fun x vs H Q => ∃ Z l xs ws ds d ys, x = .ref l ∧ Same Z H ∧ H l = some (.lst ws) ∧ RepL c Z xs ws ∧ RepL c Z ds vs ∧ bmD m xs ds = some (d, ys) ∧ ∀ z ws', RepL c Z ys ws' → Rep c Z d z → Q z (upd H l (.lst ws'))
theorem bm_ok (m : Bm) : MtR X m.id (rBm c m) := by
  intro pins s σ H x vs v us Q I rx rv h
  obtain ⟨Z, l, xs, ws, ds, d, ys, rfl, hz, hl, q1, q2, e, k⟩ := h
  have ln := RepL.len xs ws q1
  unfold bmD at e
  split at e
  · split at e
    · rename_i hc
      cases e
      obtain ⟨w, _, rfl, q3, rfl⟩ := q2
      exact mt_append pins s σ H _ _ v us Q I rx rv ⟨l, ws, w, rfl, rfl, hl, by rw [ln, ← sl_eq]; exact hc, k _ _ (RepL.append _ _ _ _ q1 (RepL.one q3)) rfl⟩
    · cases e
  · cases e0 : xs[xs.length - 1]? with
    | none => rw [e0] at e; cases e
    | some d0 =>
      rw [e0] at e
      cases e
      cases (show vs = [] from q2)
      obtain ⟨w, e1, q3⟩ := RepL.get xs ws _ _ q1 e0
      exact mt_pop pins s σ H _ _ v us Q I rx rv ⟨l, ws, w, rfl, rfl, hl, by rw [ln]; exact e1, k _ _ (RepL.dropLast q1) q3⟩
  · split at e
    · rename_i hc
      split at e
      · rename_i kk e1
        cases e0 : xs[kk]? with
        | none => rw [e0] at e; cases e
        | some d0 =>
          rw [e0] at e
          cases e
          obtain ⟨w, _, rfl, q3, rfl⟩ := q2
          obtain ⟨w', e2, q4⟩ := RepL.get xs ws _ _ q1 e0
          exact mt_popAt pins s σ H _ _ v us Q I rx rv ⟨l, ws, _, kk, w', rfl, by rw [show w = .int _ from q3], hl, hc.1, hc.2, by rw [ln]; exact e1, e2, k _ _ (RepL.erase _ _ _ q1) q4⟩
      · cases e
    · cases e
  · split at e
    · rename_i hc
      cases e
      obtain ⟨w, _, rfl, ⟨b, zs, rfl, s2, r2⟩, rfl⟩ := q2
      exact mt_extend pins s σ H _ _ v us Q I rx rv ⟨l, b, ws, zs, rfl, rfl, hl, hz _ _ s2, by rw [ln, RepL.len _ zs r2, ← sl_eq]; exact hc, k _ _ (RepL.append _ _ _ _ q1 r2) rfl⟩
    · cases e
  · cases e
end
end Ev

/-! Ev, part D: calls: what is handed over, what comes back. -/
namespace Ev
open PySem L2 PyProof.Rows
section
variable {c : Cn} {F Z H : Hp} {σ : L2.St} {τ : T} {A : Nat → List Addr}
/-- more is left to others -/
theorem Sta.fin (s : Sta c F Z H σ τ A) {B : List Addr} (hB : ∀ a ∈ B, Z a = none ∧ ∀ i, a ∉ A i) : Sta c (fzw F H B) Z H σ τ A := by
  refine ⟨fzw_h s.fh, s.zh, fun a o e => ?_, s.len, s.own, s.nd, s.dj, fun i a ha => ?_, s.tz⟩
  · by_cases z : a ∈ B
    · rw [(hB a z).1] at e; cases e
    · rw [fzw_out z]; exact s.fz a o e
  · obtain ⟨h1, h2, h3⟩ := s.fr i a ha
    exact ⟨by rw [fzw_out fun z => (hB a z).2 i ha]; exact h1, h2, h3⟩
theorem Sta.fout {H0 : Hp} {B : List Addr} (s : Sta c (fzw F H0 B) Z H σ τ A) (hB : ∀ a ∈ B, F a = none ∧ H0 a ≠ none) : Sta c F Z H σ τ A ∧ ∀ a ∈ B, H a = H0 a ∧ Z a = none ∧ ∀ i, a ∉ A i := by
  have key : ∀ a ∈ B, ∃ o, H0 a = some o ∧ fzw F H0 B a = some o := fun a ha => by
    cases e : H0 a with
    | none => exact absurd e (hB a ha).2
    | some o => exact ⟨o, rfl, by rw [fzw_in ha]; exact e⟩
  refine ⟨⟨fun a o e => ?_, s.zh, fun a o e => ?_, s.len, s.own, s.nd, s.dj, fun i a ha => ?_, s.tz⟩, fun a ha => ?_⟩
  · have : a ∉ B := fun z => by rw [(hB a z).1] at e; cases e
    exact s.fh a o (by rw [fzw_out this]; exact e)
  · by_cases z : a ∈ B
    · exact (hB a z).1
    · have := s.fz a o e
      rw [fzw_out z] at this
      exact this
  · obtain ⟨h1, h2, h3⟩ := s.fr i a ha
    refine ⟨?_, h2, h3⟩
    by_cases z : a ∈ B
    · exact (hB a z).1
    · rw [fzw_out z] at h1; exact h1
  · obtain ⟨o, e1, e2⟩ := key a ha
    refine ⟨by rw [e1]; exact s.fh a o e2, ?_, fun i z => ?_⟩
    · cases e : Z a with
      | none => rfl
      | some o' =>
        have := s.fz a o' e
        rw [e2] at this; cases this
    · have := (s.fr i a z).1
      rw [e2] at this; cases this
def OpsW (c : Cn) (Z H : Hp) (σ : L2.St) : List R → List V → Prop
  | [], xs => xs = []
  | r :: rs, xs => ∃ x w, xs = x :: w ∧ OpW c Z H σ r x ∧ OpsW c Z H σ rs w
theorem OpsW.keep {p : Bool} {τ' : T} {H' Z' : Hp} {A' : Nat → List Addr} (h : Post c p F Z H σ τ A τ' H' Z' A') : ∀ {rs : List R} {xs : List V}, OpsW c Z H σ rs xs → (∀ r ∈ rs, r.isF = true → p = true) → OpsW c Z' H' σ rs xs
  | [], _, q, _ => q
  | r :: rs, _, q, hp => by
    obtain ⟨x, w, rfl, q1, q2⟩ := q
    exact ⟨x, w, rfl, q1.keep h (hp r (by simp)), OpsW.keep h q2 fun r' hr => hp r' (by simp [hr])⟩
/-- what a call gets, and what is left to the caller meanwhile -/
structure Hand (c : Cn) (F Z H : Hp) (σ : L2.St) (τ : T) (A : Nat → List Addr) (xs : List V) (ms : List M) (is : List (Option Nat)) (Ac : Nat → List Addr) : Prop where
  st : Sta c F Z H σ τ A
  len : ms.length = xs.length
  lis : is.length = xs.length
  own : ∀ (j : Nat) (m : M), ms[j]? = some m → ∃ x, xs[j]? = some x ∧ OR c Z H m x (Ac j)
  nd : ∀ j, (Ac j).Nodup
  dj : ∀ j k a, a ∈ Ac j → a ∈ Ac k → j = k
  da : ∀ j i a, a ∈ Ac j → a ∉ A i
  fr : ∀ j a, a ∈ Ac j → F a = none ∧ Z a = none ∧ H a ≠ none
  gv : ∀ (j i : Nat), is[j]? = some (some i) → ∃ x, xs[j]? = some x ∧ σ[i]? = some (some x) ∧ τ[i]? = some none
  inj : ∀ (j k i : Nat), is[j]? = some (some i) → is[k]? = some (some i) → j = k
theorem Hand.nil (s : Sta c F Z H σ τ A) : Hand c F Z H σ τ A [] [] [] (fun _ => []) :=
  ⟨s, rfl, rfl, fun j m e => (by simp at e), fun _ => List.nodup_nil, fun _ _ _ h _ => (by cases h), fun _ _ _ h => (by cases h), fun _ _ h => (by cases h), fun j i e => (by simp at e), fun j k i e _ => (by simp at e)⟩
/-- one more ahead: its things are kept apart while the others are handed over -/
theorem Hand.cons {m : M} {x : V} {B : List Addr} {xs : List V} {ms : List M} {is : List (Option Nat)} {Ac : Nat → List Addr} {i0 : Option Nat} (h : Hand c (fzw F H B) Z H σ τ A xs ms is Ac) (hB : ∀ a ∈ B, F a = none ∧ H a ≠ none) (nB : B.Nodup) (o : OR c Z H m x B)
    (g : ∀ i, i0 = some i → σ[i]? = some (some x) ∧ τ[i]? = some none ∧ ∀ (j : Nat), is[j]? ≠ some (some i)) : Hand c F Z H σ τ A (x :: xs) (m :: ms) (i0 :: is) (fun j => match j with | 0 => B | j + 1 => Ac j) := by
  obtain ⟨s, k⟩ := h.st.fout hB
  have ap : ∀ j a, a ∈ Ac j → a ∉ B := fun j a ha z => by
    have := (h.fr j a ha).1
    rw [fzw_in z] at this
    exact (hB a z).2 this
  refine ⟨s, by simp [h.len], by simp [h.lis], fun j n e => ?_, fun j => ?_, fun j k' a h1 h2 => ?_, fun j i a h1 h2 => ?_, fun j a h1 => ?_, fun j i e => ?_, fun j k' i e1 e2 => ?_⟩
  · cases j with
    | zero =>
      have : m = n := by simpa using e
      subst this
      exact ⟨x, rfl, o⟩
    | succ j =>
      obtain ⟨y, e1, q⟩ := h.own j n (by simpa using e)
      exact ⟨y, by simpa using e1, q⟩
  · cases j with
    | zero => exact nB
    | succ j => exact h.nd j
  · cases j with
    | zero =>
      cases k' with
      | zero => rfl
      | succ k' => exact absurd h1 (ap k' a h2)
    | succ j =>
      cases k' with
      | zero => exact absurd h2 (ap j a h1)
      | succ k' => rw [h.dj j k' a h1 h2]
  · cases j with
    | zero => exact (k a h1).2.2 i h2
    | succ j => exact h.da j i a h1 h2
  · cases j with
    | zero => exact ⟨(hB a h1).1, (k a h1).2.1, (hB a h1).2⟩
    | succ j =>
      obtain ⟨h2, h3, h4⟩ := h.fr j a h1
      refine ⟨?_, h3, h4⟩
      rw [fzw_out (ap j a h1)] at h2
      exact h2
  · cases j with
    | zero =>
      obtain ⟨g1, g2, _⟩ := g i (by simpa using e)
      exact ⟨x, rfl, g1, g2⟩
    | succ j =>
      obtain ⟨y, e1, e2⟩ := h.gv j i (by simpa using e)
      exact ⟨y, by simpa using e1, e2⟩
  · cases j with
    | zero =>
      cases k' with
      | zero => rfl
      | succ k' => exact absurd (by simpa using e2) ((g i (by simpa using e1)).2.2 k')
    | succ j =>
      cases k' with
      | zero => exact absurd (by simpa using e1) ((g i (by simpa using e2)).2.2 j)
      | succ k' => rw [h.inj j k' i (by simpa using e1) (by simpa using e2)]
/-- slots that are empty stay so while others are handed over -/
theorem esc_none {p : Bool} {o : R} {d : D} {τ' : T} {i : Nat} (h : esc p τ o = some (d, τ')) (e : τ[i]? = some none) : τ'[i]? = some none := by
  cases o with
  | d d' => cases h; exact e
  | m m => cases h; exact e
  | pl j f =>
    unfold esc at h
    simp only at h
    cases p with
    | true => simp at h
    | false =>
      rw [if_neg Bool.false_ne_true] at h
      split at h
      · rename_i m hm
        cases h
        have ne : ∀ m', slotM τ j = some m' → j ≠ i := fun m' z q => by
          subst q
          rw [slotM_some z] at e; cases e
        cases f with
        | none =>
          have := ne m hm
          unfold setP
          rw [List.getElem?_set_ne this]; exact e
        | some f =>
          obtain ⟨k, fs, e1, _⟩ := getP_field hm
          have := ne _ e1
          unfold setP
          simp only
          rw [e1]
          simp only
          rw [List.getElem?_set_ne this]; exact e
      · cases h
theorem takeA_ok {p : Bool} {io : List Nat} : ∀ {rs : List R} {k : Nat} {F Z : Hp} {τ τ' : T} {A : Nat → List Addr} {xs : List V} {ms : List M} {is : List (Option Nat)}, Sta c F Z H σ τ A → OpsW c Z H σ rs xs → takeA p io k rs τ = some (ms, is, τ') →
    ∃ Z' A' Ac, Same Z Z' ∧ Hand c F Z' H σ τ' A' xs ms is Ac ∧ (∀ (i : Nat), τ[i]? = some none → τ'[i]? = some none ∧ ∀ (j : Nat), is[j]? ≠ some (some i)) ∧ (p = true → τ' = τ ∧ A' = A ∧ (∀ j, Ac j = []) ∧ ∀ (j i : Nat), is[j]? ≠ some (some i)) ∧ (∀ (j : Nat) (m : M), ms[j]? = some m → isV m = false → io.contains (k + j) = true ∧ ∃ i, is[j]? = some (some i))
  | [], k, F, Z, τ, τ', A, xs, ms, is, s, q, h => by
    cases h
    rw [show xs = [] from q]
    exact ⟨Z, A, _, Same.refl _, Hand.nil s, fun i e => ⟨e, fun j => (by simp)⟩, fun _ => ⟨rfl, rfl, fun _ => rfl, fun j i => (by simp)⟩, fun j m e => (by simp at e)⟩
  | r :: rs, k, F, Z, τ, τ', A, xs, ms, is, s, q, h => by
    obtain ⟨x, w, rfl, q1, q2⟩ := q
    have plain : ∀ {d : D} {τ1 : T}, esc p τ r = some (d, τ1) → (takeA p io (k + 1) rs τ1).map (fun (ms, is, τ') => (M.v d :: ms, none :: is, τ')) = some (ms, is, τ') →
        ∃ Z' A' Ac, Same Z Z' ∧ Hand c F Z' H σ τ' A' (x :: w) ms is Ac ∧ (∀ (i : Nat), τ[i]? = some none → τ'[i]? = some none ∧ ∀ (j : Nat), is[j]? ≠ some (some i)) ∧ (p = true → τ' = τ ∧ A' = A ∧ (∀ j, Ac j = []) ∧ ∀ (j i : Nat), is[j]? ≠ some (some i)) ∧ (∀ (j : Nat) (m : M), ms[j]? = some m → isV m = false → io.contains (k + j) = true ∧ ∃ i, is[j]? = some (some i)) := by
      intro d τ1 e1 e2
      cases e3 : takeA p io (k + 1) rs τ1 with
      | none => rw [e3] at e2; cases e2
      | some t =>
        obtain ⟨ms1, is1, τ2⟩ := t
        rw [e3] at e2
        cases e2
        obtain ⟨Z1, A1, po, rp⟩ := esc_op s q1 e1
        have q2' : OpsW c Z1 H σ rs w := by
          have : ∀ {rs : List R} {xs : List V}, OpsW c Z H σ rs xs → OpsW c Z1 H σ rs xs := by
            intro rs
            induction rs with
            | nil => intro xs q; exact q
            | cons r rs ih =>
              intro xs q
              obtain ⟨x, w, rfl, a1, a2⟩ := q
              refine ⟨x, w, rfl, ?_, ih a2⟩
              cases r with
              | d d => exact Rep.mono po.zz d x a1
              | m m => exact a1
              | pl i f => cases f <;> exact a1
          exact this q2
        obtain ⟨Z2, A2, Ac, zz, hd, em, pu, ow⟩ := takeA_ok po.st q2' e3
        have f0 : fzw F H ([] : List Addr) = F := by funext a; exact fzw_out (by simp)
        refine ⟨Z2, A2, _, po.zz.trans zz, Hand.cons (B := []) (i0 := none) (m := .v d) (x := x) (by rw [f0]; exact hd) (fun a z => (by cases z)) List.nodup_nil ⟨rfl, Rep.mono zz d x rp⟩ (fun i z => (by cases z)), fun i e => ?_, fun hp => ?_, fun j m e hv => ?_⟩
        · obtain ⟨k1, k2⟩ := em i (esc_none e1 e)
          refine ⟨k1, fun j => ?_⟩
          cases j with
          | zero => simp
          | succ j => simpa using k2 j
        · obtain ⟨_, y2, y3⟩ := po.pu hp
          obtain ⟨k1, k2, k3, k4⟩ := pu hp
          refine ⟨k1.trans y2, k2.trans y3, fun j => ?_, fun j i => ?_⟩
          · cases j with
            | zero => rfl
            | succ j => exact k3 j
          · cases j with
            | zero => simp
            | succ j => simpa using k4 j i
        · cases j with
          | zero =>
            have : M.v d = m := by simpa using e
            subst this
            cases hv
          | succ j =>
            obtain ⟨k1, i, k2⟩ := ow j m (by simpa using e) hv
            exact ⟨by rw [show k + (j + 1) = k + 1 + j by omega]; exact k1, i, by simpa using k2⟩
    have gen : ∀ {o : R}, o = r → (match esc p τ o with | some (d, τ1) => (takeA p io (k + 1) rs τ1).map fun (ms, is, τ') => (M.v d :: ms, none :: is, τ') | none => none) = some (ms, is, τ') → ∃ Z' A' Ac, Same Z Z' ∧ Hand c F Z' H σ τ' A' (x :: w) ms is Ac ∧ (∀ (i : Nat), τ[i]? = some none → τ'[i]? = some none ∧ ∀ (j : Nat), is[j]? ≠ some (some i)) ∧ (p = true → τ' = τ ∧ A' = A ∧ (∀ j, Ac j = []) ∧ ∀ (j i : Nat), is[j]? ≠ some (some i)) ∧ (∀ (j : Nat) (m : M), ms[j]? = some m → isV m = false → io.contains (k + j) = true ∧ ∃ i, is[j]? = some (some i)) := by
      intro o eo e
      subst eo
      split at e
      · rename_i d τ1 e1
        exact plain e1 e
      · cases e
    cases r with
    | d d => exact gen rfl h
    | m m => exact gen rfl h
    | pl i f =>
      cases f with
      | some f => exact gen rfl h
      | none =>
        unfold takeA at h
        cases p with
        | true => simp at h
        | false =>
          rw [if_neg Bool.false_ne_true] at h
          split at h
          · rename_i hio
            split at h
            · rename_i m hm
              cases e3 : takeA false io (k + 1) rs (τ.set i none) with
              | none => rw [e3] at h; cases h
              | some t =>
                obtain ⟨ms1, is1, τ2⟩ := t
                rw [e3] at h
                cases h
                have hi := slotM_some hm
                obtain ⟨v, e1, o⟩ := s.own i m hi
                have q1' : σ[i]? = some (some x) := q1
                rw [q1'] at e1
                cases e1
                have s1 := (s.drop i).fin (B := A i) fun a ha => ⟨(s.fr i a ha).2.1, fun j z => by
                  by_cases e : j = i
                  · subst e; rw [put1_same] at z; cases z
                  · rw [put1_ne e] at z; exact e (s.dj j i a z ha)⟩
                obtain ⟨Z2, A2, Ac, zz, hd, em, pu, ow⟩ := takeA_ok s1 q2 e3
                have li : i < τ.length := (List.getElem?_eq_some_iff.mp hi).1
                obtain ⟨em1, em2⟩ := em i (by rw [List.getElem?_set_self li])
                refine ⟨Z2, A2, _, zz, Hand.cons (B := A i) (i0 := some i) (m := m) (x := x) hd (fun a ha => ⟨(s.fr i a ha).1, (s.fr i a ha).2.2⟩) (s.nd i) (OR.keep zz m x (A i) (fun _ _ => rfl) o) (fun j z => by cases z; exact ⟨q1', em1, em2⟩), fun j e => ?_, fun hp => (by cases hp), fun j m' e hv => ?_⟩
                · have ne : i ≠ j := fun z => by subst z; rw [hi] at e; cases e
                  obtain ⟨k1, k2⟩ := em j (by rw [List.getElem?_set_ne ne]; exact e)
                  refine ⟨k1, fun l => ?_⟩
                  cases l with
                  | zero => simpa using ne
                  | succ l => simpa using k2 l
                · cases j with
                  | zero => exact ⟨hio, i, rfl⟩
                  | succ j =>
                    obtain ⟨k1, i', k2⟩ := ow j m' (by simpa using e) hv
                    exact ⟨by rw [show k + (j + 1) = k + 1 + j by omega]; exact k1, i', by simpa using k2⟩
            · cases h
          · exact gen rfl h
open Classical in
/-- what a callee leaves as it is -/
noncomputable def Fc (Z H : Hp) (Ac : Nat → List Addr) : Hp := fun a => if (∃ o, Z a = some o) ∨ (∃ j, a ∈ Ac j) then none else H a
theorem Fc_out {Z H : Hp} {Ac : Nat → List Addr} {a : Addr} (h1 : Z a = none) (h2 : ∀ j, a ∉ Ac j) : Fc Z H Ac a = H a := if_neg fun h => by
  rcases h with ⟨o, e⟩ | ⟨j, hj⟩
  · rw [h1] at e; cases e
  · exact h2 j hj
theorem Fc_z {Z H : Hp} {Ac : Nat → List Addr} {a : Addr} {o : HO} (h : Z a = some o) : Fc Z H Ac a = none := if_pos (.inl ⟨o, h⟩)
theorem Fc_a {Z H : Hp} {Ac : Nat → List Addr} {a : Addr} {j : Nat} (h : a ∈ Ac j) : Fc Z H Ac a = none := if_pos (.inr ⟨j, h⟩)
theorem Fc_h {Z H : Hp} {Ac : Nat → List Addr} : Same (Fc Z H Ac) H := fun a o e => by
  by_cases z : (∃ o, Z a = some o) ∨ ∃ j, a ∈ Ac j
  · unfold Fc at e; rw [if_pos z] at e; cases e
  · unfold Fc at e; rw [if_neg z] at e; exact e
theorem getMap {α β : Type} {f : α → β} {l : List α} {i : Nat} {y : β} (h : (l.map f)[i]? = some y) : ∃ x, l[i]? = some x ∧ f x = y := by
  rw [List.getElem?_map] at h
  cases e : l[i]? with
  | none => rw [e] at h; cases h
  | some x => rw [e] at h; exact ⟨x, rfl, Option.some.inj h⟩
theorem Hand.callee {xs : List V} {ms : List M} {is : List (Option Nat)} {Ac : Nat → List Addr} (h : Hand c F Z H σ τ A xs ms is Ac) : Sta c (Fc Z H Ac) Z H (xs.map some) (ms.map some) Ac := by
  refine ⟨Fc_h, h.st.zh, fun a o e => Fc_z e, by simp [h.len], fun i m e => ?_, h.nd, h.dj, fun i a ha => ⟨Fc_a ha, (h.fr i a ha).2⟩, h.st.tz⟩
  obtain ⟨m', e1, e2⟩ := getMap e
  cases e2
  obtain ⟨x, e3, q⟩ := h.own i m e1
  exact ⟨x, by rw [List.getElem?_map, e3]; rfl, q⟩
theorem giveA_len : ∀ (is : List (Option Nat)) (os : List M) (τ : T), (giveA is os τ).length = τ.length
  | [], _, _ => by simp [giveA]
  | some i :: is, [], τ => by simp [giveA]
  | none :: is, [], τ => by simp [giveA]
  | some i :: is, m :: os, τ => by rw [giveA, giveA_len, List.length_set]
  | none :: is, m :: os, τ => by rw [giveA, giveA_len]
theorem giveA_out {i : Nat} : ∀ (is : List (Option Nat)) (os : List M) (τ : T), (∀ (j : Nat), is[j]? ≠ some (some i)) → (giveA is os τ)[i]? = τ[i]?
  | [], _, _, _ => by simp [giveA]
  | some k :: is, [], τ, _ => by simp [giveA]
  | none :: is, [], τ, _ => by simp [giveA]
  | some k :: is, m :: os, τ, h => by
    have nk : k ≠ i := by have := h 0; simpa using this
    rw [giveA, giveA_out is os _ fun j => by simpa using h (j + 1), List.getElem?_set_ne nk]
  | none :: is, m :: os, τ, h => by rw [giveA, giveA_out is os _ fun j => by simpa using h (j + 1)]
theorem giveA_in {i : Nat} {m : M} : ∀ (is : List (Option Nat)) (os : List M) (τ : T) (j : Nat), is[j]? = some (some i) → (∀ (k : Nat), is[k]? = some (some i) → k = j) → os[j]? = some m → i < τ.length → (giveA is os τ)[i]? = some (some m)
  | [], _, _, j, h, _, _, _ => by simp at h
  | _ :: is, [], τ, j, _, _, h, _ => by simp at h
  | some k :: is, m' :: os, τ, 0, h, u, e, l => by
    have e1 : k = i := by simpa using h
    have e2 : m' = m := by simpa using e
    subst e1 e2
    rw [giveA, giveA_out is os _ fun j z => by have := u (j + 1) (by simpa using z); omega, List.getElem?_set_self l]
  | none :: is, m' :: os, τ, 0, h, u, e, l => by simp at h
  | some k :: is, m' :: os, τ, j + 1, h, u, e, l => by
    rw [giveA]
    exact giveA_in is os _ j (by simpa using h) (fun k' z => by have := u (k' + 1) (by simpa using z); omega) (by simpa using e) (by rw [List.length_set]; exact l)
  | none :: is, m' :: os, τ, j + 1, h, u, e, l => by
    rw [giveA]
    exact giveA_in is os _ j (by simpa using h) (fun k' z => by have := u (k' + 1) (by simpa using z); omega) (by simpa using e) l
theorem giveA_none : ∀ (is : List (Option Nat)) (os : List M) (τ : T), (∀ (j i : Nat), is[j]? ≠ some (some i)) → giveA is os τ = τ
  | [], _, _, _ => by simp [giveA]
  | some k :: is, [], τ, _ => by simp [giveA]
  | none :: is, [], τ, _ => by simp [giveA]
  | some k :: is, m :: os, τ, h => (h 0 k (by simp)).elim
  | none :: is, m :: os, τ, h => by rw [giveA, giveA_none is os _ fun j i => by simpa using h (j + 1) i]
open Classical in
theorem Hand.back {xs : List V} {ms os : List M} {is : List (Option Nat)} {Ac Ac2 : Nat → List Addr} {H2 Z2 : Hp} (h : Hand c F Z H σ τ A xs ms is Ac) (zz : Same Z Z2) (s : Sta c (Fc Z H Ac) Z2 H2 (xs.map some) (os.map some) Ac2) :
    ∃ A3, Sta c F Z2 H2 σ (giveA is os τ) A3 ∧ (∀ B : List Addr, (∀ a ∈ B, Fc Z H Ac a = none ∧ H2 a ≠ none) → (∀ j a, a ∈ Ac2 j → a ∉ B) → (∀ i a, a ∈ A3 i → a ∉ B) ∧ ∀ a ∈ B, F a = none) ∧
      (∀ j : Nat, (∀ (i : Nat), is[j]? ≠ some (some i)) → (∀ i a, a ∈ A3 i → a ∉ Ac2 j) ∧ ∀ a ∈ Ac2 j, F a = none) ∧ (∀ H0, Same H0 H → (∀ j a, a ∈ Ac j → H0 a = none) → (∀ (j i : Nat), is[j]? ≠ some (some i)) → Same H0 H2 ∧ giveA is os τ = τ ∧ A3 = A) := by
  have lo : os.length = xs.length := by have := s.len; simpa using this
  -- what is the caller's own or others' is as it was
  have mine : ∀ i a, a ∈ A i → Fc Z H Ac a = H a ∧ H2 a = H a ∧ Z2 a = none := fun i a ha => by
    obtain ⟨h1, h2, h3⟩ := h.st.fr i a ha
    have e := Fc_out (H := H) h2 fun j z => h.da j i a z ha
    obtain ⟨o, eo⟩ := Option.ne_none_iff_exists'.mp h3
    refine ⟨e, by rw [eo]; exact s.fh a o (by rw [e]; exact eo), ?_⟩
    cases q : Z2 a with
    | none => rfl
    | some o' =>
      have := s.fz a o' q
      rw [e, eo] at this; cases this
  have oth : ∀ a o, F a = some o → Fc Z H Ac a = some o := fun a o e => by
    have z0 : Z a = none := by
      cases q : Z a with
      | none => rfl
      | some o' =>
        have := h.st.fz a o' q
        rw [e] at this; cases this
    rw [Fc_out z0 fun j z => by have := (h.fr j a z).1; rw [e] at this; cases this]
    exact h.st.fh a o e
  have fn : ∀ a, Fc Z H Ac a = none → F a = none := fun a e => by
    cases q : F a with
    | none => rfl
    | some o => rw [oth a o q] at e; cases e
  have old : ∀ a, Fc Z H Ac a = none → ∀ i, a ∉ A i := fun a e i ha => by
    rw [(mine i a ha).1] at e
    exact (h.st.fr i a ha).2.2 e
  let A3 : Nat → List Addr := fun i => if hj : ∃ j : Nat, is[j]? = some (some i) then Ac2 (choose hj) else A i
  have A3in : ∀ (j i : Nat), is[j]? = some (some i) → A3 i = Ac2 j := fun j i e => by
    have hj : ∃ j : Nat, is[j]? = some (some i) := ⟨j, e⟩
    show (if hj : ∃ j : Nat, is[j]? = some (some i) then Ac2 (choose hj) else A i) = _
    rw [dif_pos hj, h.inj _ j i (choose_spec hj) e]
  have A3out : ∀ i : Nat, (∀ (j : Nat), is[j]? ≠ some (some i)) → A3 i = A i := fun i e => by
    show (if hj : ∃ j : Nat, is[j]? = some (some i) then Ac2 (choose hj) else A i) = _
    rw [dif_neg fun ⟨j, z⟩ => e j z]
  have cas : ∀ i : Nat, (∃ j : Nat, is[j]? = some (some i) ∧ A3 i = Ac2 j) ∨ ((∀ (j : Nat), is[j]? ≠ some (some i)) ∧ A3 i = A i) := fun i => by
    by_cases hj : ∃ j : Nat, is[j]? = some (some i)
    · obtain ⟨j, e⟩ := hj
      exact .inl ⟨j, e, A3in j i e⟩
    · exact .inr ⟨fun j z => hj ⟨j, z⟩, A3out i fun j z => hj ⟨j, z⟩⟩
  have frs : ∀ i a, a ∈ A3 i → F a = none ∧ Z2 a = none ∧ H2 a ≠ none := fun i a ha => by
    rcases cas i with ⟨j, e, ea⟩ | ⟨e, ea⟩
    · rw [ea] at ha
      obtain ⟨h1, h2, h3⟩ := s.fr j a ha
      exact ⟨fn a h1, h2, h3⟩
    · rw [ea] at ha
      obtain ⟨h1, h2, h3⟩ := h.st.fr i a ha
      obtain ⟨_, k2, k3⟩ := mine i a ha
      exact ⟨h1, k3, by rw [k2]; exact h3⟩
  refine ⟨A3, ⟨fun a o e => s.fh a o (oth a o e), s.zh, fun a o e => fn a (s.fz a o e), by rw [giveA_len]; exact h.st.len, fun i m e => ?_, fun i => ?_, fun i k a h1 h2 => ?_, frs, s.tz⟩, fun B hB hd => ⟨fun i a ha hb => ?_, fun a ha => fn a (hB a ha).1⟩, fun j hj => ⟨fun i a ha hb => ?_, fun a ha => fn a (s.fr j a ha).1⟩, fun H0 h0 h1 h2 => ⟨fun a o e0 => ?_, giveA_none _ _ _ h2, ?_⟩⟩
  · rcases cas i with ⟨j, ej, ea⟩ | ⟨ej, ea⟩
    · obtain ⟨x, x1, x2, x3⟩ := h.gv j i ej
      have lj : j < os.length := by rw [lo]; exact (List.getElem?_eq_some_iff.mp x1).1
      have li : i < τ.length := (List.getElem?_eq_some_iff.mp x3).1
      have e0 := giveA_in is os τ j ej (fun k z => h.inj k j i z ej) (show os[j]? = some os[j] by simp) li
      rw [e0] at e
      cases e
      obtain ⟨v, e1, q⟩ := s.own j os[j] (by rw [List.getElem?_map]; simp)
      rw [List.getElem?_map, x1] at e1
      cases e1
      exact ⟨x, x2, by rw [ea]; exact q⟩
    · rw [giveA_out is os τ ej] at e
      obtain ⟨v, e1, q⟩ := h.st.own i m e
      exact ⟨v, e1, by rw [ea]; exact OR.keep zz m v (A i) (fun a ha => (mine i a ha).2.1) q⟩
  · rcases cas i with ⟨j, ej, ea⟩ | ⟨ej, ea⟩
    · rw [ea]; exact s.nd j
    · rw [ea]; exact h.st.nd i
  · rcases cas i with ⟨j, ej, ea⟩ | ⟨ej, ea⟩
    · rw [ea] at h1
      rcases cas k with ⟨j', ej', ea'⟩ | ⟨ej', ea'⟩
      · rw [ea'] at h2
        have := s.dj j j' a h1 h2
        subst this
        rw [ej] at ej'
        cases ej'
        rfl
      · rw [ea'] at h2
        exact absurd h2 (old a (s.fr j a h1).1 k)
    · rw [ea] at h1
      rcases cas k with ⟨j', ej', ea'⟩ | ⟨ej', ea'⟩
      · rw [ea'] at h2
        exact absurd h1 (old a (s.fr j' a h2).1 i)
      · rw [ea'] at h2
        exact h.st.dj i k a h1 h2
  · rcases cas i with ⟨j, ej, ea⟩ | ⟨ej, ea⟩
    · rw [ea] at ha
      exact hd j a ha hb
    · rw [ea] at ha
      exact old a (hB a hb).1 i ha
  · rcases cas i with ⟨j', ej', ea⟩ | ⟨ej', ea⟩
    · rw [ea] at ha
      have := s.dj j' j a ha hb
      subst this
      exact hj i ej'
    · rw [ea] at ha
      exact old a (s.fr j a hb).1 i ha
  · have e := h0 a o e0
    cases q : Z a with
    | some o' =>
      have := h.st.zh a o' q
      rw [e] at this
      cases this
      exact s.zh a o (zz a o q)
    | none => exact s.fh a o (by rw [Fc_out q fun j z => by rw [h1 j a z] at e0; cases e0]; exact e)
  · funext i
    exact A3out i fun j => h2 j i
/-- what a def promises, by its evaluation -/
def spC (c : Cn) (cl : Caller) (f : Nat) : Sp := fun vs H Q _ => ∃ F Z args A out os, Sta c F Z H (vs.map some) (args.map some) A ∧ cl f args = some (out, os) ∧
  ∀ x H' Z' A' B, Same Z Z' → Sta c F Z' H' (vs.map some) (os.map some) A' → Res c F Z' H' (vs.map some) (os.map some) A' (.m out) x B → Q x H'
theorem resR_ok {m : M} {x : V} {B : List Addr} (q : Res c F Z H σ τ A (.m m) x B) : Res c F Z H σ τ A (resR m) x B := by
  refine ⟨?_, q.nd, q.dj, q.fr⟩
  cases m with
  | v d => exact q.rr
  | lst _ => exact q.rr
  | dK _ _ => exact q.rr
  | dT _ _ => exact q.rr
  | ins _ _ => exact q.rr
theorem Hand.use {cl : Caller} {f : Nat} {xs : List V} {ms os : List M} {m : M} {is : List (Option Nat)} {Ac : Nat → List Addr} {Q : VK} {E : XK} (h : Hand c F Z H σ τ A xs ms is Ac) (ev : cl f ms = some (m, os))
    (k : ∀ x H' Z' A' B, Same Z Z' → Sta c F Z' H' σ (giveA is os τ) A' → Res c F Z' H' σ (giveA is os τ) A' (resR m) x B → ((∀ j, Ac j = []) → (∀ (j i : Nat), is[j]? ≠ some (some i)) → Same H H' ∧ giveA is os τ = τ ∧ A' = A) → Q x H') : spC c cl f xs H Q E := by
  refine ⟨_, Z, ms, Ac, m, os, h.callee, ev, fun x H' Z' A' B zz s r => ?_⟩
  obtain ⟨A3, s3, d1, _, d3⟩ := h.back zz s
  obtain ⟨d4, d5⟩ := d1 B (fun a ha => ⟨(r.fr a ha).1, (r.fr a ha).2.2⟩) fun j a h1 h2 => r.dj j a h1 h2
  exact k x H' Z' A3 B zz s3 (resR_ok (m := m) ⟨r.rr, r.nd, d4, fun a ha => ⟨d5 a ha, (r.fr a ha).2⟩⟩) fun h1 h2 => d3 H (Same.refl _) (fun j a z => by rw [h1 j] at z; cases z) h2
open Classical in
/-- all that the slots hold is frozen for a while -/
noncomputable def allZ (Z H : Hp) (A : Nat → List Addr) : Hp := fun a => if ∃ i, a ∈ A i then H a else Z a
theorem allZ_in {a : Addr} {i : Nat} (h : a ∈ A i) : allZ Z H A a = H a := if_pos ⟨i, h⟩
theorem allZ_out {a : Addr} (h : ∀ i, a ∉ A i) : allZ Z H A a = Z a := if_neg fun ⟨i, z⟩ => h i z
theorem allZ_z (s : Sta c F Z H σ τ A) : Same Z (allZ Z H A) := fun a o e => by
  rw [allZ_out fun i z => by have := (s.fr i a z).2.1; rw [e] at this; cases this]; exact e
theorem allZ_h (s : Sta c F Z H σ τ A) : Same (allZ Z H A) H := fun a o e => by
  by_cases z : ∃ i, a ∈ A i
  · obtain ⟨i, z⟩ := z
    rw [allZ_in z] at e; exact e
  · rw [allZ_out fun i q => z ⟨i, q⟩] at e; exact s.zh _ _ e
theorem lookZ_ok (s : Sta c F Z H σ τ A) {r : R} {x : V} {d : D} (q : OpW c Z H σ r x) (h : lookZ τ r = some d) : Rep c (allZ Z H A) d x := by
  cases r with
  | d d' => cases h; exact Rep.mono (allZ_z s) d x q
  | m m => exact q.elim
  | pl i f =>
    unfold lookZ at h
    simp only at h
    cases e : getP τ i f with
    | none => rw [e] at h; cases h
    | some m =>
      rw [e] at h
      cases h
      obtain ⟨B, hB, _, o, _⟩ := place_at s q e
      exact OR.frz (allZ_z s) m x B (fun a ha => allZ_in (hB a ha)) o
theorem looksZ_ok (s : Sta c F Z H σ τ A) : ∀ {rs : List R} {xs : List V} {ds : List D}, OpsW c Z H σ rs xs → rs.mapM (lookZ τ) = some ds → RepL c (allZ Z H A) ds xs
  | [], _, ds, q, h => by
    cases h
    exact q
  | r :: rs, _, ds, q, h => by
    obtain ⟨x, w, rfl, q1, q2⟩ := q
    rw [List.mapM_cons] at h
    cases e1 : lookZ τ r with
    | none => rw [e1] at h; cases h
    | some d =>
      rw [e1] at h
      cases e2 : rs.mapM (lookZ τ) with
      | none =>
        have h' : (do let bs ← rs.mapM (lookZ τ); pure (d :: bs) : Option (List D)) = some ds := h
        rw [e2] at h'; cases h'
      | some es =>
        have h' : (do let bs ← rs.mapM (lookZ τ); pure (d :: bs) : Option (List D)) = some ds := h
        rw [e2] at h'
        cases h'
        exact ⟨x, w, rfl, lookZ_ok s q1 e1, looksZ_ok s q2 e2⟩
theorem sclM_ok {m : M} {d : D} (h : sclM m = some d) : m = .v d ∧ ∀ (Z Z' : Hp) (x : V), Rep c Z d x → Rep c Z' d x := by
  unfold sclM at h
  split at h <;> cases h <;> exact ⟨rfl, fun _ _ _ q => q⟩
open Classical in
/-- a call that looks at its arguments and gives a plain value: all is as it was -/
theorem pcall_ok {cl : Caller} {f : Nat} {p : Bool} {rs : List R} {xs : List V} {ds : List D} {m : M} {os : List M} {d : D} {Q : VK} {E : XK} (s : Sta c F Z H σ τ A) (q : OpsW c Z H σ rs xs) (hd : rs.mapM (lookZ τ) = some ds) (ev : cl f (ds.map .v) = some (m, os)) (hs : sclM m = some d)
    (k : ∀ x H' Z' A', Post c p F Z H σ τ A τ H' Z' A' → Res c F Z' H' σ τ A' (.d d) x [] → Q x H') : spC c cl f xs H Q E := by
  obtain ⟨rfl, sc⟩ := sclM_ok (c := c) hs
  have rl := looksZ_ok s q hd
  refine ⟨Fc (allZ Z H A) H (fun _ => []), allZ Z H A, ds.map .v, fun _ => [], .v d, os, ⟨Fc_h, allZ_h s, fun a o e => Fc_z e, ?_, fun i m e => ?_, fun _ => List.nodup_nil, fun _ _ _ h _ => (by cases h), fun _ _ h => (by cases h), s.tz.mono (allZ_z s)⟩, ev, fun x H' Z' A' B zz s' r => ?_⟩
  · simp [RepL.len ds xs rl]
  · rw [List.getElem?_map, List.getElem?_map] at e
    cases e2 : ds[i]? with
    | none => rw [e2] at e; cases e
    | some d2 =>
      rw [e2] at e
      cases e
      obtain ⟨v, e3, q3⟩ := RepL.get ds xs i d2 rl e2
      exact ⟨v, by rw [List.getElem?_map, e3]; rfl, rfl, q3⟩
  · have rd : Rep c Z' d x := r.rr.2
    have hh : Same H H' := fun a o e => by
      cases z : allZ Z H A a with
      | some o' =>
        have := allZ_h s _ _ z
        rw [e] at this
        cases this
        exact s'.zh _ _ (zz _ _ z)
      | none => exact s'.fh a o (by rw [Fc_out z fun j h => by cases h]; exact e)
    let Z3 : Hp := fun a => if ∃ i, a ∈ A i then none else Z' a
    have z3out : ∀ a, (∀ i, a ∉ A i) → Z3 a = Z' a := fun a h => if_neg fun ⟨i, z⟩ => h i z
    have z3in : ∀ a i, a ∈ A i → Z3 a = none := fun a i h => if_pos ⟨i, h⟩
    have z3' : ∀ a o, Z3 a = some o → Z' a = some o ∧ ∀ i, a ∉ A i := fun a o e => by
      by_cases z : ∃ i, a ∈ A i
      · obtain ⟨i, z⟩ := z
        rw [z3in a i z] at e; cases e
      · rw [z3out a fun i q => z ⟨i, q⟩] at e
        exact ⟨e, fun i q => z ⟨i, q⟩⟩
    have live : ∀ i a, a ∈ A i → H' a = H a := fun i a ha => by
      cases e : H a with
      | none => exact absurd e (s.fr i a ha).2.2
      | some o => exact hh _ _ e
    have zz3 : Same Z Z3 := fun a o e => by
      have na : ∀ i, a ∉ A i := fun i z => by have := (s.fr i a z).2.1; rw [e] at this; cases this
      rw [z3out a na]
      exact zz _ _ (allZ_z s _ _ e)
    refine k x H' Z3 A ⟨zz3, ⟨s.fh.trans hh, fun a o e => s'.zh _ _ (z3' a o e).1, fun a o e => ?_, s.len, fun i m e => ?_, s.nd, s.dj, fun i a ha => ?_, fun b vs e => ?_⟩, fun _ => ⟨hh, rfl, rfl⟩⟩ ⟨⟨rfl, sc _ _ _ rd⟩, List.nodup_nil, fun _ _ _ h => (by cases h), fun _ h => (by cases h)⟩
    · obtain ⟨e1, na⟩ := z3' a o e
      have f1 := s'.fz a o e1
      cases z : Z a with
      | some o' => exact s.fz a o' z
      | none =>
        rw [Fc_out (by rw [allZ_out na]; exact z) fun j h => by cases h] at f1
        exact s.fh.free f1
    · obtain ⟨v, e1, q⟩ := s.own i m e
      exact ⟨v, e1, OR.keep zz3 m v (A i) (fun a ha => live i a ha) q⟩
    · obtain ⟨h1, h2, h3⟩ := s.fr i a ha
      exact ⟨h1, z3in a i ha, by rw [live i a ha]; exact h3⟩
    · have e1 := s'.tz b vs e
      refine (z3out b fun i z => ?_).trans e1
      have e2 : H b = some (.tup vs) := by rw [← live i b z]; exact e
      have := s.tz b vs e2
      rw [(s.fr i b z).2.1] at this
      cases this
theorem Hand.fin {xs : List V} {ms : List M} {is : List (Option Nat)} {Ac : Nat → List Addr} (h : Hand c F Z H σ τ A xs ms is Ac) {B : List Addr} (hB : ∀ a ∈ B, Z a = none ∧ (∀ i, a ∉ A i) ∧ ∀ j, a ∉ Ac j) : Hand c (fzw F H B) Z H σ τ A xs ms is Ac :=
  ⟨h.st.fin fun a ha => ⟨(hB a ha).1, (hB a ha).2.1⟩, h.len, h.lis, h.own, h.nd, h.dj, h.da, fun j a ha => by
    obtain ⟨h1, h2, h3⟩ := h.fr j a ha
    exact ⟨by rw [fzw_out fun z => (hB a z).2.2 j ha]; exact h1, h2, h3⟩, h.gv, h.inj⟩
theorem Hand.grow {xs : List V} {ms : List M} {is : List (Option Nat)} {Ac : Nat → List Addr} (h : Hand c F Z H σ τ A xs ms is Ac) {H' : Hp} (g : Same H H') (ht : TupsIn Z H') : Hand c F Z H' σ τ A xs ms is Ac := by
  have live : ∀ j a, a ∈ Ac j → H' a = H a := fun j a ha => by
    cases e : H a with
    | none => exact absurd e (h.fr j a ha).2.2
    | some o => exact g _ _ e
  exact ⟨h.st.grow g ht, h.len, h.lis, fun j m e => by
    obtain ⟨x, e1, q⟩ := h.own j m e
    exact ⟨x, e1, OR.keep (Same.refl _) m x (Ac j) (fun a ha => live j a ha) q⟩, h.nd, h.dj, h.da, fun j a ha => by
    obtain ⟨h1, h2, h3⟩ := h.fr j a ha
    exact ⟨h1, h2, by rw [live j a ha]; exact h3⟩, h.gv, h.inj⟩
end
end Ev

/-! Ev, part U: calls where it is known which repr is under way: none. The kit's FnOk says nothing of the guards. -/
namespace Ev
open PySem PySem.Spec L2 PyProof.Rows
/-- a def's promise, where (if r) no guard is under way -/
structure FnR (r : Bool) (P : Program) (w : World) (K : PySem.W.Frag) (mg : Str → Option Value) (base : Heap) (CX : CXT) (k : Nat) (f : Addr) (fd : FuncData) (ps : List Str) (sp : Sp) : Prop where
  len : ∀ vs H Q E, sp vs H Q E → vs.length = ps.length
  run : ∀ (A : Around) (outer : List Env) (s : Shared) (H : Hp) (args : Args) (us : List Value) (vs : List V) (Q : VK) (E : XK), (r = true → A.guards = some []) → Room k A → Env0 P w K mg base A outer s H → BindsTo s fd args (ps.zip us) → Vals vs us → sp vs H Q E →
    codeAny (model P w) A (.call (.ref f) args) (CR CX outer P w H s Q E) s
section
variable {P : Program} {w : World} {K : PySem.W.Frag} {mg : Str → Option Value} {base : Heap} {CX : CXT} {k : Nat} {f : Addr} {fd : FuncData} {ps : List Str} {sp : Sp}
theorem FnR.ok (F : FnR false P w K mg base CX k f fd ps sp) : FnOk P w K mg base CX k f fd ps sp := ⟨F.len, fun A o s H a us vs Q E => F.run A o s H a us vs Q E fun h => by cases h⟩
theorem FnR.weak {r : Bool} (F : FnR r P w K mg base CX k f fd ps sp) : FnR true P w K mg base CX k f fd ps sp := ⟨F.len, fun A o s H a us vs Q E h => F.run A o s H a us vs Q E fun _ => h rfl⟩
theorem FnR.imp {r : Bool} {sp' : Sp} (F : FnR r P w K mg base CX k f fd ps sp) (h : ∀ vs H Q E, sp' vs H Q E → sp vs H Q E) : FnR r P w K mg base CX k f fd ps sp' :=
  ⟨fun vs H Q E q => F.len vs H Q E (h _ _ _ _ q), fun A o s H a us vs Q E hg hr he hb hv q => F.run A o s H a us vs Q E hg hr he hb hv (h _ _ _ _ q)⟩
end
theorem make_guards {A : Around} {C : Addr} {us : List Value} {kw : List (Str × Value)} (h : A.guards = some []) : (A.under (.builtin "type.__call__" ⟨.ref C :: us, kw⟩)).guards = some [] := by
  simp [Around.under, Code.guards, Code.isGuard, guardIds, pushGuards, h]
section
variable {X : Cx} {CX : CXT} {k : Nat} {f C : Addr} {fd : FuncData} {ps : List Str} {sp : Sp} {ds : List Value} {E : XK} {x m : Str} {p pos apos : Pos} {e o : Expr} {es : List Expr} {ta : TE} {t : TA} {r : List V → Hp → VK → Prop}
/-- what comes back of a call, with what came ahead of it -/
theorem back_of {pins : List (Addr × Obj)} {σ : L2.St} {H H0 : Hp} {s s0 : Shared} {Q : VK} (hx : Passes CX X E) (I : Inv X pins σ H s) {res : Result} {s' : Shared} {q : Value → Shared → Prop} (hq : CR CX X.stack X.prog X.w H s Q E res s') (k : ∀ u, EP X pins σ Q u s' → q u s') :
    callEnd q X.xe res s' := by
  cases res with
  | error e => exact hx pins σ H s e s' I hq
  | ok fl =>
    cases fl with
    | ret u => exact k u (I.after hq)
    | next => exact False.elim hq
    | brk => exact False.elim hq
    | cont => exact False.elim hq
/-- a def is called -/
theorem cr_fn (F : FnR true X.prog X.w X.K X.mg X.base CX k f fd ps sp) (hg : X.A.guards = some []) (hr : Room k X.A) (hb : Binds X.K fd ps []) (hx : Passes CX X E) : CallR X (.ref f) (fun vs H Q => sp vs H Q E) := by
  intro pins s σ H vs us Q I r h
  have hl : us.length = ps.length := by rw [← r.length]; exact F.len _ _ _ _ h
  have bd := hb s us I.kIn (by simpa using hl)
  rw [List.append_nil] at bd
  exact wpAny_call (codeAny_mono (F.run X.A X.stack s H ⟨us, []⟩ us vs Q E (fun _ => hg) hr I.env0 bd r h) fun res s' hq => back_of (s0 := s) (H0 := H) hx I hq fun _ z => z)
/-- a thing of a class is made -/
theorem cr_mk (M : Mk X.K C f) (F : FnR true X.prog X.w X.K X.mg X.base CX k f fd ps sp) (hg : X.A.guards = some []) (hr : Room (k + 1) X.A) (hb : Binds X.K fd ps []) (hx : Passes CX X E) :
    CallR X (.ref C) (fun vs H Q => ∀ x dx, H x = none → H dx = none → dx ≠ x → sp (.ref x :: vs) (upd (upd H dx (.own x)) x (.ins C dx [])) (fun v H2 => v = .non ∧ Q (.ref x) H2) E) := by
  intro pins s σ H vs us Q I r h
  have hq := h (s.heap.objs.size + 1) s.heap.objs.size (I.hok.fresh (Nat.le_succ _)) (I.hok.fresh (Nat.le_refl _)) (Nat.ne_of_lt (Nat.lt_succ_self _))
  have I2 := Inv.made (C := C) I
  have r2 : Vals (V.ref (s.heap.objs.size + 1) :: vs) (Value.ref (s.heap.objs.size + 1) :: us) := .cons rfl r
  have hl : (Value.ref (s.heap.objs.size + 1) :: us).length = ps.length := by
    rw [← r2.length]; exact F.len _ _ _ _ hq
  have bd := hb _ (Value.ref (s.heap.objs.size + 1) :: us) I2.kIn (by simpa using hl)
  rw [List.append_nil] at bd
  have run := F.run _ X.stack _ _ ⟨Value.ref (s.heap.objs.size + 1) :: us, []⟩ _ _ _ E (fun _ => make_guards (C := C) (us := us) (kw := []) hg) (hr.make C us []) (I2.env0.make C us []) bd r2 hq
  refine wpAny_call (make_map (f := f) I.kIn M.makes M.init (beq_iff_eq.mp M.fn) (codeAny_mono run fun res s' z => ?_))
  cases res with
  | error e => exact hx pins σ _ _ e s' I2 z
  | ok fl =>
    cases fl with
    | ret u =>
      obtain ⟨v, H', I3, rv, ev, q3⟩ := I2.after z
      subst ev
      exact ⟨rv, ⟨V.ref (s.heap.objs.size + 1), H', I3, rfl, q3⟩⟩
    | next => exact False.elim z
    | brk => exact False.elim z
    | cont => exact False.elim z
theorem callU {T : TA} {σ : L2.St} {H : Hp} {Q : VK} (q : tCall sp [] E T σ H Q) : tCB (fun vs H Q => sp vs H Q E) T σ H Q := by
  unfold tCall at q
  unfold tCB
  simpa only [List.append_nil] using q
theorem makeU {T : TA} {σ : L2.St} {H : Hp} {Q : VK} (q : tMake C sp [] E T σ H Q) : tCB (fun vs H Q => ∀ x dx, H x = none → H dx = none → dx ≠ x → sp (.ref x :: vs) (upd (upd H dx (.own x)) x (.ins C dx [])) (fun v H2 => v = .non ∧ Q (.ref x) H2) E) T σ H Q := by
  unfold tMake at q
  unfold tCB
  simpa only [List.append_nil] using q
theorem methU {T : TA} {σ : L2.St} {H : Hp} {Q : VK} (q : tMeth C m sp [] E ta T σ H Q) : ta σ H fun x H1 => ∃ a dx fs, x = .ref a ∧ H1 a = some (.ins C dx fs) ∧ fs.lookup m = none ∧ T σ H1 fun vs H2 => sp (x :: vs) H2 Q E := by
  unfold tMeth at q
  simpa only [List.append_nil] using q
/-- x(e, ..), x a global name -/
theorem pe_nameU {u : Addr} (hc : CallR X (.ref u) r) (hg : Gl X x) (hm : X.mg x = some (.ref u)) (hk : PySem.W.keepIn X.K (.ref u) = true) (ha : PA X (e :: es) t) (hdb : (x == ("__debug__" : Str)) = false) (he : starEach (e :: es) X.env = (false, eval e X.env) :: starEach es X.env)
    (hpl : (backTo pos (starEach es X.env)).any (·.1) = false) : PE X (.Call (.Name x p) (e :: es) [] pos) (tCB r t) :=
  ⟨fun pins s σ H Q I h => wpAny_Call_Name_kw (ld_glob I hg hm (PySem.W.callWith_K (h₀ := X.base) I.ok.mod.kin hk (thn (ha.run pos pins s σ H _ I h) fun us s1 ⟨vs, H1, I1, r1, q⟩ => ⟨I1.kIn, hc pins s1 σ H1 vs us Q I1 r1 q⟩) he hpl) hdb)⟩
theorem pe_nameU0 {u : Addr} (hc : CallR X (.ref u) r) (hg : Gl X x) (hm : X.mg x = some (.ref u)) (hk : PySem.W.keepIn X.K (.ref u) = true) (hdb : (x == ("__debug__" : Str)) = false) : PE X (.Call (.Name x p) [] [] pos) (tCB r tNil) :=
  ⟨fun pins s σ H Q I h => wpAny_Call_Name_kw (ld_glob I hg hm (PySem.W.callWith_K0 I.kIn hk (hc pins s σ H [] [] Q I .nil h)) hdb)⟩
/-- o.m(e, ..), the class's def at f -/
theorem pe_attrU {pl : Sem Bool} (he : PE X o ta) (c : Cls X.K C) (hm : Meth X.K C m f) (hc : CallR X (.ref f) r) (ha : PA X (e :: es) t) (hst : starEach (e :: es) X.env = (false, eval e X.env) :: starEach es X.env) (hpl : (backTo pos (starEach es X.env)).any (·.1) = false)
    (ht : eval (.Call (.Attribute o m apos) (e :: es) [] pos) X.env = (do
      let ov ← eval o X.env
      standAt apos.atName
      let (f, first) ← holding [ov] (getMethod ov m pl)
      callWith pos f first (backTo pos (starEach (e :: es) X.env)) (backToKw pos (keywordEach [] X.env)))) :
    PE X (.Call (.Attribute o m apos) (e :: es) [] pos) (fun σ H Q => ta σ H fun x H1 => ∃ a dx fs, x = .ref a ∧ H1 a = some (.ins C dx fs) ∧ fs.lookup m = none ∧ t σ H1 fun vs H2 => r (x :: vs) H2 Q) := by
  refine ⟨fun pins s σ H Q I h => PySem.W.methodCall_KW (pl := pl) (thn (he.run pins s σ H _ I h) fun u s1 ⟨x, H1, I1, rx, a, dx, fs, ex, ea, l, q⟩ => ?_) ht⟩
  subst ex
  cases rx
  exact getmeth_ok I1 ea c hm l (PySem.W.callWith_K (first := [.ref a]) (h₀ := X.base) I.ok.mod.kin hm.kp (thn (ha.run pos pins s1 σ H1 _ I1 q) fun us s2 ⟨vs, H2, I2, r2, q2⟩ => ⟨I2.kIn, hc pins s2 σ H2 (.ref a :: vs) (.ref a :: us) Q I2 (.cons rfl r2) q2⟩) hst hpl)
theorem pe_attrU0 {pl : Sem Bool} (he : PE X o ta) (c : Cls X.K C) (hm : Meth X.K C m f) (hc : CallR X (.ref f) r)
    (ht : eval (.Call (.Attribute o m apos) [] [] pos) X.env = (do
      let ov ← eval o X.env
      standAt apos.atName
      let (f, first) ← holding [ov] (getMethod ov m pl)
      callWith pos f first (backTo pos (starEach [] X.env)) (backToKw pos (keywordEach [] X.env)))) :
    PE X (.Call (.Attribute o m apos) [] [] pos) (fun σ H Q => ta σ H fun x H1 => ∃ a dx fs, x = .ref a ∧ H1 a = some (.ins C dx fs) ∧ fs.lookup m = none ∧ r [x] H1 Q) := by
  refine ⟨fun pins s σ H Q I h => PySem.W.methodCall_KW (pl := pl) (thn (he.run pins s σ H _ I h) fun u s1 ⟨x, H1, I1, rx, a, dx, fs, ex, ea, l, q⟩ => ?_) ht⟩
  subst ex
  cases rx
  exact getmeth_ok I1 ea c hm l (PySem.W.callWith_K0 (first := [.ref a]) I1.kIn hm.kp (hc pins s1 σ H1 [.ref a] [.ref a] Q I1 (.cons rfl .nil) q))
end
section
variable {CX : CXT} {P : Program} {w : World} {K : PySem.W.Frag} {mg : Str → Option Value} {base : Heap} {k : Nat} {f : Addr} {N ps : List Str} {sp : Sp}
/-- a def's promise by its body -/
theorem fnR_of {rp : Bool} {name qual : Str} {params : Arguments} {body : List Stmt} {scope : Scope} {dV kV doc pm cdv ct oc : Value} {an od : Option Addr} {osl : Array (Option Value)}
    (lk : K.lookup f = some ⟨oc, od, .func (PySem.W.fnOf name qual params body scope dV kV doc pm an cdv ct), osl⟩) (hcd : PySem.W.codeIn K cdv qual = true) (S : FnScope N ps scope) (len : ∀ vs H Q E, sp vs H Q E → vs.length = ps.length)
    (hbody : ∀ (A : Around) (outer : List Env) (s : Shared) (H : Hp) (vs : List V) (Q : VK) (E : XK), (rp = true → A.guards = some []) → Room k (A.deeper (envOfC qual scope s.heap.objs.size f cdv)) → sp vs H Q E →
      ∃ t, PSs (cxOf CX P w K mg base N qual scope f cdv A outer s H E) body t ∧ t { nx := fun _ H' => Q .non H', rt := Q } (start N vs) H) :
    FnR rp P w K mg base CX (k + 1) f (PySem.W.fnOf name qual params body scope dV kV doc pm an cdv ct) ps sp := by
  refine ⟨len, fun A outer s H args us vs Q E hg hr e0 hb rv hsp => ?_⟩
  obtain ⟨t, ht, hq⟩ := hbody A outer s H vs Q E hg (hr.deeper _) hsp
  have here : ∀ b o, base.get? b = some o → s.heap.get? b = some o := fun b o e => (e0.bs b o e).1
  have KX : K.In s.heap := e0.mod.kin.keeps here
  have kinds : ∀ y ∈ ps.zip us, scope.names.lookup y.1 = some .local ∨ (scope.names.lookup y.1 = some .cell ∧ ((cellsFrom (s.heap.objs.size + 1) scope.names []).lookup y.1).isSome = true) := fun ⟨n, v⟩ hy =>
    (S.par n (List.of_mem_zip hy).1).imp id fun q => ⟨q, PySem.W.cellsFrom_some _ _ _ (.inl q)⟩
  refine codeAny_call_function hr.depth (KX _ _ lk) rfl S.co S.gen rfl (PySem.W.codeRec_of KX hcd) (hb _ _ _ _ (wpAny_newFunctionEnv_cells S.kind kinds fun env he s1 x => ?_))
  subst he
  have I := inv_start (CX := CX) (E := E) S hr.hd e0 (len _ _ _ _ hsp) rv x
  refine ⟨(e0.mod.nolimit.keeps here).keeps x.toInCall.keep, codeAny_func (wpAny_mono (ht.run [] s1 (start N vs) H _ I hq) (fun fl s' hs => ?_) fun _ _ hs => hs)⟩
  cases fl with
  | ret u =>
    obtain ⟨v, σ', H', J, r', q⟩ := hs
    exact ⟨v, H', J.os, J.bare, J.base, J.hok, r', q⟩
  | next =>
    obtain ⟨σ', H', J, q⟩ := hs
    exact ⟨.non, H', J.os, J.bare, J.base, J.hok, rfl, q⟩
  | brk =>
    obtain ⟨_, _, _, q⟩ := hs
    exact False.elim q
  | cont =>
    obtain ⟨_, _, _, q⟩ := hs
    exact False.elim q
/-- a def of the text, by its body -/
theorem funR {rp : Bool} {x qual : Str} {st : Stmt} {fd : FuncData} (F : Fun K x qual st f fd) (S : FnScope N ps (defScope st)) (len : ∀ vs H Q E, sp vs H Q E → vs.length = ps.length)
    (hbody : ∀ (cdv : Value) (A : Around) (outer : List Env) (s : Shared) (H : Hp) (vs : List V) (Q : VK) (E : XK), (rp = true → A.guards = some []) → Room k (A.deeper (envOfC qual (defScope st) s.heap.objs.size f cdv)) → sp vs H Q E →
      ∃ t, PSs (cxOf CX0 P w K mg base N qual (defScope st) f cdv A outer s H E).nox (defBody st) t ∧ t { nx := fun _ H' => Q .non H', rt := Q } (start N vs) H) : FnR rp P w K mg base CX0 (k + 1) f fd ps sp := by
  obtain ⟨oc, od, kV, doc, pm, an, cdv, ct, osl, rfl, lk, hcd⟩ := F.ex
  exact fnR_of lk hcd S len fun A outer s H vs Q E hg hr hsp =>
    let ⟨t, h, q⟩ := hbody cdv A outer s H vs Q E hg hr hsp
    ⟨t, h.nox, q⟩
end
/-- the heap behind the top, the script alone being tracked (or being an object of the module) -/
theorem top_run {P : Program} {w : World} {K : PySem.W.Frag} {mg mb : Str → Option Value} {CX : CXT} {k : Nat} {fa a : Addr} {fd : FuncData} {x : Str} {sp : Sp} {s₁ : Shared} {vs : List Value} {H : Hp}
    (KX : K.In s₁.heap) (hns : s₁.heap.Ns mainGlobals mg) (hb : s₁.heap.Ns builtinsNs mb) (hbb : ∀ x : Str, x ≠ "__name__" → mb x = bootBuiltins x) (hlim : s₁.heap.NoLimit) (hg : s₁.gens = #[])
    (ha : s₁.heap.get? a = some { cls := .type "list", data := .seq vs.toArray }) (hr : Room k callerA) (F : ∀ base : Heap, K.In base → base.Ns mainGlobals mg → FnR true P w K mg base CX k fa fd [x] sp) (hbind : ∀ (s : Shared) (u : Value), BindsTo s fd ⟨[u], []⟩ [(x, u)])
    (hsp : sp [.ref a] H (fun v _ => v = .bl true) fun _ _ _ => False) (hCX : ∀ e s', CX [] H s₁ (fun _ _ _ => False) e s' → False) (hO : Only H) (hok : HOk P w H s₁.heap) (hA : ∀ b, H b ≠ none → b = a) (hK : H a ≠ none → K.lookup a = none) :
    codeAny (model P w) callerA (.call (.ref fa) ⟨[.ref a], []⟩) (fun r s' => r = .ok (.ret (.bool true)) ∧ OldK s₁.heap s'.heap ∧ s'.os = s₁.os ∧ AllBare s'.gens) s₁ := by
  have free : ∀ {b : Addr} {o : Obj}, s₁.heap.get? b = some o → (b = a → ∃ es ep, o.data = .dict es ep) → H b = none := fun {b o} e d => by
    refine Decidable.byContradiction fun z => ?_
    have e2 := hA b z
    obtain ⟨es, ep, d⟩ := d e2
    rw [e2, ha] at e
    cases e
    cases d
  have ns : ∀ {b : Addr} {m : Str → Option Value}, s₁.heap.Ns b m → (hidT s₁.heap H).Ns b m := fun {b m} ⟨o, es, ep, e, d, r⟩ => ⟨o, es, ep, hidT_get e (free e fun _ => ⟨es, ep, d⟩), d, r⟩
  have kin : K.In (hidT s₁.heap H) := fun b o e => hidT_get (KX b o e) (Decidable.byContradiction fun z => by
    have e2 := hA b z
    subst e2
    rw [hK z] at e
    cases e)
  have M : Mod K mg (hidT s₁.heap H) := ⟨kin, ns hns, ⟨mb, ns hb, hbb⟩, hlim.imp fun mc h => ⟨ns h.1, h.2⟩⟩
  have e0 : Env0 P w K mg (hidT s₁.heap H) callerA [] s₁ H := ⟨rfl, M, fun b o e => of_hidT e, Nat.le_of_eq (hidT_size _ _), trivial, (fun b hb => by cases hb), hok, .of_eq hg⟩
  refine codeAny_mono ((F _ kin (ns hns)).run callerA [] s₁ H ⟨[.ref a], []⟩ [.ref a] [.ref a] _ _ (fun _ => rfl) hr e0 (hbind s₁ (.ref a)) (.cons rfl .nil) hsp) fun res s' h => ?_
  cases res with
  | error e => exact (hCX e s' h).elim
  | ok fl =>
    cases fl with
    | next => exact False.elim h
    | brk => exact False.elim h
    | cont => exact False.elim h
    | ret u =>
      obtain ⟨v, H', os, bare, un, hok', r', q⟩ := h
      rw [show v = V.bl true from q] at r'
      obtain rfl : u = Value.bool true := r'
      refine ⟨rfl, OldK.of_keep fun b o e => ?_, os, bare⟩
      rcases hO b with z | ⟨ob, xs, z⟩
      · exact un.keep b o e z (fun z => by cases z) (by simp)
      · rw [(hok b _ z).1] at e
        cases e
        exact (hok' b _ (un.frzs b _ _ z)).1
theorem lawR {P : Program} {w : World} {K : PySem.W.Frag} {mg mb : Str → Option Value} {CX : CXT} {k : Nat} {fa a : Addr} {fd : FuncData} {x : Str} {sp : Sp} {s₁ : Shared} {vs : List Value} {ns : List Int}
    (KX : K.In s₁.heap) (hns : s₁.heap.Ns mainGlobals mg) (hb : s₁.heap.Ns builtinsNs mb) (hbb : ∀ x : Str, x ≠ "__name__" → mb x = bootBuiltins x) (hlim : s₁.heap.NoLimit) (hg : s₁.gens = #[])
    (ha : s₁.heap.get? a = some { cls := .type "list", data := .seq vs.toArray }) (hi : IntsAre vs ns) (hl : ns.length ≤ sizeLine) (hr : Room k callerA)
    (F : ∀ base : Heap, K.In base → base.Ns mainGlobals mg → FnR true P w K mg base CX k fa fd [x] sp) (hbind : ∀ (s : Shared) (u : Value), BindsTo s fd ⟨[u], []⟩ [(x, u)])
    (hsp : ∀ H : Hp, Only H → SqL K H a (ns.map V.int) → sp [.ref a] H (fun v _ => v = .bl true) fun _ _ _ => False)
    (hCX : ∀ H e s', CX [] H s₁ (fun _ _ _ => False) e s' → False) :
    codeAny (model P w) callerA (.call (.ref fa) ⟨[.ref a], []⟩) (fun r s' => r = .ok (.ret (.bool true)) ∧ OldK s₁.heap s'.heap ∧ s'.os = s₁.os ∧ AllBare s'.gens) s₁ := by
  have rv := vals_ints hi
  have run := fun (H : Hp) (hO : Only H) (hS : SqL K H a (ns.map V.int)) => top_run (H := H) KX hns hb hbb hlim hg ha hr F hbind (hsp H hO hS) (hCX H) hO
  cases hk : K.lookup a with
  | some o =>
    have e := KX a o hk
    rw [ha] at e
    cases e
    exact run (fun _ => none) (fun _ => .inl rfl) (.inr ⟨_, vs.toArray, _, hk, rfl, rfl, rfl, by rw [List.size_toArray, hi.length]; exact hl, by simpa using rv⟩) (fun b u z => by cases (show (none : Option HO) = some u from z)) (fun b z => absurd rfl z) fun z => absurd rfl z
  | none =>
    refine run (fun b => if b = a then some (.frz { cls := .type "list", data := .seq vs.toArray } (.lst (ns.map V.int))) else none) (fun b => ?_) (.inl (.inr ⟨{ cls := .type "list", data := .seq vs.toArray }, if_pos rfl⟩)) (fun b u z => ?_) (fun b z => ?_) fun _ => hk
    · by_cases e : b = a
      · exact .inr ⟨_, _, if_pos e⟩
      · exact .inl (if_neg e)
    · by_cases e : b = a
      · cases (if_pos e).symm.trans z
        subst e
        exact ⟨ha, by rw [List.length_map]; exact hl, vs, _, rv, ha⟩
      · cases (if_neg e).symm.trans z
    · exact Decidable.byContradiction fun e => z (if_neg e)
end Ev

/-! Ev, part E: what is walked: lists and tuples alike, ranges, enumerate, zip. -/
namespace PySem
open AutoSeq1 (wpAny_loadPart')
theorem ev_meets_enum {v : Value} {ob : Obj} {HH : Heap → Prop} (B : Begins v ob HH) :
    Meets (Builtin.«enumerate.__new__» ⟨[.type "enumerate", v], []⟩) (fun _ R s => HH s.heap ∧
      R (.ok (.ret (.ref (s.heap.push ob).objs.size))) { s with heap := (s.heap.push ob).push { cls := .type "enumerate", data := .fields #[.none, .bool false, .ref s.heap.objs.size, rawInt 0, .none, .none] } }) :=
  .of_wp fun prog w A R s hh => by
    obtain ⟨hp, gg, dd, tk, os⟩ := s
    obtain ⟨hb, hr⟩ := hh
    have hsub := sub_enumerate
    have go : ∀ {A' : Around} {E : Value → Shared → Prop} {Q : Value → Shared → Prop}, Q (.ref hp.objs.size) ⟨hp.push ob, gg, dd, tk, os⟩ → wpAny (model prog w) A' (pyIter v) Q E ⟨hp, gg, dd, tk, os⟩ :=
      fun q => B.iter prog w _ _ ⟨hp, gg, dd, tk, os⟩ _ hb q
    wp_walk using go
    refine wpAny_stack_any fun st => wpAny_pure ?_
    split
    · rename_i cc _ _ _ _ _
      cases (cc == Value.type "enumerate")
      · wp_walk using go
        exact ⟨_, rfl, hr⟩
      · wp_walk using go
        exact ⟨_, rfl, hr⟩
    · wp_walk using go
      exact ⟨_, rfl, hr⟩
theorem ev_call_enum {prog : Program} {w : World} {A : Around} {E : Value → Shared → Prop} {s : Shared} {v : Value} {ob : Obj} {HH : Heap → Prop} {Q : Value → Shared → Prop} (B : Begins v ob HH) (hb : HH s.heap)
    (k : ∀ h', IsEnum h' (s.heap.objs.size + 1) s.heap.objs.size 0 .none → h'.get? s.heap.objs.size = some ob → (∀ b o, s.heap.get? b = some o → h'.get? b = some o) → Q (.ref (s.heap.objs.size + 1)) { s with heap := h' }) :
    wpAny (model prog w) A (call (.type "enumerate") [v]) Q E s := by
  refine callType_new F.called_enumerate (by decide) (F.typeCall_enumerate_1 _) (F.newCall_enumerate_1 _) (fun obj => F.args_object_init_2 obj _) F.entry_enumerate_new (ev_meets_enum B) ⟨hb, ?_⟩
  have hz : (s.heap.push ob).objs.size = s.heap.objs.size + 1 := Heap.size_push ..
  show _ ∧ _
  rw [hz]
  have he : IsEnum ((s.heap.push ob).push { cls := .type "enumerate", data := .fields #[.none, .bool false, .ref s.heap.objs.size, rawInt 0, .none, .none] }) (s.heap.objs.size + 1) s.heap.objs.size 0 .none := by
    have q := Heap.get?_push_size (s.heap.push ob) (o := { cls := .type "enumerate", data := .fields #[.none, .bool false, .ref s.heap.objs.size, rawInt 0, .none, .none] }) rfl
    rw [hz] at q
    exact q
  exact ⟨⟨_, he, rfl⟩, k _ he (Heap.get?_push_of_some _ (Heap.get?_push_size _ B.free)) fun b o x => Heap.get?_push_of_some _ (Heap.get?_push_of_some _ x)⟩
end PySem
namespace Ev
open PySem L2 PyProof.Rows
/-- a tuple's items with their numbers, in new pairs -/
def ItE (K : PySem.W.Frag) (a : Addr) : It :=
  ⟨fun i H => ∃ (xs : List V) (x : V), SqT K H a xs ∧ xs[i]? = some x,
   fun i H v H' => ∃ T x, v = .ref T ∧ H T = none ∧ H' = upd H T (.tup [.int (i : Nat), x]) ∧ ∀ xs, SqT K H a xs → xs[i]? = some x,
   fun i H => ∃ xs : List V, SqT K H a xs ∧ xs.length ≤ i⟩
theorem turnE {P : Program} {w : World} {K : PySem.W.Frag} {elts : List Expr} {kk : Nat} {tpos : Pos} (a e it : Addr) :
    Turn P w K (.Tuple elts kk tpos) (ItE K a) [e, it] e (fun i h => (∃ old, IsEnum h e it ((i : Nat) : Int) old) ∧ h.IsTupleIter it a i ∧ e ≠ it) where
  mem := by simp
  obj := fun i h st b hb => by
    obtain ⟨⟨old, he⟩, ⟨o, ho, hc, hd⟩, _⟩ := st
    rcases (show b = e ∨ b = it by simpa using hb) with z | z
    · subst z; exact ⟨_, he, fun v q => nomatch q⟩
    · subst z; exact ⟨o, ho, fun v q => by rw [hd] at q; cases q⟩
  keep := fun i h h' st k => by
    obtain ⟨⟨old, he⟩, hi, hne⟩ := st
    exact ⟨⟨old, k e (by simp) _ he⟩, hi.at fun o q => k it (by simp) o q, hne⟩
  item := by
    intro X hP hw hK hc i pins s σ H E I hf st hg
    subst hP hw hK
    obtain ⟨⟨old, he⟩, hit, hne⟩ := st
    obtain ⟨xs, x, hq, hx⟩ := hg
    obtain ⟨its, rv, p, hz⟩ := I.tuple hq
    obtain ⟨u, hu, ru⟩ := rv.get hx
    have hel : e < s.heap.objs.size := Heap.lt_size he
    have hil : it < s.heap.objs.size := by
      obtain ⟨_, q, _⟩ := hit
      exact Heap.lt_size q
    have nai : a ≠ it := fun z => by
      obtain ⟨o, q1, q2, _⟩ := p
      obtain ⟨o', q3, q4, _⟩ := hit
      rw [z, q3] at q1
      cases q1
      rw [q4] at q2
      injection q2 with q5
      exact absurd q5 (by decide)
    have nae : a ≠ e := fun z => by
      obtain ⟨o, q1, q2, _⟩ := p
      have he' : s.heap.get? e = _ := he
      rw [z, he'] at q1
      cases q1
      have q3 : Value.type "enumerate" = Value.type "tuple" := q2
      injection q3 with q5
      exact absurd q5 (by decide)
    refine wpAny_pyNext_enum_itemD (Draws.tuple (show X.A.in1.handled = none from I.ok.hd hc) it a nai its.toArray) he ⟨hit, p⟩ (by rw [List.size_toArray]; exact (List.getElem?_eq_some_iff.mp hu).1) hne (by simp [hne, nae.symm]) fun y h' tk hy ho hst hT hsz hk => ?_
    have ey : y = u := by
      have hy' : its.toArray[i]? = some y := hy
      rw [List.getElem?_toArray, hu] at hy'
      exact (Option.some.inj hy').symm
    subst ey
    refine ⟨_, rfl, wpAny_letOwnedTupleGo_enum (s := { s with heap := h', toks := tk + 1 }) ho fun h2 he2 sb => ?_⟩
    have hT2 : h2.get? s.heap.objs.size = some { cls := .type "tuple", data := .seq #[.int i tk, y] } := (sb.2 _ (Nat.ne_of_gt hel)).trans hT
    have new : ObjOk X.prog X.w (upd H s.heap.objs.size (.tup [.int (i : Nat), x])) h2 s.heap.objs.size (.tup [.int (i : Nat), x]) :=
      ⟨by show 2 ≤ sizeLine; decide, [.int i tk, y], .cons ⟨_, rfl⟩ (.cons ru .nil), ⟨_, hT2, rfl, _, rfl⟩⟩
    have I1 : Inv X pins σ (upd H s.heap.objs.size (.tup [.int (i : Nat), x])) { s with heap := h2, toks := tk + 1 } :=
      I.turnedNew (ch := [e, it]) (fun b ob hb q => (sb.2 b fun z => hb (by simp [z])).trans (hk b ob (fun z => hb (by simp [z])) (fun z => hb (by simp [z])) q)) hf (Nat.le_refl _) new
    refine ⟨.ref s.heap.objs.size, _, I1, rfl, ⟨_, x, rfl, I.hok.fresh (Nat.le_refl _), rfl, fun ys hy => by rw [I.tuple_inj hy hq]; exact hx⟩, ⟨⟨y, ?_⟩, hst.1.at fun o q => (sb.2 it (Ne.symm hne)).trans q, hne⟩, fun b hb => ?_⟩
    · have e1 : ((i + 1 : Nat) : Int) = (i : Int) + 1 := by omega
      rw [e1]
      exact he2
    · have hb' : b < s.heap.objs.size := by
        rcases (show b = e ∨ b = it by simpa using hb) with z | z
        · subst z; exact hel
        · subst z; exact hil
      rw [upd_ne (Nat.ne_of_lt hb')]
      exact (hf b hb).1
  done := by
    intro X hP hw hK hc i pins s σ H E I hf st hg
    subst hP hw hK
    obtain ⟨⟨old, he⟩, hit, hne⟩ := st
    obtain ⟨xs, hq, hx⟩ := hg
    obtain ⟨its, rv, p, hz⟩ := I.tuple hq
    obtain ⟨f0, f1, f2, f3, f4, f5⟩ := hf it (by simp)
    have hl := rv.length
    have nai : a ≠ it := fun z => by
      obtain ⟨o, q1, q2, _⟩ := p
      obtain ⟨o', q3, q4, _⟩ := hit
      rw [z, q3] at q1
      cases q1
      rw [q4] at q2
      injection q2 with q5
      exact absurd q5 (by decide)
    have stop : ∀ {Q : Value → Shared → Prop} {E' : Value → Shared → Prop}, (∀ h' x, Heap.ExtBut it s.heap h' → (∃ o, h'.get? x = some o ∧ o.cls = .type "StopIteration") → E' (.ref x) { s with heap := h' }) → wpAny (model X.prog X.w) X.A.in1 (Builtin.SmallTypes.nextOf (.ref it)) Q E' s := fun {Q E'} hE =>
      wpAny_nextOf_tuple_end (show X.A.in1.handled = none from I.ok.hd hc) hit (show s.heap.IsTuple a its.toArray from p) (by simp; omega) hE
    have hT : s.TypeIs (.ref e) "enumerate" := ⟨_, he, rfl⟩
    unfold pyNext
    refine wpAny_bind (wpAny_attempt (wpAny_callSpecial?_slot (name := Str.ofString "__next__") hT F.slot_enumerate_next (wpAny_call_entry F.slot_enumerate_next hT F.entry_enumerate_next ?_ (F.args_enumerate_next_1 _))))
    show wpAny _ _ (field (.ref e) 2 >>= _) _ _ _
    refine wpAny_bind (wpAny_field he rfl (x := .ref it) rfl ?_)
    refine wpAny_bind (stop fun h' x hx' ho' => ?_)
    obtain ⟨o, ho, hcl⟩ := ho'
    refine wpAny_bind (wpAny_isInstance (T := "StopIteration") (b := true) ⟨o, ho, hcl⟩ isSubtype_stop (wpAny_pure ?_))
    exact ⟨rfl, I.turned (t' := s.toks) (fun b o hb q => hx' b o hb q) f0 f1 f3 f4 f5⟩
  self := fun A i s Q E st h => by
    obtain ⟨⟨_, he⟩, _⟩ := st
    exact wpAny_pyIter_enum he h
/-! ### what is walked, as a list of values -/
abbrev WalkD (c : Cn) (Z : Hp) (J : It) (ds : List D) : Prop := Walk J ds.length (fun H => Same Z H) (fun i H x H' => ∃ d, ds[i]? = some d ∧ NewR c Z H (.d d) x H')
section
variable {c : Cn} {Z : Hp} {a b : Addr} {K : PySem.W.Frag}
theorem wd_list {ds : List D} {vs : List V} (h : Z a = some (.lst vs)) (r : RepL c Z ds vs) : WalkD c Z (Itl K a) ds := by
  rw [WalkD, ← RepL.len ds vs r]
  exact walk_list.mono (fun H q => SqL.of (q _ _ h)) fun i H x H' hi q y => by
    obtain ⟨rfl, e⟩ := y
    obtain ⟨d, e1, q1⟩ := RepL.getV ds vs i x r e
    exact ⟨d, e1, newd q1⟩
theorem wd_tup (hK : K = c.K) {ds : List D} {vs : List V} (h : TupAt c.K Z a vs) (r : RepL c Z ds vs) : WalkD c Z (Itt K a) ds := by
  rw [WalkD, ← RepL.len ds vs r]
  exact walk_tup.mono (fun H q => by rw [hK]; exact (sqT_mono q h).sq) fun i H x H' hi q y => by
    obtain ⟨rfl, e⟩ := y
    obtain ⟨d, e1, q1⟩ := RepL.getV ds vs i x r e
    exact ⟨d, e1, newd q1⟩
theorem wd_scr (hK : K = c.K) {ns : List Int} (h : SqL c.K Z a (ns.map V.int)) : WalkD c Z (Itl K a) (ns.map D.int) := by
  have e0 : (ns.map D.int).length = (ns.map V.int).length := by simp
  rw [WalkD, e0]
  exact walk_list.mono (fun H q => by rw [hK]; exact Same.seq q h) fun i H x H' hi q y => by
    obtain ⟨rfl, e⟩ := y
    obtain ⟨d, e1, q1⟩ := RepL.getV _ _ i x (RepL.ints (c := c) (Z := Z) ns) e
    exact ⟨d, e1, newd q1⟩
theorem wd_rng (lo hi : Int) : WalkD c Z (Itr lo (hi - lo).toNat) (rngD lo hi) := by
  have e0 : (rngD lo hi).length = (hi - lo).toNat := by simp [rngD]
  rw [WalkD, e0]
  exact walk_range.mono (fun H q => trivial) fun i H x H' hl q y => by
    obtain ⟨rfl, rfl⟩ := y
    exact ⟨.int (lo + (i : Int)), by simp [rngD, hl], newd rfl⟩
theorem enumD_len : ∀ (k : Nat) (ds : List D), (enumD k ds).length = ds.length
  | _, [] => rfl
  | k, d :: ds => by rw [enumD, List.length_cons, enumD_len, List.length_cons]
theorem enumD_get : ∀ (k : Nat) (ds : List D) (i : Nat) (d : D), ds[i]? = some d → (enumD k ds)[i]? = some (.tup [.int ((k + i : Nat) : Int), d])
  | _, [], i, d, h => by simp at h
  | k, e :: ds, 0, d, h => by
    have : e = d := by simpa using h
    subst this
    simp [enumD]
  | k, e :: ds, i + 1, d, h => by
    have := enumD_get (k + 1) ds i d (by simpa using h)
    rw [enumD, List.getElem?_cons_succ, this]
    have : k + 1 + i = k + (i + 1) := by omega
    rw [this]
theorem pair_new {d e : D} {x y : V} {H : Hp} {T : Addr} (hd : Rep c Z d x) (he : Rep c Z e y) (n : H T = none) : NewR c Z H (.d (.tup [d, e])) (.ref T) (upd H T (.tup [x, y])) :=
  .inr (.inl ⟨T, [x, y], [d, e], rfl, rfl, n, rfl, x, [y], rfl, hd, y, [], rfl, he, rfl⟩)
theorem wd_enumL {ds : List D} {vs : List V} (h : Z a = some (.lst vs)) (r : RepL c Z ds vs) : WalkD c Z (Ite K a) (enumD 0 ds) := by
  rw [WalkD, enumD_len, ← RepL.len ds vs r]
  exact walk_enum.mono (fun H q => SqL.of (q _ _ h)) fun i H v H' hi q y => by
    obtain ⟨T, x, z, rfl, nT, rfl, e1, e2⟩ := y
    cases e1
    obtain ⟨d, e3, q1⟩ := RepL.getV ds vs i z r e2
    exact ⟨_, enumD_get 0 ds i d e3, pair_new (by simp [Rep]) q1 nT⟩
theorem wd_enumT (hK : K = c.K) {ds : List D} {vs : List V} (h : TupAt c.K Z a vs) (r : RepL c Z ds vs) : WalkD c Z (ItE K a) (enumD 0 ds) := by
  rw [WalkD, enumD_len, ← RepL.len ds vs r]
  refine ⟨fun i H hi q => ⟨vs, vs[i], by rw [hK]; exact (sqT_mono q h).sq, by simp⟩, fun H q => ⟨vs, by rw [hK]; exact (sqT_mono q h).sq, Nat.le_refl _⟩, fun i H v H' hi q y => ?_⟩
  obtain ⟨T, z, rfl, nT, rfl, e2⟩ := y
  obtain ⟨d, e3, q1⟩ := RepL.getV ds vs i z r (e2 vs (by rw [hK]; exact (sqT_mono q h).sq))
  exact ⟨_, enumD_get 0 ds i d e3, pair_new (by simp [Rep]) q1 nT⟩
theorem zipD_len : ∀ (xs ys : List D), (zipD xs ys).length = min xs.length ys.length
  | [], ys => by simp [zipD]
  | x :: xs, [] => by simp [zipD]
  | x :: xs, y :: ys => by rw [zipD, List.length_cons, zipD_len, List.length_cons, List.length_cons]; omega
theorem zipD_get : ∀ (xs ys : List D) (i : Nat) (x y : D), xs[i]? = some x → ys[i]? = some y → (zipD xs ys)[i]? = some (.tup [x, y])
  | [], ys, i, x, y, h, _ => by simp at h
  | x' :: xs, [], i, x, y, _, h => by simp at h
  | x' :: xs, y' :: ys, 0, x, y, h, h' => by
    have e1 : x' = x := by simpa using h
    have e2 : y' = y := by simpa using h'
    subst e1 e2
    simp [zipD]
  | x' :: xs, y' :: ys, i + 1, x, y, h, h' => by
    rw [zipD, List.getElem?_cons_succ]
    exact zipD_get xs ys i x y (by simpa using h) (by simpa using h')
theorem wd_zipL {xs ys : List D} {vs ws : List V} (h : Z a = some (.lst vs)) (h' : Z b = some (.lst ws)) (r : RepL c Z xs vs) (r' : RepL c Z ys ws) : WalkD c Z (Itz K a b) (zipD xs ys) := by
  rw [WalkD, zipD_len, ← RepL.len xs vs r, ← RepL.len ys ws r']
  exact (walk_zip rfl).mono (fun H q => ⟨SqL.of (q _ _ h), SqL.of (q _ _ h')⟩) fun i H v H' hi q y => by
    obtain ⟨T, x, z, rfl, nT, rfl, e1, e2⟩ := y
    obtain ⟨d, e3, q1⟩ := RepL.getV xs vs i x r e1
    obtain ⟨d', e4, q2⟩ := RepL.getV ys ws i z r' e2
    exact ⟨_, zipD_get xs ys i d d' e3 e4, pair_new q1 q2 nT⟩
theorem wd_zipT (hK : K = c.K) {xs ys : List D} {vs ws : List V} (h : TupAt c.K Z a vs) (h' : TupAt c.K Z b ws) (r : RepL c Z xs vs) (r' : RepL c Z ys ws) : WalkD c Z (RZ.ItzT K a b) (zipD xs ys) := by
  rw [WalkD, zipD_len, ← RepL.len xs vs r, ← RepL.len ys ws r']
  have t1 : ∀ {H : Hp}, Same Z H → SqT K H a vs := fun q => by rw [hK]; exact (sqT_mono q h).sq
  have t2 : ∀ {H : Hp}, Same Z H → SqT K H b ws := fun q => by rw [hK]; exact (sqT_mono q h').sq
  refine ⟨fun i H hi q => ?_, fun H q => ⟨vs, ws, t1 q, t2 q, by omega⟩, fun i H v H' hi q y => ?_⟩
  · have h1 : i < vs.length := by omega
    have h2 : i < ws.length := by omega
    exact ⟨vs, ws, vs[i], ws[i], t1 q, t2 q, by simp, by simp⟩
  · obtain ⟨T, x, z, rfl, nT, rfl, e1, e2⟩ := y
    obtain ⟨d, e3, q1⟩ := RepL.getV xs vs i x r (e1 vs (t1 q))
    obtain ⟨d', e4, q2⟩ := RepL.getV ys ws i z r' (e2 ws (t2 q))
    exact ⟨_, zipD_get xs ys i d d' e3 e4, pair_new q1 q2 nT⟩
end
section
variable {X : Cx} {tg e : Expr} {te : TE}
/-- a list or a tuple -/
def iSeq (K : PySem.W.Frag) (te : TE) : TI := fun σ H R => te σ H fun x H1 => ∃ a, x = .ref a ∧ ((∃ vs, SqL K H1 a vs ∧ R (Itl K a) H1) ∨ ∃ vs, SqT K H1 a vs ∧ R (Itt K a) H1)
theorem pi_seq (he : PE X e te) : PI X tg e (iSeq X.K te) := by
  refine ⟨fun pins s σ H R I h => thn (he.run pins s σ H _ I h) fun v s1 hv => ?_⟩
  obtain ⟨x, H1, I1, r1, a, rfl, q⟩ := hv
  cases r1
  have pin : ∀ b, b ∈ [s1.heap.objs.size] → FpOk X pins H1 b := fun b hb => by
    cases List.mem_singleton.mp hb
    exact I1.fpOk (Nat.le_refl _) (I1.hok.fresh (Nat.le_refl _))
  rcases q with ⟨vs, hq, q⟩ | ⟨vs, hq, q⟩
  · obtain ⟨its, rv, p, _⟩ := I1.list hq
    exact wpAny_pyIter_list p.isList ⟨_, _, _, _, H1, rfl, I1.kept (t' := s1.toks) fun b o z => Heap.get?_push_of_some _ z, turn_list a s1.heap.objs.size, ⟨_, Heap.get?_push_size _ rfl, rfl, rfl⟩, pin, q⟩
  · obtain ⟨its, rv, p, _⟩ := I1.tuple hq
    exact wpAny_pyIter_tuple (show s1.heap.IsTuple a its.toArray from p) ⟨_, _, _, _, H1, rfl, I1.kept (t' := s1.toks) fun b o z => Heap.get?_push_of_some _ z, turn_tuple a s1.heap.objs.size, ⟨_, Heap.get?_push_size _ rfl, rfl, rfl⟩, pin, q⟩
/-- enumerate of a list or a tuple -/
def iEnumA (K : PySem.W.Frag) (ta : TA) : TI := fun σ H R => ta σ H fun vs H1 => ∃ a, vs = [.ref a] ∧ ((∃ xs, SqL K H1 a xs ∧ R (Ite K a) H1) ∨ ∃ xs, SqT K H1 a xs ∧ R (ItE K a) H1)
theorem pi_enumA {ta : TA} {p pos tpos : Pos} {elts : List Expr} {kk : Nat} (hg : Gl X "enumerate") (hm : X.mg "enumerate" = none) (ha : PA X [e] ta) (hs : starEach [e] X.env = [(false, eval e X.env)]) :
    PI X (.Tuple elts kk tpos) (.Call (.Name "enumerate" p) [e] [] pos) (iEnumA X.K ta) := by
  refine ⟨fun pins s σ H R I h => Call_ (ld_blt I hg hm boot_enumerate (PyProof.Rows.callWith_type1 (thn (ha.run pos pins s σ H _ I h) fun us s1 hv => ?_) hs rfl))⟩
  obtain ⟨vs, H1, I1, r1, a, rfl, q⟩ := hv
  cases r1 with
  | cons r rr =>
    cases rr
    cases r
    have pin : ∀ b, b ∈ [s1.heap.objs.size + 1, s1.heap.objs.size] → FpOk X pins H1 b := fun b hb => by
      have hle : s1.heap.objs.size ≤ b := by
        rcases (show b = s1.heap.objs.size + 1 ∨ b = s1.heap.objs.size by simpa using hb) with z | z
        · rw [z]; exact Nat.le_succ _
        · rw [z]; exact Nat.le_refl _
      exact I1.fpOk hle (I1.hok.fresh hle)
    rcases q with ⟨xs, hq, q⟩ | ⟨xs, hq, q⟩
    · obtain ⟨its, rv, p', _⟩ := I1.list hq
      refine call_enumerate_list p'.isList fun h' he hit _ hk => wpAny_pyIter_enum he ?_
      exact ⟨_, _, _, _, H1, rfl, I1.kept (t' := s1.toks) hk, turn_enum a (s1.heap.objs.size + 1) s1.heap.objs.size, ⟨⟨.none, he⟩, hit, Nat.succ_ne_self _⟩, pin, q⟩
    · obtain ⟨its, rv, p', _⟩ := I1.tuple hq
      refine ev_call_enum (begins_tuple a its.toArray) (show s1.heap.IsTuple a its.toArray from p') fun h' he hit hk => wpAny_pyIter_enum he ?_
      exact ⟨_, _, _, _, H1, rfl, I1.kept (t' := s1.toks) hk, turnE a (s1.heap.objs.size + 1) s1.heap.objs.size, ⟨⟨.none, he⟩, ⟨_, hit, rfl, rfl⟩, Nat.succ_ne_self _⟩, pin, q⟩
end
end Ev

/-! Ev, part F: each form of expression keeps what its evaluation says. -/
namespace Ev
open PySem L2 PyProof.Rows

/-! ### what an evaluation promises, as a wish -/
section
variable (c : Cn) (G : GS) (cl : Caller)
def tE (e : CE) : TE := fun σ H Q => ∃ p F Z τ A r τ', Sta c F Z H σ τ A ∧ evE G cl p e τ = some (r, τ') ∧ ∀ x H' Z' A' B, Post c p F Z H σ τ A τ' H' Z' A' → Res c F Z' H' σ τ' A' r x B → Q x H'
def tT (t : CT) : TT := fun σ H Q => ∃ p F Z τ A b τ', Sta c F Z H σ τ A ∧ evT G cl p t τ = some (b, τ') ∧ ∀ H' Z' A', Post c p F Z H σ τ A τ' H' Z' A' → Q b H'
def tX (es : CEs) : TA := fun σ H Q => ∃ p F Z τ A ds τ', Sta c F Z H σ τ A ∧ evX G cl p es τ = some (ds, τ') ∧ ∀ xs H' Z' A', Post c p F Z H σ τ A τ' H' Z' A' → RepL c Z' ds xs → Q xs H'
def tL (es : CEs) : TA := fun σ H Q => ∃ p F Z τ A rs τ', Sta c F Z H σ τ A ∧ evL G cl p es τ = some (rs, τ') ∧ ∀ xs H' Z' A', Post c p F Z H σ τ A τ' H' Z' A' → OpsW c Z' H' σ rs xs → Q xs H'
def tI (it : CI) : TI := fun σ H R => ∃ p F Z τ A ds τ', Sta c F Z H σ τ A ∧ evI G cl p it τ = some (ds, τ') ∧ ∀ J H' Z' A', Post c p F Z H σ τ A τ' H' Z' A' → WalkD c Z' J ds → R J H'
end
theorem pe_imp {X : Cx} {e : Expr} {t t' : TE} (h : PE X e t) (hi : ∀ σ H Q, t' σ H Q → t σ H Q) : PE X e t' := ⟨fun pins s σ H Q I q => h.run pins s σ H Q I (hi σ H Q q)⟩
theorem pt_imp {X : Cx} {e : Expr} {t t' : TT} (h : PT X e t) (hi : ∀ σ H Q, t' σ H Q → t σ H Q) : PT X e t' := ⟨fun pins s σ H Q I q => h.run pins s σ H Q I (hi σ H Q q)⟩
theorem pa_imp {X : Cx} {es : List Expr} {t t' : TA} (h : PA X es t) (hi : ∀ σ H Q, t' σ H Q → t σ H Q) : PA X es t' := ⟨fun pos pins s σ H Q I q => h.run pos pins s σ H Q I (hi σ H Q q)⟩
theorem pi_imp {X : Cx} {tg e : Expr} {t t' : TI} (h : PI X tg e t) (hi : ∀ σ H R, t' σ H R → t σ H R) : PI X tg e t' := ⟨fun pins s σ H Q I q => h.run pins s σ H Q I (hi σ H Q q)⟩
theorem setl_isF (r : R) : (setl r).isF = r.isF := by cases r <;> rfl
section
variable {c : Cn} {G : GS} {cl : Caller} {F Z H : Hp} {σ : L2.St} {τ τ1 τ2 τ' : T} {A : Nat → List Addr} {p : Bool}
/-- one operand -/
theorem one_op (s : Sta c F Z H σ τ A) {a : CE} {ra : R} (e1 : evE G cl p a τ = some (ra, τ1)) {R : V → Hp → Prop}
    (k : ∀ x H1 Z1 A1, Post c p F Z H σ τ A τ1 H1 Z1 A1 → OpW c Z1 H1 σ (setl ra) x → R x H1) : tE c G cl a σ H R := by
  refine ⟨p, F, Z, τ, A, ra, τ1, s, e1, fun x H1 Z1 A1 B po re => ?_⟩
  obtain ⟨Z2, po2, ow⟩ := setl_ok po.st re (p := p)
  exact k x H1 Z2 A1 (po.trans po2 id) ow
/-- two operands -/
theorem two_op (s : Sta c F Z H σ τ A) {a b : CE} {ra rb : R} (e1 : evE G cl p a τ = some (ra, τ1)) (e2 : evE G cl (p || ra.isF) b τ1 = some (rb, τ2)) {R : V → V → Hp → Prop}
    (k : ∀ x y H2 Z2 A2, Post c p F Z H σ τ A τ2 H2 Z2 A2 → OpW c Z2 H2 σ (setl ra) x → OpW c Z2 H2 σ (setl rb) y → R x y H2) : tE c G cl a σ H fun x H1 => tE c G cl b σ H1 fun y H2 => R x y H2 := by
  refine one_op s e1 fun x H1 Z1 A1 po ow => ?_
  refine one_op po.st e2 fun y H2 Z2 A2 po2 ow2 => ?_
  exact k x y H2 Z2 A2 (po.trans po2 fun z => by rw [z]; rfl) (ow.keep po2 fun z => by rw [setl_isF] at z; rw [z]; simp) ow2
theorem fin_new {r : R} {z : V} {H1 Z1 H' : Hp} {A1 : Nat → List Addr} {Q : VK} (po : Post c p F Z H σ τ A τ1 H1 Z1 A1) (n : NewR c Z1 H1 r z H')
    (k : ∀ x H' Z' A' B, Post c p F Z H σ τ A τ1 H' Z' A' → Res c F Z' H' σ τ1 A' r x B → Q x H') : Q z H' := by
  obtain ⟨Z2, B, p2, re⟩ := NewR.post po.st n (p := p)
  exact k z H' Z2 A1 B (po.trans p2 id) re
section
variable {X : Cx} {ea eb ec : Expr} {a b d : CE} {pos : Pos}
theorem s_k {e : Expr} {dd : D} {v : V} (h : PE X e (tC v)) (hr : ∀ Z, Rep c Z dd v) : PE X e (tE c G cl (.k dd)) := pe_imp h fun σ H Q q => by
  obtain ⟨p, F, Z, τ, A, r, τ', s, e, k⟩ := q
  unfold evE at e
  cases e
  exact k v H Z A [] (Post.refl s) ⟨⟨rfl, hr Z⟩, List.nodup_nil, fun _ _ _ h => (by cases h), fun _ h => by cases h⟩
theorem s_g {e : Expr} {i : Nat} {v : V} (h : PE X e (tC v)) (hr : ∀ dd, G.consts[i]? = some dd → ∀ Z, Rep c Z dd v) : PE X e (tE c G cl (.g i)) := pe_imp h fun σ H Q q => by
  obtain ⟨p, F, Z, τ, A, r, τ', s, e, k⟩ := q
  unfold evE at e
  split at e
  · rename_i dd ed
    cases e
    exact k v H Z A [] (Post.refl s) ⟨⟨rfl, hr dd ed Z⟩, List.nodup_nil, fun _ _ _ h => (by cases h), fun _ h => by cases h⟩
  · cases e
theorem s_s {e : Expr} {i : Nat} (h : PE X e (tVar i)) : PE X e (tE c G cl (.s i)) := pe_imp h fun σ H Q q => by
  obtain ⟨p, F, Z, τ, A, r, τ', s, e, k⟩ := q
  unfold evE at e
  split at e
  · rename_i dd ed
    cases e
    obtain ⟨v, e1, o⟩ := s.own i _ (slotM_some ed)
    exact ⟨v, e1, k v H Z A [] (Post.refl s) ⟨⟨rfl, o.2⟩, List.nodup_nil, fun _ _ _ h => (by cases h), fun _ h => by cases h⟩⟩
  · rename_i m nv ed
    cases e
    obtain ⟨v, e1, o⟩ := s.own i _ (slotM_some ed)
    refine ⟨v, e1, k v H Z A [] (Post.refl s) ⟨⟨rfl, e1, m, ed, ?_⟩, List.nodup_nil, fun _ _ _ h => (by cases h), fun _ h => by cases h⟩⟩
    cases m with
    | v d => exact absurd rfl (nv d)
    | _ => rfl
  · cases e
theorem s_bin (hK : X.K = c.K) {op : Operator} (ha : PE X ea (tE c G cl a)) (hb : PE X eb (tE c G cl b)) : PE X (.BinOp ea op eb pos) (tE c G cl (.bin op a b)) :=
  pe_imp (pe_op (bin_ok hK op) ha hb) fun σ H Q q => by
    obtain ⟨p, F, Z, τ, A, r, τ', s, e, k⟩ := q
    unfold evE at e
    split at e
    · cases e
    · rename_i ra τ1 e1
      split at e
      · cases e
      · rename_i rb τ2 e2
        split at e
        · rename_i x y l1 l2
          cases e3 : binD op x y with
          | none => rw [e3] at e; cases e
          | some r0 =>
            rw [e3] at e
            cases e
            exact two_op s e1 e2 fun vx vy H2 Z2 A2 po w1 w2 => ⟨Z2, x, y, r, po.st.zh, look_ok po.st w1 l1, look_ok po.st w2 l2, e3, fun z H' n => fin_new po n k⟩
        · cases e
theorem s_un {op : UnaryOp} (ha : PE X ea (tE c G cl a)) : PE X (.UnaryOp op ea pos) (tE c G cl (.un op a)) :=
  pe_imp (pe_un (un_ok (c := c) op) ha) fun σ H Q q => by
    obtain ⟨p, F, Z, τ, A, r, τ', s, e, k⟩ := q
    unfold evE at e
    split at e
    · cases e
    · rename_i ra τ1 e1
      split at e
      · rename_i x l1
        cases e3 : unD op x with
        | none => rw [e3] at e; cases e
        | some r0 =>
          rw [e3] at e
          cases e
          exact one_op s e1 fun vx H2 Z2 A2 po w1 => ⟨Z2, x, r0, po.st.zh, look_ok po.st w1 l1, e3, fun z n => fin_new po (newd n) k⟩
      · cases e
theorem s_cmp (hK : X.K = c.K) (hu : X.A.units + 65 < cLine) {op : CmpOp} (ha : PE X ea (tE c G cl a)) (hb : PE X eb (tE c G cl b)) (hm : behindInMarks op eb = false) : PE X (.Compare ea [op] [eb] pos) (tE c G cl (.cmp op a b)) :=
  pe_imp (pe_cmpR (cmp_ok hK hu op) ha hb hm) fun σ H Q q => by
    obtain ⟨p, F, Z, τ, A, r, τ', s, e, k⟩ := q
    unfold evE at e
    split at e
    · cases e
    · rename_i ra τ1 e1
      split at e
      · cases e
      · rename_i rb τ2 e2
        split at e
        · rename_i x y l1 l2
          cases e3 : cmpD op x y with
          | none => rw [e3] at e; cases e
          | some r0 =>
            rw [e3] at e
            cases e
            exact two_op s e1 e2 fun vx vy H2 Z2 A2 po w1 w2 => ⟨Z2, x, y, r0, po.st.zh, look_ok po.st w1 l1, look_ok po.st w2 l2, e3, fin_new po (newd (d := .bl r0) (z := .bl r0) (show Rep c Z2 (.bl r0) (.bl r0) by simp only [Rep])) k⟩
        · cases e
theorem t_cmp (hK : X.K = c.K) (hu : X.A.units + 65 < cLine) {op : CmpOp} (ha : PE X ea (tE c G cl a)) (hb : PE X eb (tE c G cl b)) (hm : behindInMarks op eb = false) : PT X (.Compare ea [op] [eb] pos) (tT c G cl (.e (.cmp op a b))) :=
  pt_imp (pt_cmpR (cmp_ok hK hu op) ha hb hm) fun σ H Q q => by
    obtain ⟨p, F, Z, τ, A, r, τ', s, e, k⟩ := q
    unfold evT at e
    split at e
    · rename_i b0 τ3 e0
      cases e
      unfold evE at e0
      split at e0
      · cases e0
      · rename_i ra τ1 e1
        split at e0
        · cases e0
        · rename_i rb τ2 e2
          split at e0
          · rename_i x y l1 l2
            cases e3 : cmpD op x y with
            | none => rw [e3] at e0; cases e0
            | some r0 =>
              rw [e3] at e0
              cases e0
              exact two_op s e1 e2 fun vx vy H2 Z2 A2 po w1 w2 => ⟨Z2, x, y, r, po.st.zh, look_ok po.st w1 l1, look_ok po.st w2 l2, e3, r, rfl, k H2 Z2 A2 po⟩
          · cases e0
    · cases e
/-- a chain of two comparisons, in full -/
theorem chain_use {o1 o2 : CmpOp} {r : R} (s : Sta c F Z H σ τ A) (e : evE G cl p (.chain o1 o2 a b d) τ = some (r, τ')) {Q : VK} (k : ∀ w H' Z' A', Post c p F Z H σ τ A τ' H' Z' A' → r = .d (.bl w) → Q (.bl w) H') :
    tChain (rCmp c (cmpD o1)) (rCmp c (cmpD o2)) (tE c G cl a) (tE c G cl b) (tE c G cl d) σ H Q := by
  unfold evE at e
  split at e
  · rename_i x τ1 e1
    split at e
    · rename_i y τ2 e2
      refine one_op s e1 fun vx H1 Z1 A1 po1 w1 => one_op po1.st e2 fun vy H2 Z2 A2 po2 w2 => ?_
      have w1' : Rep c Z2 x vx := Rep.mono po2.zz x vx w1
      have po := po1.trans po2 id
      split at e
      · rename_i e3
        cases e
        exact ⟨Z2, x, y, false, po.st.zh, Vw.of po.st.zh w1', Vw.of po.st.zh w2, e3, false, rfl, k _ _ _ _ po rfl⟩
      · rename_i e3
        split at e
        · rename_i z τ3 e4
          cases e5 : cmpD o2 y z with
          | none => rw [e5] at e; cases e
          | some w =>
            rw [e5] at e
            cases e
            refine ⟨Z2, x, y, true, po.st.zh, Vw.of po.st.zh w1', Vw.of po.st.zh w2, e3, true, rfl, ?_⟩
            refine one_op po2.st e4 fun vz H3 Z3 A3 po3 w3 => ?_
            have w2' : Rep c Z3 y vy := Rep.mono po3.zz y vy w2
            exact ⟨Z3, y, z, w, po3.st.zh, Vw.of po3.st.zh w2', Vw.of po3.st.zh w3, e5, k _ _ _ _ (po.trans po3 id) rfl⟩
        · cases e
      · cases e
    · cases e
  · cases e
theorem s_chain (hK : X.K = c.K) (hu : X.A.units + 65 < cLine) {o1 o2 : CmpOp} (ha : PE X ea (tE c G cl a)) (hb : PE X eb (tE c G cl b)) (hc : PE X ec (tE c G cl d)) (hm : lastMarks [o1, o2] [eb, ec] = false) : PE X (.Compare ea [o1, o2] [eb, ec] pos) (tE c G cl (.chain o1 o2 a b d)) :=
  pe_imp (pe_chain (cmp_ok hK hu o1) (cmp_ok hK hu o2) ha hb hc hm) fun σ H Q q => by
    obtain ⟨p, F, Z, τ, A, r, τ', s, e, k⟩ := q
    exact chain_use s e fun w H' Z' A' po er => fin_new po (newd (d := .bl w) (z := .bl w) (show Rep c Z' (.bl w) (.bl w) by simp only [Rep])) (er ▸ k)
theorem t_chain (hK : X.K = c.K) (hu : X.A.units + 65 < cLine) {o1 o2 : CmpOp} (ha : PE X ea (tE c G cl a)) (hb : PE X eb (tE c G cl b)) (hc : PE X ec (tE c G cl d)) (hm : lastMarks [o1, o2] [eb, ec] = false) : PT X (.Compare ea [o1, o2] [eb, ec] pos) (tT c G cl (.e (.chain o1 o2 a b d))) :=
  pt_imp (pt_chain (cmp_ok hK hu o1) (cmp_ok hK hu o2) ha hb hc hm) fun σ H Q q => by
    obtain ⟨p, F, Z, τ, A, r, τ', s, e, k⟩ := q
    unfold evT at e
    split at e
    · rename_i b0 τ3 e0
      cases e
      exact chain_use s e0 fun w H' Z' A' po er => by
        cases er
        exact ⟨_, rfl, k H' Z' A' po⟩
    · cases e
/-- a plain value as a test -/
theorem t_e {e : Expr} (ha : PE X e (tE c G cl a)) (he : ∀ whole, isTrue e X.env whole = (do let v ← whole; standAt e.pos; holding [v] (truthy v))) : PT X e (tT c G cl (.e a)) :=
  pt_imp (pt_val ha he) fun σ H Q q => by
    obtain ⟨p, F, Z, τ, A, r, τ', s, e, k⟩ := q
    unfold evT at e
    split at e
    · rename_i b0 τ3 e0
      cases e
      exact one_op s e0 fun x H1 Z1 A1 po w => ⟨r, w, k H1 Z1 A1 po⟩
    · cases e
theorem t_and {x y : Expr} {rest : List Expr} {t u : CT} (ha : PT X x (tT c G cl t)) (hb : PW X (.BoolOp .And (y :: rest) pos) (tT c G cl u)) : PW X (.BoolOp .And (x :: y :: rest) pos) (tT c G cl (.and t u)) :=
  ⟨fun wh pins s σ H Q I q => (pw_and ha hb).run wh pins s σ H Q I (by
    obtain ⟨p, F, Z, τ, A, r, τ', s, e, k⟩ := q
    unfold evT at e
    split at e
    · rename_i τ1 e1
      exact ⟨p, F, Z, τ, A, true, τ1, s, e1, fun H1 Z1 A1 po => by
        refine iteT ?_
        exact ⟨p, F, Z1, τ1, A1, r, τ', po.st, e, fun H' Z' A' po2 => k H' Z' A' (po.trans po2 id)⟩⟩
    · rename_i r0 hn
      refine ⟨p, F, Z, τ, A, r, τ', s, e, fun H1 Z1 A1 po => ?_⟩
      cases r with
      | true => exact absurd e (hn τ')
      | false =>
        refine iteF ?_
        exact k H1 Z1 A1 po)⟩
theorem t_or {x y : Expr} {rest : List Expr} {t u : CT} (ha : PT X x (tT c G cl t)) (hb : PW X (.BoolOp .Or (y :: rest) pos) (tT c G cl u)) : PW X (.BoolOp .Or (x :: y :: rest) pos) (tT c G cl (.or t u)) :=
  ⟨fun wh pins s σ H Q I q => (pw_or ha hb).run wh pins s σ H Q I (by
    obtain ⟨p, F, Z, τ, A, r, τ', s, e, k⟩ := q
    unfold evT at e
    split at e
    · rename_i τ1 e1
      exact ⟨p, F, Z, τ, A, false, τ1, s, e1, fun H1 Z1 A1 po => by
        refine iteF ?_
        exact ⟨p, F, Z1, τ1, A1, r, τ', po.st, e, fun H' Z' A' po2 => k H' Z' A' (po.trans po2 id)⟩⟩
    · rename_i r0 hn
      refine ⟨p, F, Z, τ, A, r, τ', s, e, fun H1 Z1 A1 po => ?_⟩
      cases r with
      | false => exact absurd e (hn τ')
      | true =>
        refine iteT ?_
        exact k H1 Z1 A1 po)⟩
theorem t_not {x : Expr} {t : CT} (ha : PT X x (tT c G cl t)) : PT X (.UnaryOp .Not x pos) (tT c G cl (.not t)) :=
  pt_imp (pt_not ha) fun σ H Q q => by
    obtain ⟨p, F, Z, τ, A, r, τ', s, e, k⟩ := q
    unfold evT at e
    split at e
    · rename_i b0 τ1 e1
      cases e
      exact ⟨p, F, Z, τ, A, b0, _, s, e1, k⟩
    · cases e
theorem s_and {x y : Expr} {rest : List Expr} (ha : PE X x (tE c G cl a)) (hb : PE X (.BoolOp .And (y :: rest) pos) (tE c G cl b)) : PE X (.BoolOp .And (x :: y :: rest) pos) (tE c G cl (.and a b)) :=
  pe_imp (pe_and ha hb) fun σ H Q q => by
    obtain ⟨p, F, Z, τ, A, r, τ', s, e, k⟩ := q
    unfold evE at e
    split at e
    · rename_i τ1 e1
      exact one_op s e1 fun x H1 Z1 A1 po w => ⟨true, w, by
        refine iteT ?_
        exact ⟨p, F, Z1, τ1, A1, r, τ', po.st, e, fun x H' Z' A' B po2 re => k x H' Z' A' B (po.trans po2 id) re⟩⟩
    · rename_i τ1 e1
      cases e
      exact one_op s e1 fun x H1 Z1 A1 po w => ⟨false, w, by
        refine iteF ?_
        exact fin_new po (newd (d := .bl false) (show Rep c Z1 (.bl false) (.bl false) by simp only [Rep])) k⟩
    · cases e
theorem s_or {x y : Expr} {rest : List Expr} (ha : PE X x (tE c G cl a)) (hb : PE X (.BoolOp .Or (y :: rest) pos) (tE c G cl b)) : PE X (.BoolOp .Or (x :: y :: rest) pos) (tE c G cl (.or a b)) :=
  pe_imp (pe_or ha hb) fun σ H Q q => by
    obtain ⟨p, F, Z, τ, A, r, τ', s, e, k⟩ := q
    unfold evE at e
    split at e
    · rename_i τ1 e1
      exact one_op s e1 fun x H1 Z1 A1 po w => ⟨false, w, by
        refine iteF ?_
        exact ⟨p, F, Z1, τ1, A1, r, τ', po.st, e, fun x H' Z' A' B po2 re => k x H' Z' A' B (po.trans po2 id) re⟩⟩
    · rename_i τ1 e1
      cases e
      exact one_op s e1 fun x H1 Z1 A1 po w => ⟨true, w, by
        refine iteT ?_
        exact fin_new po (newd (d := .bl true) (show Rep c Z1 (.bl true) (.bl true) by simp only [Rep])) k⟩
    · cases e
theorem s_not {x : Expr} (ha : PE X x (tE c G cl a)) : PE X (.UnaryOp .Not x pos) (tE c G cl (.not a)) :=
  pe_imp (pe_not ha) fun σ H Q q => by
    obtain ⟨p, F, Z, τ, A, r, τ', s, e, k⟩ := q
    unfold evE at e
    split at e
    · rename_i b0 τ1 e1
      cases e
      exact one_op s e1 fun x H1 Z1 A1 po w => ⟨b0, w, fin_new po (newd (d := .bl (!b0)) (show Rep c Z1 (.bl (!b0)) (.bl (!b0)) by simp only [Rep])) k⟩
    · cases e
theorem s_ife {x : Expr} {t : CT} (ht : PT X x (tT c G cl t)) (ha : PE X ea (tE c G cl a)) (hb : PE X eb (tE c G cl b)) : PE X (.IfExp x ea eb pos) (tE c G cl (.ife t a b)) :=
  pe_imp (pe_ifExp ht ha hb) fun σ H Q q => by
    obtain ⟨p, F, Z, τ, A, r, τ', s, e, k⟩ := q
    unfold evE at e
    split at e
    · rename_i τ1 e1
      exact ⟨p, F, Z, τ, A, true, τ1, s, e1, fun H1 Z1 A1 po => by
        refine iteT ?_
        exact ⟨p, F, Z1, τ1, A1, r, τ', po.st, e, fun x H' Z' A' B po2 re => k x H' Z' A' B (po.trans po2 id) re⟩⟩
    · rename_i τ1 e1
      exact ⟨p, F, Z, τ, A, false, τ1, s, e1, fun H1 Z1 A1 po => by
        refine iteF ?_
        exact ⟨p, F, Z1, τ1, A1, r, τ', po.st, e, fun x H' Z' A' B po2 re => k x H' Z' A' B (po.trans po2 id) re⟩⟩
    · cases e
theorem s_tup {es : List Expr} {ces : CEs} {k1 : Nat} (h : PA X es (tX c G cl ces)) : PE X (.Tuple es k1 pos) (tE c G cl (.tup ces)) :=
  pe_imp (pe_tup h) fun σ H Q q => by
    obtain ⟨p, F, Z, τ, A, r, τ', s, e, k⟩ := q
    unfold evE at e
    split at e
    · rename_i ds τ1 e1
      split at e
      · rename_i hl
        cases e
        exact ⟨p, F, Z, τ, A, ds, _, s, e1, fun xs H1 Z1 A1 po rl => ⟨by rw [RepL.len ds xs rl, ← sl_eq]; exact hl, fun l nl => fin_new po (.inr (.inl ⟨l, xs, ds, rfl, rfl, nl, rfl, rl⟩)) k⟩⟩
      · cases e
    · cases e
theorem s_lst {es : List Expr} {ces : CEs} (h : PA X es (tX c G cl ces)) : PE X (.List es pos) (tE c G cl (.lst ces)) :=
  pe_imp (pe_lst h) fun σ H Q q => by
    obtain ⟨p, F, Z, τ, A, r, τ', s, e, k⟩ := q
    unfold evE at e
    split at e
    · rename_i ds τ1 e1
      split at e
      · rename_i hl
        cases e
        exact ⟨p, F, Z, τ, A, ds, _, s, e1, fun xs H1 Z1 A1 po rl => ⟨by rw [RepL.len ds xs rl, ← sl_eq]; exact hl, fun l nl => fin_new po (.inr (.inr ⟨l, xs, ds, rfl, rfl, nl, rfl, rl⟩)) k⟩⟩
      · cases e
    · cases e
theorem x_nil : PA X [] (tX c G cl .nil) := pa_imp pa_nil fun σ H Q q => by
  obtain ⟨p, F, Z, τ, A, r, τ', s, e, k⟩ := q
  unfold evX at e
  cases e
  exact k [] H Z A (Post.refl s) rfl
theorem x_cons {es : List Expr} {ces : CEs} (h1 : PE X ea (tE c G cl a)) (h2 : PA X es (tX c G cl ces)) (hs : starEach (ea :: es) X.env = (false, eval ea X.env) :: starEach es X.env) : PA X (ea :: es) (tX c G cl (.cons a ces)) :=
  pa_imp (pa_cons h1 h2 hs) fun σ H Q q => by
    obtain ⟨p, F, Z, τ, A, r, τ', s, e, k⟩ := q
    unfold evX at e
    split at e
    · cases e
    · rename_i x τ1 e1
      split at e
      · cases e
      · rename_i dd τ2 e2
        cases e3 : evX G cl p ces τ2 with
        | none => rw [e3] at e; cases e
        | some t =>
          obtain ⟨ds, τ3⟩ := t
          rw [e3] at e
          cases e
          refine ⟨p, F, Z, τ, A, x, τ1, s, e1, fun v H1 Z1 A1 B po re => ?_⟩
          obtain ⟨Z2, A2, po2, rp⟩ := esc_ok po.st re e2
          refine ⟨p, F, Z2, τ2, A2, ds, _, po2.st, e3, fun xs H3 Z3 A3 po3 rl => ?_⟩
          exact k (v :: xs) H3 Z3 A3 ((po.trans po2 id).trans po3 id) ⟨v, xs, rfl, Rep.mono po3.zz dd v rp, rl⟩
theorem l_nil : PA X [] (tL c G cl .nil) := pa_imp pa_nil fun σ H Q q => by
  obtain ⟨p, F, Z, τ, A, r, τ', s, e, k⟩ := q
  unfold evL at e
  cases e
  exact k [] H Z A (Post.refl s) rfl
theorem l_cons {es : List Expr} {ces : CEs} (h1 : PE X ea (tE c G cl a)) (h2 : PA X es (tL c G cl ces)) (hs : starEach (ea :: es) X.env = (false, eval ea X.env) :: starEach es X.env) : PA X (ea :: es) (tL c G cl (.cons a ces)) :=
  pa_imp (pa_cons h1 h2 hs) fun σ H Q q => by
    obtain ⟨p, F, Z, τ, A, r, τ', s, e, k⟩ := q
    unfold evL at e
    split at e
    · cases e
    · rename_i x τ1 e1
      cases e3 : evL G cl (p || x.isF) ces τ1 with
      | none => rw [e3] at e; cases e
      | some t =>
        obtain ⟨rs, τ2⟩ := t
        rw [e3] at e
        cases e
        refine one_op s e1 fun v H1 Z1 A1 po w => ?_
        refine ⟨p || x.isF, F, Z1, τ1, A1, rs, _, po.st, e3, fun xs H2 Z2 A2 po2 wl => ?_⟩
        exact k (v :: xs) H2 Z2 A2 (po.trans po2 fun z => by rw [z]; rfl) ⟨v, xs, rfl, w.keep po2 (fun z => by rw [setl_isF] at z; rw [z]; simp), wl⟩
theorem looks_ok (s : Sta c F Z H σ τ A) : ∀ {rs : List R} {xs : List V} {ds : List D}, OpsW c Z H σ rs xs → rs.mapM (look τ) = some ds → VwL c Z H ds xs
  | [], xs, ds, w, h => by
    have : ds = [] := by simpa using h.symm
    subst this
    exact w
  | r :: rs, xs, ds, w, h => by
    obtain ⟨x, ws, rfl, w1, w2⟩ := w
    rw [List.mapM_cons] at h
    cases e1 : look τ r with
    | none => rw [e1] at h; cases h
    | some d =>
      rw [e1] at h
      cases e2 : rs.mapM (look τ) with
      | none =>
        have h' : (do let bs ← rs.mapM (look τ); pure (d :: bs) : Option (List D)) = some ds := h
        rw [e2] at h'
        cases h'
      | some ds' =>
        have h' : (do let bs ← rs.mapM (look τ); pure (d :: bs) : Option (List D)) = some ds := h
        rw [e2] at h'
        cases h'
        exact ⟨x, ws, rfl, look_ok s w1 e1, looks_ok s w2 e2⟩
theorem s_blt {f : Blt} {ces : CEs} {e : Expr} {t : TA} (h : PE X e (tCB (rBlt c f) (tL c G cl ces))) : PE X e (tE c G cl (.blt f ces)) :=
  pe_imp h fun σ H Q q => by
    obtain ⟨p, F, Z, τ, A, r, τ', s, e, k⟩ := q
    unfold evE at e
    split at e
    · cases e
    · rename_i rs τ1 e1
      split at e
      · cases e
      · rename_i vs e2
        cases e3 : bltD f vs with
        | none => rw [e3] at e; cases e
        | some r0 =>
          rw [e3] at e
          cases e
          exact ⟨p, F, Z, τ, A, rs, _, s, e1, fun xs H1 Z1 A1 po wl => ⟨Z1, vs, r, po.st.zh, po.st.tz, looks_ok po.st wl e2, e3, fun z H' n => fin_new po n k⟩⟩
theorem s_bits {e : Expr} (h : PE X e (tBits (tE c G cl a))) : PE X e (tE c G cl (.bits a)) :=
  pe_imp h fun σ H Q q => by
    obtain ⟨p, F, Z, τ, A, r, τ', s, e, k⟩ := q
    unfold evE at e
    split at e
    · rename_i i τ1 e1
      cases e
      exact one_op s e1 fun x H1 Z1 A1 po w => ⟨i, w, fin_new po (newd (d := .int (Builtin.Int.intBits i : Nat)) (show Rep c Z1 _ (.int (Builtin.Int.intBits i : Nat)) by simp only [Rep])) k⟩
    · cases e
theorem s_idx (hK : X.K = c.K) (hu : X.A.units + 65 < cLine) (ha : PE X ea (tE c G cl a)) (hb : PE X eb (tE c G cl b)) (hs : PlainIx eb) : PE X (.Subscript ea eb pos) (tE c G cl (.idx a b)) :=
  pe_imp (pe_ix (idx_ok hK hu) ha hb hs) fun σ H Q q => by
    obtain ⟨p, F, Z, τ, A, r, τ', s, e, k⟩ := q
    unfold evE at e
    split at e
    · cases e
    · rename_i ra τ1 e1
      split at e
      · cases e
      · rename_i rb τ2 e2
        split at e
        · rename_i x y l1 l2
          cases e3 : idxD x y with
          | none => rw [e3] at e; cases e
          | some r0 =>
            rw [e3] at e
            cases e
            exact two_op s e1 e2 fun vx vy H2 Z2 A2 po w1 w2 => ⟨Z2, x, y, r0, po.st.zh, look_ok po.st w1 l1, look_ok po.st w2 l2, e3, fun z n => fin_new po (newd n) k⟩
        · cases e
theorem s_fld {f : Nat} {nm : Str} (hK : X.K = c.K) (hf : c.attrs[f]? = some nm) (hc : ∀ (k : Nat) (C : Addr), c.cls.lookup k = some C → Cls X.K C ∧ (c.fok k f = true → NoAttr X.K C nm)) (ha : PE X ea (tE c G cl a)) (hb : attributeBase ea nm X.env (eval ea X.env) = eval ea X.env) :
    PE X (.Attribute ea nm pos) (tE c G cl (.fld a f)) :=
  pe_imp (pe_fld ha hb) fun σ H Q q => by
    obtain ⟨p, F, Z, τ, A, r, τ', s, e, k⟩ := q
    unfold evE at e
    split at e
    · rename_i kk fs τ1 e1
      cases e2 : getD' f fs with
      | none => rw [e2] at e; cases e
      | some dd =>
        rw [e2] at e
        cases e
        refine one_op s e1 fun x H1 Z1 A1 po w => ?_
        obtain ⟨ad, C, dx, gs, rfl, hC, hZ, rf, ok⟩ := (show Rep c Z1 (.ins kk fs) x from w)
        have get : ∀ {fs : List (Nat × D)} {gs : List (Str × V)}, RepF c Z1 fs gs → getD' f fs = some dd → ∃ v, gs.lookup nm = some v ∧ Rep c Z1 dd v ∧ ∃ p ∈ fs, p.1 = f := by
          intro fs
          induction fs with
          | nil => intro gs _ h; simp [getD'] at h
          | cons q fs ih =>
            obtain ⟨g, n⟩ := q
            intro gs rf h
            obtain ⟨s1, v1, r1, rfl, hs1, q1, q2⟩ := rf
            by_cases eg : g = f
            · subst eg
              rw [hf] at hs1
              cases hs1
              have : n = dd := by simpa [getD'] using h
              subst this
              exact ⟨v1, by simp [List.lookup], q1, (g, n), by simp, rfl⟩
            · obtain ⟨v, z1, z2, p0, z3, z4⟩ := ih q2 (by simpa [getD', eg] using h)
              have ne : (nm == s1) = false := by
                have : nm ≠ s1 := fun z => eg (attr_inj hs1 (z ▸ hf))
                simpa using this
              exact ⟨v, by simp [List.lookup, ne, z1], z2, p0, by simp [z3], z4⟩
        obtain ⟨v, z1, z2, p0, z3, z4⟩ := get rf e2
        have hc' := hc kk C hC
        exact ⟨ad, C, dx, gs, v, rfl, po.st.zh _ _ hZ, hc'.1, hc'.2 (by rw [← z4]; exact ok p0 z3), z1, fin_new po (newd z2) k⟩
    · rename_i i τ1 e1
      have body : ∀ {m : M}, getP τ1 i (some f) = some m → (∀ x H' Z' A', Post c p F Z H σ τ A τ1 H' Z' A' → (∃ B, OR c Z' H' m x B) → OpW c Z' H' σ (.pl i (some f)) x → Q x H') → tFld X.K (tE c G cl a) nm σ H Q := fun {m} hm kk => by
        refine one_op s e1 fun x H1 Z1 A1 po w => ?_
        obtain ⟨kc, fs, h1, h2⟩ := getP_field hm
        obtain ⟨v, h3, o⟩ := po.st.own i _ (slotM_some h1)
        have w' : σ[i]? = some (some x) := w
        rw [w'] at h3
        cases h3
        obtain ⟨ad, C, dx, gs, B, rfl, eA, hC, hH, oF, ok⟩ := o
        obtain ⟨s2, x2, B1, B2, z1, z2, z3, _⟩ := oF.at h2
        rw [hf] at z1
        cases z1
        have hc' := hc kc C hC
        exact ⟨ad, C, dx, gs, x2, rfl, hH, hc'.1, hc'.2 (ok _ (getA_mem h2)), z2, kk x2 H1 Z1 A1 po ⟨B1, z3⟩ ⟨ad, C, dx, gs, nm, w', hH, hf, z2⟩⟩
      split at e
      · rename_i dd hd
        cases e
        exact body hd fun x H' Z' A' po o w => by
          obtain ⟨B, o⟩ := o
          exact fin_new po (newd o.2) k
      · rename_i m nv hd
        cases e
        refine body hd fun x H' Z' A' po o w => ?_
        refine k x H' Z' A' [] po ⟨⟨rfl, ⟨m, hd, ?_⟩, w⟩, List.nodup_nil, fun _ _ _ h => (by cases h), fun _ h => by cases h⟩
        cases m with
        | v d => exact absurd rfl (nv d)
        | _ => rfl
      · cases e
    · cases e
end
end
end Ev

/-! Ev, part G: calls, methods, slices, what is walked, comprehensions. -/
namespace Ev
open PySem L2 PyProof.Rows
section
variable {c : Cn} {G : GS} {cl : Caller} {F Z H : Hp} {σ : L2.St} {τ τ1 τ2 τ' : T} {A : Nat → List Addr} {p : Bool}
section
variable {X : Cx} {ea eb ec : Expr} {a b d : CE} {pos : Pos}
theorem s_call {f : Nat} {e : Expr} {ces : CEs} (h : PE X e (tCall (spC c cl f) [] E0 (tL c G cl ces))) : PE X e (tE c G cl (.call f ces)) :=
  pe_imp h fun σ H Q q => by
    obtain ⟨p, F, Z, τ, A, r, τ', s, e, k⟩ := q
    unfold evE at e
    split at e
    · cases e
    · rename_i rs τ1 e1
      split at e
      · cases e
      · rename_i fn e2
        split at e
        · cases e
        · rename_i ms is τ2 e3
          split at e
          · cases e
          · rename_i m os e4
            cases e
            refine ⟨p, F, Z, τ, A, rs, τ1, s, e1, fun xs H1 Z1 A1 po wl => ?_⟩
            obtain ⟨Z2, A2, Ac, zz, hd, em, pu, ow⟩ := takeA_ok po.st wl e3
            rw [List.append_nil]
            refine hd.use e4 fun x H' Z' A' B z2 st re pur => k x H' Z' A' B ⟨(po.zz.trans zz).trans z2, st, fun hp => ?_⟩ re
            obtain ⟨y1, y2, y3⟩ := po.pu hp
            obtain ⟨k1, k2, k3, k4⟩ := pu hp
            obtain ⟨w1, w2, w3⟩ := pur k3 k4
            exact ⟨y1.trans w1, w2.trans (k1.trans y2), w3.trans (k2.trans y3)⟩
theorem s_pcall {f : Nat} {e : Expr} {ces : CEs} (h : PE X e (tCall (spC c cl f) [] E0 (tL c G cl ces))) : PE X e (tE c G cl (.pcall f ces)) :=
  pe_imp h fun σ H Q q => by
    obtain ⟨p, F, Z, τ, A, r, τ', s, e, k⟩ := q
    unfold evE at e
    split at e
    · cases e
    · rename_i rs τ1 e1
      split at e
      · cases e
      · rename_i ds e2
        split at e
        · cases e
        · rename_i m os e3
          cases e4 : sclM m with
          | none => rw [e4] at e; cases e
          | some d =>
            rw [e4] at e
            cases e
            refine ⟨p, F, Z, τ, A, rs, τ', s, e1, fun xs H1 Z1 A1 po wl => ?_⟩
            show spC c cl f (xs ++ []) H1 Q E0
            rw [List.append_nil]
            exact pcall_ok (p := p) po.st wl e2 e3 e4 fun x H' Z' A' po2 re => k x H' Z' A' [] (po.trans po2 id) re
/-- a new thing that is to change no more -/
theorem s_frz {e : Expr} (h : PE X e (tE c G cl a)) : PE X e (tE c G cl (.frz a)) :=
  pe_imp h fun σ H Q q => by
    obtain ⟨p, F, Z, τ, A, r, τ', s, e, k⟩ := q
    unfold evE at e
    split at e
    · cases e
    · rename_i r0 τ1 e1
      cases e
      refine ⟨p, F, Z, τ, A, r0, τ', s, e1, fun x H' Z' A' B po re => ?_⟩
      cases r0 with
      | m m =>
        obtain ⟨h1, h2, h3⟩ := freeze_new po.st re
        exact k x H' _ A' [] ⟨po.zz.trans h1, h2, po.pu⟩ ⟨⟨rfl, h3⟩, List.nodup_nil, fun _ _ _ h => (by cases h), fun _ h => (by cases h)⟩
      | d d => exact k x H' Z' A' B po re
      | pl i f => exact k x H' Z' A' B po re
/-- a call that gets one thing, a new one -/
theorem s_call1 {f : Nat} {e : Expr} (h : PE X e (tCall (spC c cl f) [] E0 fun σ H Q => tE c G cl a σ H fun v H1 => Q [v] H1)) : PE X e (tE c G cl (.call1 f a)) :=
  pe_imp h fun σ H Q q => by
    obtain ⟨p, F, Z, τ, A, r, τ', s, e, k⟩ := q
    unfold evE at e
    cases p with
    | true => simp at e
    | false =>
      rw [if_neg Bool.false_ne_true] at e
      split at e
      · rename_i m τ1 e1
        split at e
        · cases e
        · rename_i r' os e3
          cases e
          refine ⟨false, F, Z, τ, A, .m m, τ', s, e1, fun x H1 Z1 A1 B po re => ?_⟩
          show spC c cl f ([x] ++ []) H1 Q E0
          rw [List.append_nil]
          have hd : Hand c F Z1 H1 σ τ' A1 [x] [m] [none] _ := Hand.cons (Hand.nil (po.st.fin (B := B) fun a ha => ⟨(re.fr a ha).2.1, fun i hi => re.dj i a hi ha⟩)) (fun a ha => ⟨(re.fr a ha).1, (re.fr a ha).2.2⟩) re.nd re.rr fun i z => by cases z
          refine hd.use e3 fun x' H' Z' A' B' z2 st re2 _ => ?_
          have eg : giveA [none] os τ' = τ' := giveA_none _ _ _ fun j i => by cases j <;> simp
          rw [eg] at st re2
          exact k x' H' Z' A' B' ⟨po.zz.trans z2, st, fun z => by cases z⟩ re2
      · cases e
theorem s_mk {ci : Nat} {C : Addr} {kk : Cl} {e : Expr} {ces : CEs} (hC : c.cls.lookup ci = some C) (hk : G.cls.lookup ci = some kk) (h : PE X e (tMake C (spC c cl kk.init) [] E0 (tL c G cl ces))) : PE X e (tE c G cl (.mk ci ces)) :=
  pe_imp h fun σ H Q q => by
    obtain ⟨p, F, Z, τ, A, r, τ', s, e, k⟩ := q
    unfold evE at e
    split at e
    · cases e
    · rename_i rs τ1 e1
      rw [hk] at e
      simp only at e
      split at e
      · cases e
      · rename_i fn e2
        split at e
        · cases e
        · rename_i ms is τ2 e3
          split at e
          · rename_i sm os e4
            cases e
            refine ⟨p, F, Z, τ, A, rs, τ1, s, e1, fun xs H1 Z1 A1 po wl x dx nx ndx nex => ?_⟩
            obtain ⟨Z2, A2, Ac, zz, hd, em, pu, ow⟩ := takeA_ok po.st wl e3
            rw [List.append_nil]
            have nx' : (L2.upd H1 dx (.own x)) x = none := by rw [upd_ne (Ne.symm nex)]; exact nx
            have g : Same H1 (L2.upd (L2.upd H1 dx (.own x)) x (.ins C dx [])) := (Same.upd ndx).trans (Same.upd nx')
            have zx : Z2 x = none := hd.st.zh.free nx
            have fx : F x = none := hd.st.fh.free nx
            have hd2 : Hand c (fzw F (L2.upd (L2.upd H1 dx (.own x)) x (.ins C dx [])) [x]) Z2 (L2.upd (L2.upd H1 dx (.own x)) x (.ins C dx [])) σ τ2 A2 xs ms is Ac :=
              (hd.grow g ((hd.st.tz.upd (a := dx) (o := .own x) fun _ z => by cases z).upd (a := x) (o := .ins C dx []) fun _ z => by cases z)).fin fun a ha => by
                cases List.mem_singleton.mp ha
                exact ⟨zx, fun i z => (hd.st.fr i x z).2.2 nx, fun j z => (hd.fr j x z).2.2 nx⟩
            have hd3 := Hand.cons (B := [x]) (i0 := none) (m := .ins ci []) (x := .ref x) hd2 (fun a ha => by
              cases List.mem_singleton.mp ha
              exact ⟨fx, by rw [upd_same]; intro z; cases z⟩) (by simp) ⟨x, C, dx, [], [], rfl, rfl, hC, upd_same, ⟨rfl, rfl⟩, fun p hp => by cases hp⟩ (fun i z => by cases z)
            refine ⟨_, Z2, .ins ci [] :: ms, _, .v .non, sm :: os, hd3.callee, e4, fun v H' Z' A' B z2 st re => ?_⟩
            obtain ⟨A3, s3, _, d2, d3⟩ := hd3.back z2 st
            obtain ⟨d4, d5⟩ := d2 0 (fun i => by simp)
            obtain ⟨w, w1, w2⟩ := st.own 0 sm (by simp)
            have ew : w = .ref x := by
              have : (List.map some (V.ref x :: xs))[0]? = some (some w) := w1
              simpa using this.symm
            subst ew
            refine ⟨re.rr.2, k _ H' Z' A3 (A' 0) ⟨(po.zz.trans zz).trans z2, s3, fun hp => ?_⟩ ⟨w2, st.nd 0, d4, fun a ha => ⟨d5 a ha, (st.fr 0 a ha).2⟩⟩⟩
            obtain ⟨y1, y2, y3⟩ := po.pu hp
            obtain ⟨k1, k2, k3, k4⟩ := pu hp
            obtain ⟨w1, w2, w3⟩ := d3 H1 g (fun j a ha => by
              cases j with
              | zero =>
                cases List.mem_singleton.mp ha
                exact nx
              | succ j =>
                have : a ∈ Ac j := ha
                rw [k3 j] at this
                cases this) (fun j i => by
              cases j with
              | zero => simp
              | succ j => simpa using k4 j i)
            exact ⟨y1.trans w1, w2.trans (k1.trans y2), w3.trans (k2.trans y3)⟩
          · cases e
theorem repF_none {f : Nat} {nm : Str} (hf : c.attrs[f]? = some nm) : ∀ {fs : List (Nat × D)} {gs : List (Str × V)}, RepF c Z fs gs → getD' f fs = none → gs.lookup nm = none
  | [], gs, q, _ => by rw [show gs = [] from q]; rfl
  | (g, n) :: fs, gs, q, h => by
    obtain ⟨s1, v1, r1, rfl, hs1, q1, q2⟩ := q
    by_cases e : g = f
    · simp [getD', e] at h
    · have ne : (nm == s1) = false := by
        have : nm ≠ s1 := fun z => e (attr_inj hs1 (z ▸ hf))
        simpa using this
      simp [List.lookup, ne, repF_none hf q2 (by simpa [getD', e] using h)]
theorem orF_none {f : Nat} {nm : Str} (hf : c.attrs[f]? = some nm) : ∀ {fs : List (Nat × M)} {gs : List (Str × V)} {B : List Addr}, ORF c Z H fs gs B → getA f fs = none → gs.lookup nm = none
  | [], gs, B, q, _ => by rw [q.1]; rfl
  | (g, n) :: fs, gs, B, q, h => by
    obtain ⟨s1, v1, r1, B1, B2, rfl, rfl, hs1, q1, q2⟩ := q
    by_cases e : g = f
    · simp [getA, e] at h
    · have ne : (nm == s1) = false := by
        have : nm ≠ s1 := fun z => e (attr_inj hs1 (z ▸ hf))
        simpa using this
      simp [List.lookup, ne, orF_none hf q2 (by simpa [getA, e] using h)]
theorem fzw_congr {F H H' : Hp} {B : List Addr} (h : ∀ a ∈ B, H a = H' a) : fzw F H B = fzw F H' B := by
  funext a
  by_cases z : a ∈ B
  · rw [fzw_in z, fzw_in z]; exact h a z
  · rw [fzw_out z, fzw_out z]
/-- a call that gets a new thing first -/
theorem s_callM {f : Nat} {e : Expr} {ces : CEs} (h : PE X e (tCall (spC c cl f) [] E0 fun σ H Q => tE c G cl a σ H fun v H1 => tL c G cl ces σ H1 fun vs H2 => Q (v :: vs) H2)) : PE X e (tE c G cl (.callM f a ces)) :=
  pe_imp h fun σ H Q q => by
    obtain ⟨p, F, Z, τ, A, r, τ', s, e, k⟩ := q
    unfold evE at e
    split at e
    · cases e
    rename_i np
    split at e
    · rename_i mm τ1 e1
      split at e
      · cases e
      · rename_i rs τ2 e6
        split at e
        · cases e
        · rename_i fn e5
          split at e
          · cases e
          · rename_i ms is τ3 e7
            split at e
            · rename_i r0 o0 os e8
              cases e
              refine ⟨p, F, Z, τ, A, .m mm, τ1, s, e1, fun x H1 Z1 A1 B po re1 => ?_⟩
              have s1 := po.st.fin (B := B) fun a ha => ⟨(re1.fr a ha).2.1, fun i z => re1.dj i a z ha⟩
              refine ⟨p, _, Z1, τ1, A1, rs, τ2, s1, e6, fun xs H2 Z2 A2 po2 wl => ?_⟩
              show spC c cl f ((x :: xs) ++ []) H2 Q E0
              obtain ⟨Z3, A3, Ac, zz, hd, em, pu, ow⟩ := takeA_ok po2.st wl e7
              rw [List.append_nil]
              obtain ⟨_, keep⟩ := po2.st.fout (F := F) (B := B) fun a ha => ⟨(re1.fr a ha).1, (re1.fr a ha).2.2⟩
              have hB2 : ∀ a ∈ B, H2 a = H1 a := fun a ha => (keep a ha).1
              rw [fzw_congr (F := F) (B := B) fun a ha => (hB2 a ha).symm] at hd
              have hd2 := Hand.cons (B := B) (i0 := none) (m := mm) (x := x) hd (fun a ha => ⟨(re1.fr a ha).1, by rw [hB2 a ha]; exact (re1.fr a ha).2.2⟩) re1.nd (OR.keep (po2.zz.trans zz) _ _ B hB2 re1.rr) (fun i z => by cases z)
              refine ⟨_, Z3, mm :: ms, _, r0, o0 :: os, hd2.callee, e8, fun v H' Z' A' B5 z2 st re => ?_⟩
              obtain ⟨A5, s5, d1, d2, d3⟩ := hd2.back z2 st
              obtain ⟨d4, d5⟩ := d1 B5 (fun a ha => ⟨(re.fr a ha).1, (re.fr a ha).2.2⟩) fun j a h1 h2 => re.dj j a h1 h2
              refine k v H' Z' A5 B5 ⟨((po.zz.trans po2.zz).trans zz).trans z2, s5, fun hp => ?_⟩ (resR_ok (m := r0) ⟨re.rr, re.nd, d4, fun a ha => ⟨d5 a ha, (re.fr a ha).2⟩⟩)
              exact absurd hp np
            · cases e
    · cases e
/-- a method of an own class: e is the call; for each class that has the method the library's reading -/
theorem s_um {m : Nat} {nm : Str} {e : Expr} {ces : CEs} (hm : c.attrs[m]? = some nm)
    (h : ∀ (ci : Nat) (kk : Cl) (f : Nat), G.cls.lookup ci = some kk → kk.ms.lookup m = some f → ∃ C, c.cls.lookup ci = some C ∧ PE X e (tMeth C nm (spC c cl f) [] E0 (tE c G cl a) (tL c G cl ces))) : PE X e (tE c G cl (.um m a ces)) := by
  refine ⟨fun pins s σ H Q I q => ?_⟩
  obtain ⟨p, F, Z, τ, A, r, τ', s, e, k⟩ := q
  unfold evE at e
  split at e
  · cases e
  · rename_i ro τ1 e1
    split at e
    · cases e
    · rename_i ci e2
      split at e
      · cases e
      · rename_i kk e3
        split at e
        · cases e
        · rename_i f e4
          split at e
          · cases e
          · rename_i fn e5
            split at e
            · cases e
            · rename_i rs τ2 e6
              obtain ⟨C, hC, pe⟩ := h ci kk f e3 e4
              refine pe.run pins _ σ H Q I ?_
              have pure_ : ∀ {H1 Z1 H2 Z2 : Hp} {A1 A2 A2' A3 : Nat → List Addr} {τ3 : T} {is : List (Option Nat)} {os : List M} {H' : Hp}, Post c p F Z H σ τ A τ1 H1 Z1 A1 → (p = true → Same H1 H2 ∧ τ2 = τ1 ∧ A2 = A1) → (p = true → τ3 = τ2 ∧ A2' = A2) → (p = true → Same H2 H' ∧ giveA is os τ3 = τ3 ∧ A3 = A2') → p = true → Same H H' ∧ giveA is os τ3 = τ ∧ A3 = A := by
                intro H1 Z1 H2 Z2 A1 A2 A2' A3 τ3 is os H' po h1 h2 h3 hp
                obtain ⟨a1, a2, a3⟩ := po.pu hp
                obtain ⟨b1, b2, b3⟩ := h1 hp
                obtain ⟨c1, c2⟩ := h2 hp
                obtain ⟨d1, d2, d3⟩ := h3 hp
                exact ⟨(a1.trans b1).trans d1, d2.trans (c1.trans (b2.trans a2)), d3.trans (c2.trans (b3.trans a3))⟩
              cases ro with
              | d dd =>
                simp only at e
                split at e
                · cases e
                · rename_i ms is τ3 e7
                  split at e
                  · rename_i r0 o0 os e8
                    cases e
                    refine one_op s e1 fun x H1 Z1 A1 po w => ?_
                    have w' : Rep c Z1 dd x := w
                    cases dd with
                    | ins kc fs =>
                      unfold recvC at e2
                      simp only at e2
                      split at e2
                      · rename_i hn
                        cases e2
                        obtain ⟨ad, C', dx, gs, rfl, hC', hZ, rf, ok⟩ := id w'
                        rw [hC] at hC'
                        cases hC'
                        refine ⟨ad, dx, gs, rfl, po.st.zh _ _ hZ, repF_none hm rf (by simpa using hn), ?_⟩
                        refine ⟨p, F, Z1, τ1, A1, rs, τ2, po.st, e6, fun xs H2 Z2 A2 po2 wl => ?_⟩
                        obtain ⟨Z3, A3, Ac, zz, hd, em, pu, ow⟩ := takeA_ok po2.st wl e7
                        rw [List.append_nil]
                        have f0 : fzw F H2 ([] : List Addr) = F := by funext a; exact fzw_out (by simp)
                        have hd2 := Hand.cons (B := []) (i0 := none) (m := .v (.ins ci fs)) (x := .ref ad) (by rw [f0]; exact hd) (fun a z => by cases z) List.nodup_nil ⟨rfl, Rep.mono (po2.zz.trans zz) _ _ w'⟩ (fun i z => by cases z)
                        refine hd2.use e8 fun x H' Z' A' B z2 st re pur => k x H' Z' A' B ⟨((po.zz.trans po2.zz).trans zz).trans z2, st, pure_ (Z2 := Z2) po po2.pu (fun hp => ⟨(pu hp).1, (pu hp).2.1⟩) fun hp => ?_⟩ re
                        obtain ⟨k1, k2, k3, k4⟩ := pu hp
                        exact pur (fun j => by cases j with | zero => rfl | succ j => exact k3 j) fun j i => by cases j with | zero => simp | succ j => simpa using k4 j i
                      · cases e2
                    | _ => cases e2
                  · cases e
              | m mm =>
                simp only at e
                split at e
                · cases e
                rename_i np
                split at e
                · cases e
                · rename_i ms is τ3 e7
                  split at e
                  · rename_i r0 o0 os e8
                    cases e
                    refine ⟨p, F, Z, τ, A, .m mm, τ1, s, e1, fun x H1 Z1 A1 B po re1 => ?_⟩
                    cases mm with
                    | ins kc fs =>
                      unfold recvC at e2
                      simp only at e2
                      split at e2
                      · rename_i hn
                        cases e2
                        obtain ⟨ad, C', dx, gs, B', rfl, eB, hC', hH, oF, ok⟩ := id re1.rr
                        rw [hC] at hC'
                        cases hC'
                        refine ⟨ad, dx, gs, rfl, hH, orF_none hm oF (by simpa using hn), ?_⟩
                        have s1 := po.st.fin (B := B) fun a ha => ⟨(re1.fr a ha).2.1, fun i z => re1.dj i a z ha⟩
                        refine ⟨p, _, Z1, τ1, A1, rs, τ2, s1, e6, fun xs H2 Z2 A2 po2 wl => ?_⟩
                        obtain ⟨Z3, A3, Ac, zz, hd, em, pu, ow⟩ := takeA_ok po2.st wl e7
                        rw [List.append_nil]
                        obtain ⟨_, keep⟩ := po2.st.fout (F := F) (B := B) fun a ha => ⟨(re1.fr a ha).1, (re1.fr a ha).2.2⟩
                        have hB2 : ∀ a ∈ B, H2 a = H1 a := fun a ha => (keep a ha).1
                        rw [fzw_congr (F := F) (B := B) fun a ha => (hB2 a ha).symm] at hd
                        have hd2 := Hand.cons (B := B) (i0 := none) (m := .ins ci fs) (x := .ref ad) hd (fun a ha => ⟨(re1.fr a ha).1, by rw [hB2 a ha]; exact (re1.fr a ha).2.2⟩) re1.nd (OR.keep (po2.zz.trans zz) _ _ B hB2 re1.rr) (fun i z => by cases z)
                        refine ⟨_, Z3, .ins ci fs :: ms, _, r0, o0 :: os, hd2.callee, e8, fun v H' Z' A' B5 z2 st re => ?_⟩
                        obtain ⟨A5, s5, d1, d2, d3⟩ := hd2.back z2 st
                        obtain ⟨d4, d5⟩ := d1 B5 (fun a ha => ⟨(re.fr a ha).1, (re.fr a ha).2.2⟩) fun j a h1 h2 => re.dj j a h1 h2
                        refine k v H' Z' A5 B5 ⟨((po.zz.trans po2.zz).trans zz).trans z2, s5, fun hp => ?_⟩ (resR_ok (m := r0) ⟨re.rr, re.nd, d4, fun a ha => ⟨d5 a ha, (re.fr a ha).2⟩⟩)
                        exact absurd hp np
                      · cases e2
                    | _ => cases e2
                  · cases e
              | pl i fo =>
                cases fo with
                | some f' => cases e
                | none =>
                  simp only at e
                  split at e
                  · cases e
                  · rename_i ms is τ3 e7
                    split at e
                    · rename_i r0 os e8
                      cases e
                      refine one_op s e1 fun x H1 Z1 A1 po w => ?_
                      have w' : σ[i]? = some (some x) := w
                      unfold recvC at e2
                      simp only at e2
                      split at e2
                      · rename_i kc fs e9
                        split at e2
                        · rename_i hn
                          cases e2
                          obtain ⟨v, e10, o⟩ := po.st.own i _ (slotM_some e9)
                          rw [w'] at e10
                          cases e10
                          obtain ⟨ad, C', dx, gs, B', rfl, eB, hC', hH, oF, ok⟩ := o
                          rw [hC] at hC'
                          cases hC'
                          refine ⟨ad, dx, gs, rfl, hH, orF_none hm oF (by simpa using hn), ?_⟩
                          refine ⟨p, F, Z1, τ1, A1, rs, τ2, po.st, e6, fun xs H2 Z2 A2 po2 wl => ?_⟩
                          obtain ⟨Z3, A3, Ac, zz, hd, em, pu, ow⟩ := takeA_ok po2.st (rs := .pl i none :: rs) (xs := .ref ad :: xs) ⟨_, _, rfl, w', wl⟩ e7
                          rw [List.append_nil]
                          refine hd.use e8 fun x H' Z' A' B z2 st re pur => k x H' Z' A' B ⟨((po.zz.trans po2.zz).trans zz).trans z2, st, pure_ (Z2 := Z2) po po2.pu (fun hp => ⟨(pu hp).1, (pu hp).2.1⟩) fun hp => ?_⟩ re
                          obtain ⟨k1, k2, k3, k4⟩ := pu hp
                          exact pur k3 k4
                        · cases e2
                      · cases e2
                    · cases e
end
end
end Ev

/-! Ev, part H: methods of lists, slices, dicts, what is walked, targets. -/
namespace Ev
open PySem L2 PyProof.Rows
section
variable {c : Cn} {G : GS} {cl : Caller} {F Z H : Hp} {σ : L2.St} {τ τ1 τ2 τ' : T} {A : Nat → List Addr} {p : Bool}
/-- a thing of one object at a place: it may be changed -/
theorem cell_at (s : Sta c F Z H σ τ A) {i : Nat} {f : Option Nat} {m : M} {x : V} (q : OpW c Z H σ (.pl i f) x) (h : getP τ i f = some m) (one : ∀ B, OR c Z H m x B → ∃ l, x = .ref l ∧ B = [l]) :
    ∃ l, x = .ref l ∧ OR c Z H m x [l] ∧ F l = none ∧ Z l = none ∧ ∀ m' o', OR c Z (L2.upd H l o') m' (.ref l) [l] → ∃ A', Sta c F Z (L2.upd H l o') σ (setP τ i m' f) A' := by
  obtain ⟨B, hB, nd, o, put⟩ := place_at s q h
  obtain ⟨l, rfl, rfl⟩ := one B o
  obtain ⟨fl, zl, _⟩ := s.fr i l (hB l (by simp))
  refine ⟨l, rfl, o, fl, zl, fun m' o' om => put Z (L2.upd H l o') m' [l] (Same.refl _) (fun b u e => ?_) (fun b u e => ?_) s.fz (s.tz.upd fun vs z => OR.nt _ _ _ om l (by simp) vs (by rw [upd_same, z])) (fun j b hb nb => ?_) om (by simp) fun b hb => ?_⟩
  · rw [upd_ne (ne_of_none e zl)]; exact s.zh _ _ e
  · rw [upd_ne (ne_of_none e fl)]; exact s.fh _ _ e
  · have : b ≠ l := by simpa using nb
    exact ⟨upd_ne this, (s.fr j b hb).2.1, nb⟩
  · cases List.mem_singleton.mp hb
    exact ⟨fl, zl⟩
theorem one_lst {ds : List D} {x : V} : ∀ B, OR c Z H (.lst ds) x B → ∃ l, x = .ref l ∧ B = [l] := fun B o => by
  obtain ⟨l, vs, e1, e2, _⟩ := o
  exact ⟨l, e1, e2⟩
theorem one_dK {ks : List L2.Key} {ds : List D} {x : V} : ∀ B, OR c Z H (.dK ks ds) x B → ∃ l, x = .ref l ∧ B = [l] := fun B o => by
  obtain ⟨l, _, _, e1, e2, _⟩ := o
  exact ⟨l, e1, e2⟩
theorem one_dT {ks : List (List L2.Key)} {ds : List D} {x : V} : ∀ B, OR c Z H (.dT ks ds) x B → ∃ l, x = .ref l ∧ B = [l] := fun B o => by
  obtain ⟨l, _, _, e1, e2, _⟩ := o
  exact ⟨l, e1, e2⟩
theorem isF_pl {i : Nat} {f : Option Nat} (h : (R.pl i f).isF = true) : f.isSome = true := by
  cases f with
  | none => cases h
  | some _ => rfl
theorem resD {d : D} {x : V} (r : Rep c Z d x) : Res c F Z H σ τ A (.d d) x [] := ⟨⟨rfl, r⟩, List.nodup_nil, fun _ _ _ h => (by cases h), fun _ h => by cases h⟩
section
variable {X : Cx} {ea eb ec : Expr} {a b d : CE} {pos : Pos}
theorem s_bm {m : Bm} {e : Expr} {ces : CEs} (h : PE X e (tBM X.K "list" (rBm c m) (tE c G cl a) (tX c G cl ces))) : PE X e (tE c G cl (.bm m a ces)) :=
  pe_imp h fun σ H Q q => by
    obtain ⟨p, F, Z, τ, A, r, τ', s, e, k⟩ := q
    unfold evE at e
    split at e
    · rename_i i f τ1 e1
      split at e
      · cases e
      · rename_i np
        split at e
        · rename_i xs0 e2
          split at e
          · cases e
          · rename_i ds τ2 e3
            split at e
            · rename_i xs e4
              split at e
              · rename_i dd ys e5
                cases e
                refine one_op s e1 fun x H1 Z1 A1 po w => ?_
                have w1 : OpW c Z1 H1 σ (.pl i f) x := w
                obtain ⟨l, rfl, o1, _⟩ := cell_at po.st w1 e2 one_lst
                obtain ⟨l', vs1, q1, _, h1, r1⟩ := o1
                cases q1
                refine ⟨.inl ⟨rfl, vs1, SqL.of h1⟩, f.isSome, F, Z1, τ1, A1, ds, τ2, po.st, e3, fun xs2 H2 Z2 A2 po2 rl => ?_⟩
                have w2 := OpW.keep w1 po2 isF_pl
                obtain ⟨l2, q2, o2, _, _, put⟩ := cell_at po2.st w2 e4 one_lst
                cases q2
                obtain ⟨l3, ws, q3, _, h3, r3⟩ := o2
                cases q3
                refine ⟨Z2, l, xs, ws, ds, dd, ys, rfl, po2.st.zh, h3, r3, rl, e5, fun z ws' rw rz => ?_⟩
                obtain ⟨A', st⟩ := put (.lst ys) (.lst ws') ⟨l, ws', rfl, rfl, upd_same, rw⟩
                exact k z _ Z2 A' [] ⟨po.zz.trans po2.zz, st, fun hp => absurd hp np⟩ (resD rz)
              · cases e
            · cases e
        · cases e
    · cases e
theorem s_bm0 {m : Bm} {e : Expr} (h : PE X e (tBM0 X.K "list" (rBm c m) (tE c G cl a))) : PE X e (tE c G cl (.bm m a .nil)) :=
  pe_imp h fun σ H Q q => by
    obtain ⟨p, F, Z, τ, A, r, τ', s, e, k⟩ := q
    unfold evE at e
    split at e
    · rename_i i f τ1 e1
      split at e
      · cases e
      · rename_i np
        split at e
        · rename_i xs0 e2
          unfold evX at e
          simp only at e
          rw [e2] at e
          simp only at e
          split at e
          · rename_i dd ys e5
            cases e
            refine one_op s e1 fun x H1 Z1 A1 po w => ?_
            have w1 : OpW c Z1 H1 σ (.pl i f) x := w
            obtain ⟨l2, rfl, o2, _, _, put⟩ := cell_at po.st w1 e2 one_lst
            obtain ⟨l3, ws, q3, _, h3, r3⟩ := o2
            cases q3
            refine ⟨.inl ⟨rfl, ws, SqL.of h3⟩, Z1, l2, xs0, ws, [], dd, ys, rfl, po.st.zh, h3, r3, rfl, e5, fun z ws' rw rz => ?_⟩
            obtain ⟨A', st⟩ := put (.lst ys) (.lst ws') ⟨l2, ws', rfl, rfl, upd_same, rw⟩
            exact k z _ Z1 A' [] ⟨po.zz, st, fun hp => absurd hp np⟩ (resD rz)
          · cases e
        · cases e
    · cases e
/-- a slice's part -/
def tP (c : Cn) (G : GS) (cl : Caller) (e : CE) : TO := fun σ H Q => if isNonK e = true then Q none H else tE c G cl e σ H fun x H1 => ∃ i, x = .int i ∧ Q (some i) H1
theorem po_non {e : CE} (h : isNonK e = true) : PO X none (tP c G cl e) := ⟨fun pins s σ H Q I q => po_none.run pins s σ H Q I (by unfold tP at q; rw [if_pos h] at q; exact q)⟩
theorem po_ce {e : Expr} {ce : CE} (h : isNonK ce = false) (he : PE X e (tE c G cl ce)) : PO X (some e) (tP c G cl ce) := ⟨fun pins s σ H Q I q => (po_some he).run pins s σ H Q I (by unfold tP at q; rw [if_neg (by rw [h]; exact Bool.false_ne_true)] at q; exact q)⟩
theorem part_ok {lo : CE} {l : Option Int} (s : Sta c F Z H σ τ A) (h : (if isNonK lo = true then some (none, τ) else (match evE G cl p lo τ with
        | some (.d (.int l), τ2) => some (some l, τ2)
        | _ => none)) = some (l, τ2)) {R : Option Int → Hp → Prop} (k : ∀ H' Z' A', Post c p F Z H σ τ A τ2 H' Z' A' → R l H') : tP c G cl lo σ H R := by
  unfold tP
  by_cases z : isNonK lo = true
  · rw [if_pos z] at h ⊢
    cases h
    exact k H Z A (Post.refl s)
  · rw [if_neg z] at h ⊢
    split at h
    · rename_i i τ3 e1
      cases h
      exact one_op s e1 fun x H1 Z1 A1 po w => ⟨i, w, k H1 Z1 A1 po⟩
    · cases h
theorem s_slc (hK : X.K = c.K) {lo hi : CE} {elo ehi : Option Expr} {p2 : Pos} (ha : PE X ea (tE c G cl a)) (hl : PO X elo (tP c G cl lo)) (hh : PO X ehi (tP c G cl hi)) : PE X (.Subscript ea (.Slice elo ehi none p2) pos) (tE c G cl (.slc a lo hi)) :=
  pe_imp (pe_slice (slc_ok hK) ha hl hh) fun σ H Q q => by
    obtain ⟨p, F, Z, τ, A, r, τ', s, e, k⟩ := q
    unfold evE at e
    split at e
    · cases e
    · rename_i ra τ1 e1
      split at e
      · cases e
      · rename_i l τ2 e2
        split at e
        · cases e
        · rename_i h τ3 e3
          split at e
          · rename_i x l1
            cases e4 : slcP x l h with
            | none => rw [e4] at e; cases e
            | some r0 =>
              rw [e4] at e
              cases e
              refine one_op s e1 fun vx H1 Z1 A1 po1 w1 => ?_
              refine part_ok po1.st e2 fun H2 Z2 A2 po2 => ?_
              have w2 := OpW.keep w1 po2 (fun z => by rw [setl_isF] at z; rw [z]; simp)
              refine part_ok po2.st e3 fun H3 Z3 A3 po3 => ?_
              have w3 := OpW.keep w2 po3 (fun z => by rw [setl_isF] at z; rw [z]; simp)
              have po := (po1.trans po2 (fun z => by rw [z]; rfl)).trans po3 (fun z => by rw [z]; rfl)
              exact ⟨Z3, x, r, po3.st.zh, look_ok po3.st w3 l1, e4, fun z H' n => fin_new po n k⟩
          · cases e
theorem s_dct (t : Bool) {e : Expr} (h : PE X e (fun σ H Q => ∀ d, H d = none → Q (.ref d) (L2.upd H d (if t then .dT [] else .dK [])))) : PE X e (tE c G cl (.dct t)) :=
  pe_imp h fun σ H Q q => by
    obtain ⟨p, F, Z, τ, A, r, τ', s, e, k⟩ := q
    unfold evE at e
    cases e
    intro d hd
    have nz : Z d = none := s.zh.free hd
    have nf : F d = none := s.fh.free hd
    refine k _ _ Z A [d] (Post.grow s (Same.upd hd) (Same.refl _) (s.zh.trans (Same.upd hd)) s.fz (fun i b hb => (s.fr i b hb).2.1) (s.tz.upd fun _ z => by cases t <;> cases z)) ⟨?_, by simp, fun i b hb h => ?_, fun b h => ?_⟩
    · cases t with
      | true => exact ⟨d, [], [], rfl, rfl, upd_same, rfl, rfl, rfl⟩
      | false => exact ⟨d, [], [], rfl, rfl, upd_same, rfl, rfl, rfl⟩
    · have e : b = d := by simpa using h
      subst e; exact (s.fr i b hb).2.2 hd
    · have e : b = d := by simpa using h
      subst e; exact ⟨nf, nz, by rw [upd_same]; intro z; cases z⟩
/-- a new tuple of values, frozen -/
theorem tup_new {p : Bool} (s : Sta c F Z H σ τ A) {vs : List V} {ds : List D} (r : RepL c Z ds vs) {q : Addr} (hq : H q = none) : Post c p F Z H σ τ A τ (L2.upd H q (.tup vs)) (L2.upd Z q (.tup vs)) A := by
  have nz : Z q = none := s.zh.free hq
  have nf : F q = none := s.fh.free hq
  refine Post.grow s (Same.upd hq) (Same.upd nz) (fun b o e => ?_) (fun b o e => ?_) (fun i b hb => ?_) s.tz.new
  · by_cases z : b = q
    · subst z; rw [upd_same] at e ⊢; exact e
    · rw [upd_ne z] at e ⊢; exact s.zh _ _ e
  · by_cases z : b = q
    · subst z; exact nf
    · rw [upd_ne z] at e; exact s.fz _ _ e
  · have : b ≠ q := fun z => by subst z; exact (s.fr i b hb).2.2 hq
    rw [upd_ne this]
    exact (s.fr i b hb).2.1
theorem look_dT (s : Sta c F Z H σ τ A) {o : R} {x : V} {ks : List (List L2.Key)} {vs : List D} (q : OpW c Z H σ o x) (h : look τ o = some (.dT ks vs)) : ∃ a kvs, x = .ref a ∧ H a = some (.dT kvs) ∧ ks = kvs.map (·.1) ∧ RepL c Z vs (kvs.map (·.2)) := by
  obtain ⟨a, kvs, ws, e1, e2, e3, e4, r⟩ := look_ok s q h
  subst e4
  exact ⟨a, kvs, e1, e2, e3, r⟩
theorem look_dK (s : Sta c F Z H σ τ A) {o : R} {x : V} {ks : List L2.Key} {vs : List D} (q : OpW c Z H σ o x) (h : look τ o = some (.dK ks vs)) : ∃ a kvs, x = .ref a ∧ H a = some (.dK kvs) ∧ ks = kvs.map (·.1) ∧ RepL c Z vs (kvs.map (·.2)) := by
  obtain ⟨a, kvs, ws, e1, e2, e3, e4, r⟩ := look_ok s q h
  subst e4
  exact ⟨a, kvs, e1, e2, e3, r⟩
theorem s_kidx (hu : X.A.units + 65 < cLine) {es : List Expr} {ces : CEs} {k1 : Nat} {p2 : Pos} (ha : PE X ea (tE c G cl a)) (hes : PA X es (tX c G cl ces)) (hs : NoSl (.Tuple es k1 p2)) : PE X (.Subscript ea (.Tuple es k1 p2) pos) (tE c G cl (.kidx a ces)) :=
  pe_imp (pe_dget (by omega) ha (pe_tup hes) hs) fun σ H Q q => by
    obtain ⟨p, F, Z, τ, A, r, τ', s, e, k⟩ := q
    unfold evE at e
    split at e
    · cases e
    · rename_i ra τ1 e1
      split at e
      · cases e
      · rename_i ds τ2 e2
        split at e
        · rename_i ks vs q l1 e3
          split at e
          · rename_i hl
            cases e4 : dLook ks vs q with
            | none => rw [e4] at e; cases e
            | some dd =>
              rw [e4] at e
              cases e
              refine one_op s e1 fun x H1 Z1 A1 po1 w1 => ?_
              refine ⟨_, F, Z1, τ1, A1, ds, _, po1.st, e2, fun xs H2 Z2 A2 po2 rl => ?_⟩
              have w2 := OpW.keep w1 po2 (fun z => by rw [setl_isF] at z; rw [z]; simp)
              refine ⟨by rw [RepL.len _ _ rl, ← sl_eq]; exact hl, fun t ht => ?_⟩
              obtain ⟨ad, kvs, rfl, hd, rfl, rv⟩ := look_dT po2.st w2 l1
              obtain ⟨v, ev, rr⟩ := (dLook_rep rv).1 _ e4
              have ex := keysD_rep e3 rl
              have po := (po1.trans po2 (fun z => by rw [z]; rfl)).trans (tup_new (p := p) po2.st rl ht) id
              refine ⟨ad, v, rfl, by rw [← ev]; exact DGet.t (by rw [upd_ne (ne_of_none hd ht)]; exact hd) (by rw [upd_same, ex]), ?_⟩
              exact k v _ _ A2 [] po (resD (Rep.mono (Same.upd (po2.st.zh.free ht)) _ _ rr))
          · cases e
        · cases e
theorem kin_use {ces : CEs} {neg : Bool} {r : R} (s : Sta c F Z H σ τ A) (e : evE G cl p (.kin neg ces a) τ = some (r, τ')) {Q : VK} (k : ∀ w H' Z' A', Post c p F Z H σ τ A τ' H' Z' A' → r = .d (.bl w) → Q (.bl w) H') :
    tTup (tX c G cl ces) σ H fun y H1 => tE c G cl a σ H1 fun x H2 => ∃ ad o, x = .ref ad ∧ DGet H2 ad y o ∧ Q (.bl (if neg then !o.isSome else o.isSome)) H2 := by
  unfold evE at e
  split at e
  · cases e
  · rename_i ds τ1 e1
    split at e
    · cases e
    · rename_i ra τ2 e2
      split at e
      · rename_i ks vs q l1 e3
        split at e
        · rename_i hl
          cases e
          refine ⟨p, F, Z, τ, A, ds, τ1, s, e1, fun xs H1 Z1 A1 po1 rl => ⟨by rw [RepL.len _ _ rl, ← sl_eq]; exact hl, fun t ht => ?_⟩⟩
          have po2 := tup_new (p := p) po1.st rl ht
          refine one_op po2.st e2 fun x H3 Z3 A3 po3 w3 => ?_
          obtain ⟨ad, kvs, rfl, hd, rfl, rv⟩ := look_dT po3.st w3 l1
          have ex := keysD_rep e3 rl
          have ht3 : H3 t = some (.tup (q.map kV)) := by rw [← ex]; exact po3.st.zh _ _ (po3.zz _ _ upd_same)
          refine ⟨ad, _, rfl, DGet.t hd ht3, ?_⟩
          rw [← (dLook_rep rv).2]
          exact k _ _ _ _ ((po1.trans po2 id).trans po3 id) rfl
        · cases e
      · cases e
theorem s_kin (hu : X.A.units + 65 < cLine) {neg : Bool} {es : List Expr} {ces : CEs} {k1 : Nat} {p2 : Pos} (hm : behindInMarks (if neg then CmpOp.NotIn else CmpOp.In) ea = false) (ha : PE X ea (tE c G cl a)) (hes : PA X es (tX c G cl ces)) :
    PE X (.Compare (.Tuple es k1 p2) [if neg then .NotIn else .In] [ea] pos) (tE c G cl (.kin neg ces a)) := by
  cases neg with
  | true =>
    exact pe_imp (pe_cmp (pc_dnotin (by omega) (pe_tup hes) ha) hm) fun σ H Q q => by
      obtain ⟨p, F, Z, τ, A, r, τ', s, e, k⟩ := q
      exact kin_use s e fun w H' Z' A' po er => fin_new po (newd (d := .bl w) (z := .bl w) (show Rep c Z' (.bl w) (.bl w) by simp only [Rep])) (er ▸ k)
  | false =>
    exact pe_imp (pe_cmp (pc_din (by omega) (pe_tup hes) ha) hm) fun σ H Q q => by
      obtain ⟨p, F, Z, τ, A, r, τ', s, e, k⟩ := q
      exact kin_use s e fun w H' Z' A' po er => fin_new po (newd (d := .bl w) (z := .bl w) (show Rep c Z' (.bl w) (.bl w) by simp only [Rep])) (er ▸ k)
theorem t_kin (hu : X.A.units + 65 < cLine) {neg : Bool} {es : List Expr} {ces : CEs} {k1 : Nat} {p2 : Pos} (hm : behindInMarks (if neg then CmpOp.NotIn else CmpOp.In) ea = false) (ha : PE X ea (tE c G cl a)) (hes : PA X es (tX c G cl ces)) :
    PT X (.Compare (.Tuple es k1 p2) [if neg then .NotIn else .In] [ea] pos) (tT c G cl (.e (.kin neg ces a))) := by
  cases neg with
  | true =>
    exact pt_imp (pt_cmp (pc_dnotin (by omega) (pe_tup hes) ha) hm) fun σ H Q q => by
      obtain ⟨p, F, Z, τ, A, r, τ', s, e, k⟩ := q
      unfold evT at e
      split at e
      · rename_i b0 τ3 e0
        cases e
        exact kin_use (Q := fun x H1 => ∃ b, x = .bl b ∧ Q b H1) s e0 fun w H' Z' A' po er => by
          cases er
          exact ⟨_, rfl, k H' Z' A' po⟩
      · cases e
  | false =>
    exact pt_imp (pt_cmp (pc_din (by omega) (pe_tup hes) ha) hm) fun σ H Q q => by
      obtain ⟨p, F, Z, τ, A, r, τ', s, e, k⟩ := q
      unfold evT at e
      split at e
      · rename_i b0 τ3 e0
        cases e
        exact kin_use (Q := fun x H1 => ∃ b, x = .bl b ∧ Q b H1) s e0 fun w H' Z' A' po er => by
          cases er
          exact ⟨_, rfl, k H' Z' A' po⟩
      · cases e
/-- d.get(k, x) -/
theorem s_dget (hu : X.A.units + 65 < cLine) {e : Expr} (h : PE X e (tDGet2 (tE c G cl a) (tE c G cl b) (tE c G cl d))) : PE X e (tE c G cl (.dget a b d)) :=
  pe_imp h fun σ H Q q => by
    obtain ⟨p, F, Z, τ, A, r, τ', s, e, k⟩ := q
    unfold evE at e
    split at e
    · cases e
    · rename_i ro τ1 e1
      split at e
      · rename_i ks0 vs0 l0
        split at e
        · cases e
        · rename_i rk τ2 e2
          split at e
          · cases e
          · rename_i rx τ3 e3
            split at e
            · rename_i ks vs y dd l1 l2 l3
              split at e
              · rename_i q eq
                cases e
                refine one_op s e1 fun vx H1 Z1 A1 po w1 => ?_
                obtain ⟨a1, kvs1, rfl, h1, _, _⟩ := look_dK po.st w1 l0
                refine ⟨a1, rfl, .inl ⟨kvs1, .inl h1⟩, one_op po.st e2 fun vy H2 Z2 A2 po2 w2 => one_op po2.st e3 fun vz H3 Z3 A3 po3 w3 => ?_⟩
                have w1' := (w1.keep po2 (fun z => by rw [setl_isF] at z; rw [z]; simp)).keep po3 (fun z => by rw [setl_isF] at z; rw [z]; simp)
                have w2' := w2.keep po3 (fun z => by rw [setl_isF] at z; rw [z]; simp)
                obtain ⟨a2, kvs, q1, h2, rfl, rl⟩ := look_dK po3.st w1' l1
                cases q1
                have ky := keyD_rep eq (look_ok po3.st w2' l2)
                have pp : Post c p F Z H σ τ A _ H3 Z3 A3 := (po.trans po2 fun z => by rw [z]; rfl).trans po3 fun z => by rw [z]; rfl
                rw [l3] at w3
                refine ⟨valV kvs q, by rw [ky]; exact DGet.k h2, ?_⟩
                cases e4 : dLook (kvs.map (·.1)) vs q with
                | none =>
                  have e5 : valV kvs q = none := by
                    have := (dLook_rep (q := q) rl).2
                    rw [e4] at this
                    cases e6 : valV kvs q with
                    | none => rfl
                    | some _ => rw [e6] at this; cases this
                  rw [e5]
                  rw [e4] at k
                  exact fin_new pp (newd (d := dd) w3) k
                | some d0 =>
                  obtain ⟨w, e5, r5⟩ := (dLook_rep rl).1 _ e4
                  rw [e5]
                  rw [e4] at k
                  exact fin_new pp (newd (d := d0) r5) k
              · cases e
            · cases e
      · cases e
/-- xs.index(x) -/
theorem s_ixof (hK : X.K = c.K) {e : Expr} (h : PE X e (tBM X.K "list" (L2.rIndexD X.K) (tE c G cl a) (tCons (tE c G cl b) tNil))) : PE X e (tE c G cl (.ixof a b)) :=
  pe_imp h fun σ H Q q => by
    obtain ⟨p, F, Z, τ, A, r, τ', s, e, k⟩ := q
    unfold evE at e
    split at e
    · cases e
    · rename_i ro τ1 e1
      split at e
      · rename_i ys0 l0
        split at e
        · cases e
        · rename_i rx τ2 e2
          split at e
          · rename_i ys y l1 l2
            cases e3 : ixOfD y ys with
            | none => rw [e3] at e; cases e
            | some j =>
              rw [e3] at e
              cases e
              refine one_op s e1 fun vx H1 Z1 A1 po w1 => ?_
              obtain ⟨a1, us, rfl, h1, _⟩ := look_ok po.st w1 l0
              refine ⟨.inl ⟨rfl, us, SqL.of h1⟩, one_op po.st e2 fun vy H2 Z2 A2 po2 w2 => ?_⟩
              have w1' := w1.keep po2 (fun z => by rw [setl_isF] at z; rw [z]; simp)
              have v1 := look_ok po2.st w1' l1
              have v2 := look_ok po2.st w2 l2
              have pp : Post c p F Z H σ τ A _ H2 Z2 A2 := po.trans po2 fun z => by rw [z]; rfl
              unfold ixOfD at e3
              split at e3
              · rename_i pd pds t1 t2
                split at e3
                · rename_i hs
                  obtain ⟨s1, s2⟩ := Bool.and_eq_true_iff.mp hs
                  obtain ⟨hj, f1, f2⟩ := List.findIdx?_eq_some_iff_getElem.mp e3
                  refine ⟨a1, vy, pd, pds, j, pds[j], rfl, rfl, by rw [hK]; exact dp_list po2.st.zh t2 v1, by rw [hK]; exact Vw.dp po2.st.zh t1 v2, s2, s1, List.getElem?_eq_getElem hj, f1, fun m z' hm hz => ?_, fin_new pp (newd (d := .int (j : Nat)) (show Rep c Z2 _ (.int (j : Nat)) by simp only [Rep])) k⟩
                  obtain ⟨hl, rfl⟩ := List.getElem?_eq_some_iff.mp hz
                  simpa using f2 m hm
                · cases e3
              · cases e3
          · cases e
      · cases e
end
end
end Ev

/-! Ev, part I: what is walked, targets, comprehensions. -/
namespace Ev
open PySem L2 PyProof.Rows
/-- unpacking a tuple or a list -/
def gTL (K : PySem.W.Frag) (n : Nat) (t : TGs) : TG := fun v σ H Q => gTup K n t v σ H Q ∨ gUnl K n t v σ H Q
theorem pg_tl {X : Cx} {pos : Pos} {es : List Expr} {k : Nat} {t : TGs} {n : Nat} (h1 : PG X (.Tuple es k pos) (gTup X.K n t)) (h2 : PG X (.Tuple es k pos) (gUnl X.K n t)) : PG X (.Tuple es k pos) (gTL X.K n t) :=
  ⟨fun pins s σ H v u Q I r hw => hw.elim (fun h => h1.run pins s σ H v u Q I r h) fun h => h2.run pins s σ H v u Q I r h⟩
mutual
def gT (K : PySem.W.Frag) : Tg → TG
  | .one i => gName i
  | .tup ts => gTL K ts.len (gTs K ts)
def gTs (K : PySem.W.Frag) : Tgs → TGs
  | .nil => gNil
  | .cons t r => gCons (gT K t) (gTs K r)
end
mutual
def Tg.slots : Tg → List Nat
  | .one i => [i]
  | .tup ts => ts.slots
def Tgs.slots : Tgs → List Nat
  | .nil => []
  | .cons t r => t.slots ++ r.slots
end
section
variable {c : Cn} {G : GS} {cl : Caller} {F Z H : Hp} {σ : L2.St} {τ τ1 τ2 τ' : T} {A : Nat → List Addr} {p : Bool}
mutual
theorem bind_ok {io : List Nat} {Q : L2.St → Hp → Prop} : ∀ (tg : Tg) {d : D} {x : V} {σ : L2.St} {τ τ1 : T} {A : Nat → List Addr}, bindTg io tg d τ = some τ1 → Sta c F Z H σ τ A → Rep c Z d x →
    (∀ σ1 A1, Sta c F Z H σ1 τ1 A1 → σ1.length = σ.length → (∀ j, j ∉ tg.slots → σ1[j]? = σ[j]?) → (∀ j a, a ∈ A1 j → a ∈ A j) → Q σ1 H) → gT c.K tg x σ H Q
  | .one i, d, x, σ, τ, τ1, A, h, s, r, k => by
    unfold bindTg at h
    split at h
    · cases h
    · cases h
      by_cases li : i < σ.length
      · refine k _ _ (s.put (B' := []) (i := i) (σ' := σ.set i (some x)) (by rw [List.getElem?_set_self li]) (fun j hj => List.getElem?_set_ne (Ne.symm hj)) (by simp) (Same.refl _) s.zh s.fh s.fz s.tz ⟨rfl, r⟩ List.nodup_nil (fun j a _ ha => ⟨rfl, (s.fr j a ha).2.1, by simp⟩) (fun a ha => by cases ha)) (by simp) (fun j hj => ?_) fun j a ha => ?_
        · have : j ≠ i := by simpa [Tg.slots] using hj
          exact List.getElem?_set_ne (Ne.symm this)
        · by_cases z : j = i
          · subst z; rw [put1_same] at ha; cases ha
          · rw [put1_ne z] at ha; exact ha
      · have e1 : τ.set i (some (.v d)) = τ := List.set_eq_of_length_le (by rw [s.len]; omega)
        have e2 : σ.set i (some x) = σ := List.set_eq_of_length_le (by omega)
        show Q (σ.set i (some x)) H
        rw [e2]
        rw [e1] at k
        exact k σ A s rfl (fun _ _ => rfl) fun _ _ ha => ha
  | .tup ts, d, x, σ, τ, τ1, A, h, s, r, k => by
    unfold bindTg at h
    split at h
    · rename_i ds
      split at h
      · rename_i hl
        obtain ⟨a, vs, rfl, q, rl⟩ := r
        exact .inl ⟨a, vs, rfl, (sqT_mono s.zh q).sq, by rw [RepL.len _ _ rl]; exact hl, binds_ok ts h s rl hl k⟩
      · cases h
    · rename_i ds
      split at h
      · rename_i hl
        obtain ⟨a, vs, rfl, q, rl⟩ := r
        exact .inr ⟨a, vs, rfl, SqL.of (s.zh _ _ q), by rw [RepL.len _ _ rl]; exact hl, binds_ok ts h s rl hl k⟩
      · cases h
    · cases h
theorem binds_ok {io : List Nat} {Q : L2.St → Hp → Prop} : ∀ (ts : Tgs) {ds : List D} {xs : List V} {σ : L2.St} {τ τ1 : T} {A : Nat → List Addr}, bindTgs io ts ds τ = some τ1 → Sta c F Z H σ τ A → RepL c Z ds xs → ds.length = ts.len →
    (∀ σ1 A1, Sta c F Z H σ1 τ1 A1 → σ1.length = σ.length → (∀ j, j ∉ ts.slots → σ1[j]? = σ[j]?) → (∀ j a, a ∈ A1 j → a ∈ A j) → Q σ1 H) → gTs c.K ts xs σ H Q
  | .nil, ds, xs, σ, τ, τ1, A, h, s, r, hl, k => by
    cases ds with
    | cons d ds => cases hl
    | nil =>
      unfold bindTgs at h
      cases h
      exact ⟨r, k σ A s rfl (fun _ _ => rfl) fun _ _ ha => ha⟩
  | .cons t ts, [], xs, σ, τ, τ1, A, h, s, r, hl, k => by cases hl
  | .cons t ts, d :: ds, xs, σ, τ, τ1, A, h, s, r, hl, k => by
    obtain ⟨v, vs, rfl, r1, r2⟩ := r
    unfold bindTgs at h
    split at h
    · rename_i τ2 e1
      refine ⟨v, vs, rfl, bind_ok t e1 s r1 fun σ1 A1 s1 l1 o1 a1 => ?_⟩
      refine binds_ok ts h s1 r2 (by simpa [Tgs.len] using hl) fun σ2 A2 s2 l2 o2 a2 => ?_
      refine k σ2 A2 s2 (l2.trans l1) (fun j hj => ?_) fun j a ha => a1 j a (a2 j a ha)
      have hj' : j ∉ t.slots ++ ts.slots := hj
      rw [o2 j fun z => hj' (List.mem_append_right _ z), o1 j fun z => hj' (List.mem_append_left _ z)]
    · cases h
end
section
variable {X : Cx} {tg ea eb ec : Expr} {a b d : CE} {pos : Pos}
theorem i_e (hK : X.K = c.K) (he : PE X ea (tE c G cl a)) : PI X tg ea (tI c G cl (.e a)) := pi_imp (pi_seq he) fun σ H R q => by
  obtain ⟨p, F, Z, τ, A, ds, τ', s, e, k⟩ := q
  unfold evI at e
  split at e
  · cases e
  · rename_i r τ1 e1
    refine ⟨p, F, Z, τ, A, r, τ1, s, e1, fun x H1 Z1 A1 B po re => ?_⟩
    split at e
    · rename_i xs τ2 e2
      cases e
      obtain ⟨Z2, A2, po2, ad, vs, rfl, h1, h2⟩ := esc_ok po.st re e2
      exact ⟨ad, rfl, .inl ⟨vs, SqL.of (po2.st.zh _ _ h1), k _ _ Z2 A2 (po.trans po2 id) (wd_list h1 h2)⟩⟩
    · rename_i xs τ2 e2
      cases e
      obtain ⟨Z2, A2, po2, ad, vs, rfl, h1, h2⟩ := esc_ok po.st re e2
      exact ⟨ad, rfl, .inr ⟨vs, by rw [hK]; exact (sqT_mono po2.st.zh h1).sq, k _ _ Z2 A2 (po.trans po2 id) (wd_tup hK h1 h2)⟩⟩
    · rename_i ns τ2 e2
      cases e
      obtain ⟨Z2, A2, po2, ad, rfl, h1⟩ := esc_ok po.st re e2
      exact ⟨ad, rfl, .inl ⟨ns.map V.int, by rw [hK]; exact po2.st.zh.seq h1, k _ _ Z2 A2 (po.trans po2 id) (wd_scr hK h1)⟩⟩
    · cases e
theorem rngOk_of {i j : Int} (h : rngOk i j = true) : -(2 ^ 62) ≤ i ∧ i < 2 ^ 62 ∧ -(2 ^ 62) ≤ j ∧ j < 2 ^ 62 := of_decide_eq_true h
theorem i_rng1 {e : Expr} (h : PI X tg e (iRng1 (tCons (tE c G cl a) tNil))) : PI X tg e (tI c G cl (.rng1 a)) := pi_imp h fun σ H R q => by
  obtain ⟨p, F, Z, τ, A, ds, τ', s, e, k⟩ := q
  unfold evI at e
  split at e
  · rename_i i τ1 e1
    split at e
    · rename_i ok
      cases e
      obtain ⟨_, _, b1, b2⟩ := rngOk_of ok
      refine one_op s e1 fun x H1 Z1 A1 po w => ⟨i, by rw [show x = .int i from w], b1, b2, k _ _ Z1 A1 po ?_⟩
      have := wd_rng (c := c) (Z := Z1) 0 i
      rw [Int.sub_zero] at this
      exact this
    · cases e
  · cases e
theorem i_rng2 {e : Expr} (h : PI X tg e (iRng2 (tCons (tE c G cl a) (tCons (tE c G cl b) tNil)))) : PI X tg e (tI c G cl (.rng2 a b)) := pi_imp h fun σ H R q => by
  obtain ⟨p, F, Z, τ, A, ds, τ', s, e, k⟩ := q
  unfold evI at e
  split at e
  · rename_i i τ1 e1
    split at e
    · rename_i j τ2 e2
      split at e
      · rename_i ok
        cases e
        refine one_op s e1 fun x H1 Z1 A1 po w => one_op po.st e2 fun y H2 Z2 A2 po2 w2 => ?_
        exact ⟨i, j, by rw [show x = .int i from w, show y = .int j from w2], rngOk_of ok, k _ _ Z2 A2 (po.trans po2 id) (wd_rng i j)⟩
      · cases e
    · cases e
  · cases e
theorem i_enum (hK : X.K = c.K) {e : Expr} (h : PI X tg e (iEnumA X.K (tCons (tE c G cl a) tNil))) : PI X tg e (tI c G cl (.enum a)) := pi_imp h fun σ H R q => by
  obtain ⟨p, F, Z, τ, A, ds, τ', s, e, k⟩ := q
  unfold evI at e
  split at e
  · cases e
  · rename_i r τ1 e1
    refine ⟨p, F, Z, τ, A, r, τ1, s, e1, fun x H1 Z1 A1 B po re => ?_⟩
    split at e
    · rename_i xs τ2 e2
      cases e
      obtain ⟨Z2, A2, po2, ad, vs, rfl, h1, h2⟩ := esc_ok po.st re e2
      exact ⟨ad, rfl, .inl ⟨vs, SqL.of (po2.st.zh _ _ h1), k _ _ Z2 A2 (po.trans po2 id) (wd_enumL h1 h2)⟩⟩
    · rename_i xs τ2 e2
      cases e
      obtain ⟨Z2, A2, po2, ad, vs, rfl, h1, h2⟩ := esc_ok po.st re e2
      exact ⟨ad, rfl, .inr ⟨vs, by rw [hK]; exact (sqT_mono po2.st.zh h1).sq, k _ _ Z2 A2 (po.trans po2 id) (wd_enumT hK h1 h2)⟩⟩
    · cases e
theorem i_zip (hK : X.K = c.K) {e : Expr} (h : PI X tg e (RZ.iZipA X.K (tCons (tE c G cl a) (tCons (tE c G cl b) tNil)))) : PI X tg e (tI c G cl (.zip a b)) := pi_imp h fun σ H R q => by
  obtain ⟨p, F, Z, τ, A, ds, τ', s, e, k⟩ := q
  unfold evI at e
  split at e
  · cases e
  · rename_i ra τ1 e1
    split at e
    · cases e
    · rename_i x τ2 e2
      split at e
      · cases e
      · rename_i rb τ3 e3
        split at e
        · cases e
        · rename_i y τ4 e4
          refine ⟨p, F, Z, τ, A, ra, τ1, s, e1, fun vx H1 Z1 A1 B po re => ?_⟩
          obtain ⟨Z2, A2, po2, r1⟩ := esc_ok po.st re e2
          refine ⟨p, F, Z2, τ2, A2, rb, τ3, po2.st, e3, fun vy H3 Z3 A3 B3 po3 re3 => ?_⟩
          obtain ⟨Z4, A4, po4, r2⟩ := esc_ok po3.st re3 e4
          have r1' := Rep.mono (po3.zz.trans po4.zz) _ _ r1
          have pp := ((po.trans po2 id).trans po3 id).trans po4 id
          split at e
          · cases e
            obtain ⟨a1, vs, rfl, h1, h2⟩ := r1'
            obtain ⟨a2, ws, rfl, h3, h4⟩ := r2
            exact ⟨a1, a2, vs, ws, rfl, .inl ⟨SqL.of (po4.st.zh _ _ h1), SqL.of (po4.st.zh _ _ h3), k _ _ Z4 A4 pp (wd_zipL h1 h3 h2 h4)⟩⟩
          · cases e
            obtain ⟨a1, vs, rfl, h1, h2⟩ := r1'
            obtain ⟨a2, ws, rfl, h3, h4⟩ := r2
            exact ⟨a1, a2, vs, ws, rfl, .inr ⟨by rw [hK]; exact (sqT_mono po4.st.zh h1).sq, by rw [hK]; exact (sqT_mono po4.st.zh h3).sq, k _ _ Z4 A4 pp (wd_zipT hK h1 h3 h2 h4)⟩⟩
          · cases e
/-- list(range(..)), tuple(range(..)) -/
theorem rgv_rep (i j : Int) : RepL c Z (rngD i j) (rgV i j) := by
  have : ∀ (l : List Nat), RepL c Z (l.map fun (k : Nat) => D.int (i + (k : Int))) (l.map fun (k : Nat) => V.int (i + (k : Nat))) := by
    intro l
    induction l with
    | nil => rfl
    | cons k l ih => exact ⟨_, _, rfl, rfl, ih⟩
  exact this _
theorem rng_len (i j : Int) : (rngD i j).length = (j - i).toNat := by simp [rngD]
def tR (c : Cn) (G : GS) (cl : Caller) : CI → L2.St → Hp → (Int → Int → Hp → Prop) → Prop
  | .rng1 a => tRg1 (tE c G cl a)
  | .rng2 a b => tRg2 (tE c G cl a) (tE c G cl b)
  | _ => fun _ _ _ => True
/-- what a range gives -/
theorem rng_use {it : CI} {xs : List D} (hit : (∃ a, it = .rng1 a) ∨ ∃ a b, it = .rng2 a b) (s : Sta c F Z H σ τ A) (e : evI G cl p it τ = some (xs, τ')) {Q : Int → Int → Hp → Prop}
    (k : ∀ i j H' Z' A', Post c p F Z H σ τ A τ' H' Z' A' → xs = rngD i j → rngOk i j = true → Q i j H') : tR c G cl it σ H Q := by
  rcases hit with ⟨a, rfl⟩ | ⟨a, b, rfl⟩
  · unfold evI at e
    split at e
    · rename_i i τ1 e1
      split at e
      · rename_i ok
        cases e
        exact one_op s e1 fun x H1 Z1 A1 po w => ⟨i, w, k 0 i H1 Z1 A1 po rfl ok⟩
      · cases e
    · cases e
  · unfold evI at e
    split at e
    · rename_i i τ1 e1
      split at e
      · rename_i j τ2 e2
        split at e
        · rename_i ok
          cases e
          refine one_op s e1 fun x H1 Z1 A1 po w => one_op po.st e2 fun y H2 Z2 A2 po2 w2 => ?_
          exact ⟨i, j, w, w2, k i j H2 Z2 A2 (po.trans po2 id) rfl ok⟩
        · cases e
      · cases e
    · cases e
theorem rgok {i j : Int} (h : rngOk i j = true) (hl : (rngD i j).length ≤ SL) : RgOk i j := by
  obtain ⟨h1, h2, h3, h4⟩ := rngOk_of h
  exact ⟨h1, h2, h3, h4, by rw [rng_len] at hl; exact hl⟩
theorem s_lrng {it : CI} {e : Expr} (hit : (∃ a, it = .rng1 a) ∨ ∃ a b, it = .rng2 a b) (h : PE X e (tLstRg (tR c G cl it))) : PE X e (tE c G cl (.lrng it)) := pe_imp h fun σ H Q q => by
  obtain ⟨p, F, Z, τ, A, r, τ', s, e, k⟩ := q
  unfold evE at e
  split at e
  · rename_i xs τ1 e1
    split at e
    · rename_i hl
      cases e
      refine rng_use hit s e1 fun i j H1 Z1 A1 po ex ok => ?_
      subst ex
      exact ⟨rgok ok hl, fun q hq => fin_new po (.inr (.inr ⟨q, _, _, rfl, rfl, hq, rfl, rgv_rep i j⟩)) k⟩
    · cases e
  · cases e
theorem s_trng {it : CI} {e : Expr} (hit : (∃ a, it = .rng1 a) ∨ ∃ a b, it = .rng2 a b) (h : PE X e (tTupRg (tR c G cl it))) : PE X e (tE c G cl (.trng it)) := pe_imp h fun σ H Q q => by
  obtain ⟨p, F, Z, τ, A, r, τ', s, e, k⟩ := q
  unfold evE at e
  split at e
  · rename_i xs τ1 e1
    split at e
    · rename_i hl
      cases e
      refine rng_use hit s e1 fun i j H1 Z1 A1 po ex ok => ?_
      subst ex
      exact ⟨rgok ok hl, fun q hq => fin_new po (.inr (.inl ⟨q, _, _, rfl, rfl, hq, rfl, rgv_rep i j⟩)) k⟩
    · cases e
  · cases e
end
end
end Ev

/-! Ev, part J: list comprehensions. -/
namespace Ev
open PySem L2 PyProof.Rows
/-! ### names of a block hidden, and brought back -/
theorem hide_spec : ∀ {own : List Nat} {τ τ' : T}, hideO own τ = some τ' → τ'.length = τ.length ∧ (∀ j, j ∉ own → τ'[j]? = τ[j]?) ∧ ∀ j ∈ own, τ'[j]? = some none ∧ (τ[j]? = some none ∨ ∃ d, τ[j]? = some (some (.v d)))
  | [], τ, τ', h => by
    cases h
    exact ⟨rfl, fun _ _ => rfl, fun j hj => by cases hj⟩
  | i :: is, τ, τ', h => by
    unfold hideO at h
    split at h
    · rename_i τ1 e1
      obtain ⟨l, o, m⟩ := hide_spec e1
      split at h
      · rename_i e2
        cases h
        refine ⟨l, fun j hj => o j fun z => hj (List.mem_cons_of_mem _ z), fun j hj => ?_⟩
        rcases List.mem_cons.mp hj with rfl | hj
        · refine ⟨e2, ?_⟩
          by_cases z : j ∈ is
          · exact (m j z).2
          · rw [o j z] at e2
            exact .inl e2
        · exact m j hj
      · rename_i d e2
        cases h
        have li : i < τ1.length := (List.getElem?_eq_some_iff.mp e2).1
        refine ⟨by rw [List.length_set]; exact l, fun j hj => ?_, fun j hj => ?_⟩
        · have : j ≠ i := fun z => hj (by rw [z]; simp)
          rw [List.getElem?_set_ne (Ne.symm this)]
          exact o j fun z => hj (List.mem_cons_of_mem _ z)
        · by_cases z : j = i
          · subst z
            refine ⟨List.getElem?_set_self li, ?_⟩
            by_cases z : j ∈ is
            · exact (m j z).2
            · rw [o j z] at e2
              exact .inr ⟨d, e2⟩
          · rw [List.getElem?_set_ne (Ne.symm z)]
            rcases List.mem_cons.mp hj with y | hj
            · exact absurd y z
            · exact m j hj
      · cases h
    · cases h
theorem back_len {τ0 : T} : ∀ (own : List Nat) (τ : T), (backO τ0 own τ).length = τ.length
  | [], τ => rfl
  | i :: is, τ => by rw [backO, List.length_set, back_len is]
theorem back_spec {τ0 : T} : ∀ (own : List Nat) (τ : T) (j : Nat), (backO τ0 own τ)[j]? = if j ∈ own then (if j < τ.length then some ((τ0[j]?).getD none) else none) else τ[j]?
  | [], τ, j => by simp [backO]
  | i :: is, τ, j => by
    rw [backO]
    by_cases z : j = i
    · subst z
      rw [if_pos (by simp)]
      by_cases l : j < τ.length
      · rw [if_pos l, List.getElem?_set_self (by rw [back_len]; exact l)]
      · rw [if_neg l]
        exact List.getElem?_eq_none (by rw [List.length_set, back_len]; omega)
    · rw [List.getElem?_set_ne (Ne.symm z), back_spec is τ j]
      have : (j ∈ i :: is) ↔ j ∈ is := by simp [z]
      simp [this]
theorem wipe_in {σ : L2.St} : ∀ {own : List Nat} {j : Nat}, j ∈ own → j < σ.length → (L2.wipe σ own)[j]? = some none
  | i :: is, j, h, l => by
    unfold L2.wipe
    by_cases z : j = i
    · subst z
      exact List.getElem?_set_self (by rw [wipe_length]; exact l)
    · rw [List.getElem?_set_ne (Ne.symm z)]
      rcases List.mem_cons.mp h with y | h
      · exact absurd y z
      · exact wipe_in h l
theorem wipe_eq {σ σ2 : L2.St} {own : List Nat} (hl : σ2.length = σ.length) (h : ∀ j, j ∉ own → σ2[j]? = (L2.wipe σ own)[j]?) : L2.wipe σ2 own = L2.wipe σ own := by
  apply List.ext_getElem?
  intro j
  by_cases z : j ∈ own
  · by_cases l : j < σ.length
    · rw [wipe_in z (by omega), wipe_in z l]
    · rw [List.getElem?_eq_none (by rw [wipe_length]; omega), List.getElem?_eq_none (by rw [wipe_length]; omega)]
  · rw [wipe_out z, h j z]
section
variable {c : Cn} {G : GS} {cl : Caller} {F Z H : Hp} {σ : L2.St} {τ τ1 τ2 τ' : T} {A : Nat → List Addr} {p : Bool}
theorem Sta.hide (s : Sta c F Z H σ τ A) {own : List Nat} (h : hideO own τ = some τ') : ∃ A', Sta c F Z H (L2.wipe σ own) τ' A' ∧ ∀ j a, a ∈ A' j → a ∈ A j := by
  obtain ⟨l, o, m⟩ := hide_spec h
  have sub : ∀ j a, a ∈ (fun j => if j ∈ own then [] else A j) j → j ∉ own ∧ a ∈ A j := fun j a ha => by
    have ha' : a ∈ (if j ∈ own then [] else A j) := ha
    by_cases z : j ∈ own
    · rw [if_pos z] at ha'; cases ha'
    · rw [if_neg z] at ha'; exact ⟨z, ha'⟩
  refine ⟨fun j => if j ∈ own then [] else A j, ⟨s.fh, s.zh, s.fz, by rw [l, wipe_length]; exact s.len, fun j m' e => ?_, fun j => ?_, fun i j a h1 h2 => s.dj i j a (sub i a h1).2 (sub j a h2).2, fun j a ha => s.fr j a (sub j a ha).2, s.tz⟩, fun j a ha => (sub j a ha).2⟩
  · by_cases z : j ∈ own
    · rw [(m j z).1] at e; cases e
    · rw [o j z] at e
      obtain ⟨v, e1, q⟩ := s.own j m' e
      exact ⟨v, by rw [wipe_out z]; exact e1, by simp only [if_neg z]; exact q⟩
  · by_cases z : j ∈ own
    · simp only [if_pos z]; exact List.nodup_nil
    · simp only [if_neg z]; exact s.nd j
/-- behind the walk the hidden names stand again -/
theorem Sta.back {F1 Z1 H1 : Hp} {A1 A3 : Nat → List Addr} {τ3 : T} {own : List Nat} (s1 : Sta c F1 Z1 H1 σ τ1 A1) (h : hideO own τ1 = some τ2) (zz : Same Z1 Z) (s3 : Sta c F Z H (L2.wipe σ own) τ3 A3) : ∃ A4, Sta c F Z H σ (backO τ1 own τ3) A4 ∧ ∀ j a, a ∈ A4 j → a ∈ A3 j := by
  obtain ⟨l, o, m⟩ := hide_spec h
  have l3 : τ3.length = σ.length := by rw [s3.len, wipe_length]
  have sub : ∀ j a, a ∈ (fun j => if j ∈ own then [] else A3 j) j → j ∉ own ∧ a ∈ A3 j := fun j a ha => by
    have ha' : a ∈ (if j ∈ own then [] else A3 j) := ha
    by_cases z : j ∈ own
    · rw [if_pos z] at ha'; cases ha'
    · rw [if_neg z] at ha'; exact ⟨z, ha'⟩
  refine ⟨fun j => if j ∈ own then [] else A3 j, ⟨s3.fh, s3.zh, s3.fz, by rw [back_len]; exact l3, fun j m' e => ?_, fun j => ?_, fun i j a h1 h2 => s3.dj i j a (sub i a h1).2 (sub j a h2).2, fun j a ha => s3.fr j a (sub j a ha).2, s3.tz⟩, fun j a ha => (sub j a ha).2⟩
  · rw [back_spec] at e
    by_cases z : j ∈ own
    · rw [if_pos z] at e
      by_cases lj : j < τ3.length
      · rw [if_pos lj] at e
        rcases (m j z).2 with q | ⟨d, q⟩
        · rw [q] at e; cases e
        · rw [q] at e
          cases e
          obtain ⟨v, e1, r⟩ := s1.own j _ q
          exact ⟨v, e1, by simp only [if_pos z]; exact ⟨rfl, Rep.mono zz d v r.2⟩⟩
      · rw [if_neg lj] at e; cases e
    · rw [if_neg z] at e
      obtain ⟨v, e1, q⟩ := s3.own j m' e
      exact ⟨v, by rw [wipe_out z] at e1; exact e1, by simp only [if_neg z]; exact q⟩
  · by_cases z : j ∈ own
    · simp only [if_pos z]; exact List.nodup_nil
    · simp only [if_neg z]; exact s3.nd j
theorem NewR.dval {d : D} {z : V} {H' : Hp} (s : Sta c F Z H σ τ A) (n : NewR c Z H (.d d) z H') : ∃ Z', Same Z Z' ∧ Sta c F Z' H' σ τ A ∧ Rep c Z' d z ∧ Same H H' ∧ ∀ a, H a ≠ none → Z a = none → Z' a = none := by
  rcases n with ⟨d', e, rfl, q⟩ | ⟨a, vs, ds, e, rfl, na, rfl, q⟩ | ⟨a, vs, ds, e, _⟩
  · cases e
    exact ⟨Z, Same.refl _, s, q, Same.refl _, fun _ _ z => z⟩
  · cases e
    have po := tup_new (p := true) s q na
    exact ⟨_, po.zz, po.st, ⟨a, vs, rfl, upd_same, RepL.mono po.zz ds vs q⟩, Same.upd na, fun b hb z => by
      rw [upd_ne (fun y => hb (by rw [y]; exact na))]; exact z⟩
  · cases e
section
variable {X : Cx} {tg elt iter : Expr} {a b d : CE} {pos : Pos}
def tElt (c : Cn) (G : GS) (cl : Caller) (e : CE) : TE := tE c G cl e
/-- a comprehension's turns -/
theorem lc_turns {own : List Nat} {tgt : Tg} {t : CT} {ce : CE} {J : It} {ds out : List D} {τ3 : T} {Z1 H1 : Hp} {A1 : Nat → List Addr} {D : Addr} {Qd : Hp → Prop} (wd : WalkD c Z1 J ds) (hown : ∀ i ∈ tgt.slots, i ∈ own) (sD : H1 D = none)
    (s1 : Sta c F Z1 H1 (L2.wipe σ own) τ2 A1)
    (e : compL (bindTg [] tgt) (evT G cl p t) (fun t => match evE G cl p ce t with
          | some (r, t') => esc p t' r
          | none => none) own ds [] τ2 = some (out, τ3))
    (k : ∀ H' Z' A' vs, Same Z1 Z' → Sta c F Z' H' (L2.wipe σ own) τ3 A' → Z' D = none → (∀ i, D ∉ A' i) → H' D = some (.lst vs) → RepL c Z' out vs → Qd H') :
    ∃ W : Nat → Nat → Hp → Prop, (∃ m, W 0 m (L2.upd H1 D (.lst []))) ∧ ∀ i m H, W i m H →
      (J.stop i H ∧ Qd H) ∨ (J.go i H ∧ ∃ Nx : Hp → Prop, (∀ H', Nx H' → ∃ m', m' < m ∧ W (i + 1) m' H') ∧ ∀ x H', J.yld i H x H' → gT c.K tgt x (L2.wipe σ own) H' fun σ2 H2 => L2.wipe σ2 own = L2.wipe σ own ∧ tT c G cl t σ2 H2 fun b H3 =>
        if b = true then tE c G cl ce σ2 H3 fun y H4 => ∃ acc, H4 D = some (.lst acc) ∧ acc.length < sizeLine ∧ Nx (L2.upd H4 D (.lst (acc ++ [y]))) else Nx H3) := by
  have fD : F D = none := s1.fh.free sD
  refine lc_it wd (fun i H => ∃ Z' τi Ai acc vs, Same Z1 Z' ∧ Sta c F Z' H (L2.wipe σ own) τi Ai ∧ Z' D = none ∧ (∀ j, D ∉ Ai j) ∧ H D = some (.lst vs) ∧ RepL c Z' acc vs ∧ compL (bindTg [] tgt) (evT G cl p t) (fun t => match evE G cl p ce t with
          | some (r, t') => esc p t' r
          | none => none) own (ds.drop i) acc τi = some (out, τ3)) ?_ ?_ ?_ ?_
  · have g : Same H1 (L2.upd H1 D (.lst [])) := Same.upd sD
    exact ⟨Z1, τ2, A1, [], [], Same.refl _, s1.grow g (s1.tz.upd fun _ z => by cases z), s1.zh.free sD, fun j z => (s1.fr j D z).2.2 sD, upd_same, rfl, e⟩
  · rintro i H _ ⟨Z', τi, Ai, acc, vs, zz, st, _⟩
    exact zz.trans st.zh
  · rintro i x H H' hi ⟨Z', τi, Ai, acc, vs, zz, st, zD, aD, hD, rl, ev⟩ ⟨dd, hd, nw⟩
    have dr : ds.drop i = dd :: ds.drop (i + 1) := by
      rw [List.getElem?_eq_some_iff] at hd
      obtain ⟨l, e⟩ := hd
      rw [List.drop_eq_getElem_cons l, e]
    rw [dr] at ev
    unfold compL at ev
    have nw' : NewR c Z' H (.d dd) x H' := by
      rcases nw with ⟨d', e1, e2, q⟩ | ⟨a, vs, ds', e1, e2, na, e3, q⟩ | ⟨a, vs, ds', e1, _⟩
      · exact .inl ⟨d', e1, e2, Rep.mono zz _ _ q⟩
      · exact .inr (.inl ⟨a, vs, ds', e1, e2, na, e3, RepL.mono zz _ _ q⟩)
      · cases e1
    obtain ⟨Z2, z2, s2, rd, hh, zk⟩ := NewR.dval st nw'
    have hD' : H' D = some (.lst vs) := hh _ _ hD
    have zD2 : Z2 D = none := zk D (by rw [hD]; intro z; cases z) zD
    split at ev
    · cases ev
    · rename_i τ1 e1
      split at ev
      · cases ev
      · rename_i b0 τ4 e2
        -- the new list is kept apart
        have sF : Sta c (fzw F H' [D]) Z2 H' (L2.wipe σ own) τi Ai := s2.fin fun q hq => by
          cases List.mem_singleton.mp hq
          exact ⟨zD2, aD⟩
        have un : ∀ {Z5 H5 : Hp} {σ5 : L2.St} {τ5 : T} {A5 : Nat → List Addr}, Sta c (fzw F H' [D]) Z5 H5 σ5 τ5 A5 → Sta c F Z5 H5 σ5 τ5 A5 ∧ H5 D = some (.lst vs) ∧ Z5 D = none ∧ ∀ i, D ∉ A5 i := fun {Z5 H5 σ5 τ5 A5} s5 => by
          obtain ⟨q1, q2⟩ := s5.fout (F := F) fun q hq => by
            cases List.mem_singleton.mp hq
            exact ⟨fD, by rw [hD']; intro z; cases z⟩
          obtain ⟨k1, k2, k3⟩ := q2 D (by simp)
          exact ⟨q1, by rw [k1]; exact hD', k2, k3⟩
        refine bind_ok tgt e1 sF rd fun σ5 A5 s5 l5 o5 _ => ⟨wipe_eq (by rw [l5, wipe_length]) fun j hj => o5 j fun z => hj (hown j z), ?_⟩
        refine ⟨p, _, Z2, τ1, A5, b0, τ4, s5, e2, fun H6 Z6 A6 po6 => ?_⟩
        have wq : L2.wipe σ5 own = L2.wipe σ own := wipe_eq (by rw [l5, wipe_length]) fun j hj => o5 j fun z => hj (hown j z)
        cases b0 with
        | false =>
          refine iteF ?_
          simp only at ev
          split at ev
          · rename_i τ5 e5
            obtain ⟨A7, s7, sub7⟩ := po6.st.hide e5
            rw [wq] at s7
            obtain ⟨s8, k1, k2, k3⟩ := un s7
            exact ⟨Z6, τ5, A7, acc, vs, (zz.trans z2).trans po6.zz, s8, k2, k3, k1, RepL.mono (z2.trans po6.zz) _ _ rl, ev⟩
          · cases ev
        | true =>
          refine iteT ?_
          simp only at ev
          split at ev
          · cases ev
          · rename_i dd2 τ5 e5
            split at ev
            · rename_i hl
              split at ev
              · rename_i τ6 e6
                split at e5
                · rename_i r0 t0 e7
                  refine ⟨p, _, Z6, τ4, A6, r0, t0, po6.st, e7, fun y H7 Z7 A7 B7 po7 re7 => ?_⟩
                  obtain ⟨Z8, A8, po8, ry⟩ := esc_ok po7.st re7 e5
                  obtain ⟨A9, s9, sub9⟩ := po8.st.hide e6
                  rw [wq] at s9
                  obtain ⟨s10, k1, k2, k3⟩ := un s9
                  have rl' := RepL.mono (((z2.trans po6.zz).trans po7.zz).trans po8.zz) _ _ rl
                  refine ⟨vs, k1, by rw [RepL.len _ _ rl', ← sl_eq]; exact hl, Z8, τ6, A9, acc ++ [dd2], vs ++ [y], (((zz.trans z2).trans po6.zz).trans po7.zz).trans po8.zz, ?_, k2, k3, upd_same, RepL.append _ _ _ _ rl' (RepL.one ry), ev⟩
                  -- the list has grown
                  refine ⟨fun b u e => ?_, fun b u e => ?_, s10.fz, s10.len, fun j m e => ?_, s10.nd, s10.dj, fun j b hb => ?_, s10.tz.upd fun _ z => by cases z⟩
                  · rw [upd_ne (ne_of_none e fD)]; exact s10.fh _ _ e
                  · rw [upd_ne (ne_of_none e k2)]; exact s10.zh _ _ e
                  · obtain ⟨v, q1, q2⟩ := s10.own j m e
                    exact ⟨v, q1, OR.keep (Same.refl _) m v (A9 j) (fun b hb => upd_ne fun z => k3 j (by rw [← z]; exact hb)) q2⟩
                  · obtain ⟨q1, q2, q3⟩ := s10.fr j b hb
                    exact ⟨q1, q2, by rw [upd_ne fun z => k3 j (by rw [← z]; exact hb)]; exact q3⟩
                · cases e5
              · cases ev
            · cases ev
  · rintro H ⟨Z', τi, Ai, acc, vs, zz, st, zD, aD, hD, rl, ev⟩
    rw [List.drop_length] at ev
    unfold compL at ev
    cases ev
    exact k H Z' Ai vs zz st zD aD hD rl
theorem lc_use {own : List Nat} {tgt : Tg} {it : CI} {t : CT} {ce : CE} {r : R} (s : Sta c F Z H σ τ A) (hown : ∀ i ∈ tgt.slots, i ∈ own) (e : evE G cl p (.lc own tgt it t ce) τ = some (r, τ')) {Q : VK} (k : ∀ x H' Z' A' B, Post c p F Z H σ τ A τ' H' Z' A' → Res c F Z' H' σ τ' A' r x B → Q x H') :
    tLc (tI c G cl it) (gT c.K tgt) (tT c G cl t) (tE c G cl ce) own σ H Q := by
  unfold evE at e
  split at e
  · cases e
  · rename_i np
    split at e
    · cases e
    · rename_i xs τ1 e1
      split at e
      · cases e
      · rename_i τ2 e2
        split at e
        · cases e
        · rename_i ds τ3 e3
          cases e
          refine ⟨p, F, Z, τ, A, xs, τ1, s, e1, fun J H1 Z1 A1 po wd D hD => ?_⟩
          obtain ⟨A2, s2, sub2⟩ := po.st.hide e2
          refine lc_turns wd hown hD s2 e3 fun H' Z' A' vs zz st zD aD hD' rl => ?_
          obtain ⟨A4, s4, sub4⟩ := Sta.back po.st e2 zz st
          refine k _ H' Z' A4 [D] ⟨po.zz.trans zz, s4, fun hp => absurd hp np⟩ ⟨⟨D, vs, rfl, rfl, hD', rl⟩, by simp, fun i q hq h => ?_, fun q hq => ?_⟩
          · cases List.mem_singleton.mp h
            exact aD i (sub4 i _ hq)
          · cases List.mem_singleton.mp hq
            exact ⟨po.st.fh.free hD, zD, by rw [hD']; intro z; cases z⟩
theorem s_lc {own : List (Str × Nat)} {tgt : Tg} {it : CI} {t : CT} {ce : CE} {e : Expr} (hown : ∀ i ∈ tgt.slots, i ∈ own.map (·.2)) (h : PE X e (tLc (tI c G cl it) (gT c.K tgt) (tT c G cl t) (tE c G cl ce) (own.map (·.2)))) : PE X e (tE c G cl (.lc (own.map (·.2)) tgt it t ce)) :=
  pe_imp h fun σ H Q q => by
    obtain ⟨p, F, Z, τ, A, r, τ', s, e, k⟩ := q
    exact lc_use s hown e k
theorem it_walk {J : It} {n : Nat} {G0 : Hp → Prop} {Y : Nat → Hp → V → Hp → Prop} (w : Walk J n G0 Y) {Hs : Hp} {Qd : Hp → Prop} (Bd : V → Hp → (Hp → Prop) → Prop) (Pv : Nat → Hp → Prop) (h0 : Pv 0 Hs) (hG : ∀ i H, i ≤ n → Pv i H → G0 H)
    (hs : ∀ i x H H', i < n → Pv i H → Y i H x H' → Bd x H' (Pv (i + 1))) (hd : ∀ H, Pv n H → Qd H) :
    ∃ W : Nat → Nat → Hp → Prop, (∃ m, W 0 m Hs) ∧ ∀ i m H, W i m H →
      (J.stop i H ∧ Qd H) ∨ (J.go i H ∧ ∃ Nx : Hp → Prop, (∀ H', Nx H' → ∃ m', m' < m ∧ W (i + 1) m' H') ∧ ∀ x H', J.yld i H x H' → Bd x H' Nx) := by
  refine ⟨fun i m H => m = n - i ∧ i ≤ n ∧ Pv i H, ⟨n, by simp, Nat.zero_le _, h0⟩, ?_⟩
  rintro i m H ⟨rfl, hi, p⟩
  have q := hG i H hi p
  by_cases hlt : i < n
  · refine .inr ⟨w.goes i H hlt q, Pv (i + 1), fun H' p' => ⟨n - (i + 1), by omega, rfl, hlt, p'⟩, fun x H' y => hs i x H H' hlt p (w.yields i H x H' hlt q y)⟩
  · have e : i = n := by omega
    subst e
    exact .inl ⟨w.stops H q, hd H p⟩
/-- a comprehension's turns, from some things on -/
theorem lc_turns' {own : List Nat} {tgt : Tg} {t : CT} {ce : CE} {J : It} {ds out acc0 : List D} {vs0 : List V} {τ3 : T} {Z1 H1 : Hp} {A1 : Nat → List Addr} {D : Addr} {Qd : Hp → Prop} (wd : WalkD c Z1 J ds) (hown : ∀ i ∈ tgt.slots, i ∈ own) (fD : F D = none) (sD : H1 D = some (.lst vs0)) (zD0 : Z1 D = none) (aD0 : ∀ i, D ∉ A1 i) (rl0 : RepL c Z1 acc0 vs0)
    (s1 : Sta c F Z1 H1 (L2.wipe σ own) τ2 A1)
    (e : compL (bindTg [] tgt) (evT G cl p t) (fun t => match evE G cl p ce t with
          | some (r, t') => esc p t' r
          | none => none) own ds acc0 τ2 = some (out, τ3))
    (k : ∀ H' Z' A' vs, Same Z1 Z' → Sta c F Z' H' (L2.wipe σ own) τ3 A' → Z' D = none → (∀ i, D ∉ A' i) → H' D = some (.lst vs) → RepL c Z' out vs → Qd H') :
    ∃ W : Nat → Nat → Hp → Prop, (∃ m, W 0 m H1) ∧ ∀ i m H, W i m H →
      (J.stop i H ∧ Qd H) ∨ (J.go i H ∧ ∃ Nx : Hp → Prop, (∀ H', Nx H' → ∃ m', m' < m ∧ W (i + 1) m' H') ∧ ∀ x H', J.yld i H x H' → gT c.K tgt x (L2.wipe σ own) H' fun σ2 H2 => L2.wipe σ2 own = L2.wipe σ own ∧ tT c G cl t σ2 H2 fun b H3 =>
        if b = true then tE c G cl ce σ2 H3 fun y H4 => ∃ acc, H4 D = some (.lst acc) ∧ acc.length < sizeLine ∧ Nx (L2.upd H4 D (.lst (acc ++ [y]))) else Nx H3) := by
  refine it_walk wd (fun x H' Nx => gT c.K tgt x (L2.wipe σ own) H' fun σ2 H2 => L2.wipe σ2 own = L2.wipe σ own ∧ tT c G cl t σ2 H2 fun b H3 =>
        if b = true then tE c G cl ce σ2 H3 fun y H4 => ∃ acc, H4 D = some (.lst acc) ∧ acc.length < sizeLine ∧ Nx (L2.upd H4 D (.lst (acc ++ [y]))) else Nx H3) (fun i H => ∃ Z' τi Ai acc vs, Same Z1 Z' ∧ Sta c F Z' H (L2.wipe σ own) τi Ai ∧ Z' D = none ∧ (∀ j, D ∉ Ai j) ∧ H D = some (.lst vs) ∧ RepL c Z' acc vs ∧ compL (bindTg [] tgt) (evT G cl p t) (fun t => match evE G cl p ce t with
          | some (r, t') => esc p t' r
          | none => none) own (ds.drop i) acc τi = some (out, τ3)) ?_ ?_ ?_ ?_
  · exact ⟨Z1, τ2, A1, acc0, vs0, Same.refl _, s1, zD0, aD0, sD, rl0, e⟩
  · rintro i H _ ⟨Z', τi, Ai, acc, vs, zz, st, _⟩
    exact zz.trans st.zh
  · rintro i x H H' hi ⟨Z', τi, Ai, acc, vs, zz, st, zD, aD, hD, rl, ev⟩ ⟨dd, hd, nw⟩
    have dr : ds.drop i = dd :: ds.drop (i + 1) := by
      rw [List.getElem?_eq_some_iff] at hd
      obtain ⟨l, e⟩ := hd
      rw [List.drop_eq_getElem_cons l, e]
    rw [dr] at ev
    unfold compL at ev
    have nw' : NewR c Z' H (.d dd) x H' := by
      rcases nw with ⟨d', e1, e2, q⟩ | ⟨a, vs, ds', e1, e2, na, e3, q⟩ | ⟨a, vs, ds', e1, _⟩
      · exact .inl ⟨d', e1, e2, Rep.mono zz _ _ q⟩
      · exact .inr (.inl ⟨a, vs, ds', e1, e2, na, e3, RepL.mono zz _ _ q⟩)
      · cases e1
    obtain ⟨Z2, z2, s2, rd, hh, zk⟩ := NewR.dval st nw'
    have hD' : H' D = some (.lst vs) := hh _ _ hD
    have zD2 : Z2 D = none := zk D (by rw [hD]; intro z; cases z) zD
    split at ev
    · cases ev
    · rename_i τ1 e1
      split at ev
      · cases ev
      · rename_i b0 τ4 e2
        -- the new list is kept apart
        have sF : Sta c (fzw F H' [D]) Z2 H' (L2.wipe σ own) τi Ai := s2.fin fun q hq => by
          cases List.mem_singleton.mp hq
          exact ⟨zD2, aD⟩
        have un : ∀ {Z5 H5 : Hp} {σ5 : L2.St} {τ5 : T} {A5 : Nat → List Addr}, Sta c (fzw F H' [D]) Z5 H5 σ5 τ5 A5 → Sta c F Z5 H5 σ5 τ5 A5 ∧ H5 D = some (.lst vs) ∧ Z5 D = none ∧ ∀ i, D ∉ A5 i := fun {Z5 H5 σ5 τ5 A5} s5 => by
          obtain ⟨q1, q2⟩ := s5.fout (F := F) fun q hq => by
            cases List.mem_singleton.mp hq
            exact ⟨fD, by rw [hD']; intro z; cases z⟩
          obtain ⟨k1, k2, k3⟩ := q2 D (by simp)
          exact ⟨q1, by rw [k1]; exact hD', k2, k3⟩
        refine bind_ok tgt e1 sF rd fun σ5 A5 s5 l5 o5 _ => ⟨wipe_eq (by rw [l5, wipe_length]) fun j hj => o5 j fun z => hj (hown j z), ?_⟩
        refine ⟨p, _, Z2, τ1, A5, b0, τ4, s5, e2, fun H6 Z6 A6 po6 => ?_⟩
        have wq : L2.wipe σ5 own = L2.wipe σ own := wipe_eq (by rw [l5, wipe_length]) fun j hj => o5 j fun z => hj (hown j z)
        cases b0 with
        | false =>
          refine iteF ?_
          simp only at ev
          split at ev
          · rename_i τ5 e5
            obtain ⟨A7, s7, sub7⟩ := po6.st.hide e5
            rw [wq] at s7
            obtain ⟨s8, k1, k2, k3⟩ := un s7
            exact ⟨Z6, τ5, A7, acc, vs, (zz.trans z2).trans po6.zz, s8, k2, k3, k1, RepL.mono (z2.trans po6.zz) _ _ rl, ev⟩
          · cases ev
        | true =>
          refine iteT ?_
          simp only at ev
          split at ev
          · cases ev
          · rename_i dd2 τ5 e5
            split at ev
            · rename_i hl
              split at ev
              · rename_i τ6 e6
                split at e5
                · rename_i r0 t0 e7
                  refine ⟨p, _, Z6, τ4, A6, r0, t0, po6.st, e7, fun y H7 Z7 A7 B7 po7 re7 => ?_⟩
                  obtain ⟨Z8, A8, po8, ry⟩ := esc_ok po7.st re7 e5
                  obtain ⟨A9, s9, sub9⟩ := po8.st.hide e6
                  rw [wq] at s9
                  obtain ⟨s10, k1, k2, k3⟩ := un s9
                  have rl' := RepL.mono (((z2.trans po6.zz).trans po7.zz).trans po8.zz) _ _ rl
                  refine ⟨vs, k1, by rw [RepL.len _ _ rl', ← sl_eq]; exact hl, Z8, τ6, A9, acc ++ [dd2], vs ++ [y], (((zz.trans z2).trans po6.zz).trans po7.zz).trans po8.zz, ?_, k2, k3, upd_same, RepL.append _ _ _ _ rl' (RepL.one ry), ev⟩
                  -- the list has grown
                  refine ⟨fun b u e => ?_, fun b u e => ?_, s10.fz, s10.len, fun j m e => ?_, s10.nd, s10.dj, fun j b hb => ?_, s10.tz.upd fun _ z => by cases z⟩
                  · rw [upd_ne (ne_of_none e fD)]; exact s10.fh _ _ e
                  · rw [upd_ne (ne_of_none e k2)]; exact s10.zh _ _ e
                  · obtain ⟨v, q1, q2⟩ := s10.own j m e
                    exact ⟨v, q1, OR.keep (Same.refl _) m v (A9 j) (fun b hb => upd_ne fun z => k3 j (by rw [← z]; exact hb)) q2⟩
                  · obtain ⟨q1, q2, q3⟩ := s10.fr j b hb
                    exact ⟨q1, q2, by rw [upd_ne fun z => k3 j (by rw [← z]; exact hb)]; exact q3⟩
                · cases e5
              · cases ev
            · cases ev
  · rintro H ⟨Z', τi, Ai, acc, vs, zz, st, zD, aD, hD, rl, ev⟩
    rw [List.drop_length] at ev
    unfold compL at ev
    cases ev
    exact k H Z' Ai vs zz st zD aD hD rl
/-- the turns of a comprehension of two clauses -/
theorem lc2_turns {own own1 : List Nat} {tgt tgt1 : Tg} {it1 : CI} {t : CT} {ce : CE} {J : It} {ds out : List D} {τ3 : T} {Z1 H1 : Hp} {A1 : Nat → List Addr} {D : Addr} {Qd : Hp → Prop} (wd : WalkD c Z1 J ds) (hown : ∀ i ∈ tgt.slots, i ∈ own) (hown1 : ∀ i ∈ tgt1.slots, i ∈ own1) (hsub : ∀ i ∈ own1, i ∈ own) (sD : H1 D = none)
    (s1 : Sta c F Z1 H1 (L2.wipe σ own) τ2 A1)
    (e : compL2 (bindTg [] tgt) (fun t => evI G cl p it1 t) (compL (bindTg [] tgt1) (evT G cl p t) (fun t => match evE G cl p ce t with
          | some (r, t') => esc p t' r
          | none => none) own1) own own1 ds [] τ2 = some (out, τ3))
    (k : ∀ H' Z' A' vs, Same Z1 Z' → Sta c F Z' H' (L2.wipe σ own) τ3 A' → Z' D = none → (∀ i, D ∉ A' i) → H' D = some (.lst vs) → RepL c Z' out vs → Qd H') :
    ∃ W : Nat → Nat → Hp → Prop, (∃ m, W 0 m (L2.upd H1 D (.lst []))) ∧ ∀ i m H, W i m H →
      (J.stop i H ∧ Qd H) ∨ (J.go i H ∧ ∃ Nx : Hp → Prop, (∀ H', Nx H' → ∃ m', m' < m ∧ W (i + 1) m' H') ∧ ∀ x H', J.yld i H x H' → gT c.K tgt x (L2.wipe σ own) H' fun σ2 H2 => L2.wipe σ2 own = L2.wipe σ own ∧ tT c G cl .yes σ2 H2 fun b H3 =>
        if b = true then tI c G cl it1 σ2 H3 fun J1 H4 => ∃ W1 : Nat → Nat → Hp → Prop, (∃ m, W1 0 m H4) ∧ ∀ j k H, W1 j k H →
          (J1.stop j H ∧ Nx H) ∨ (J1.go j H ∧ ∃ Nx1 : Hp → Prop, (∀ H', Nx1 H' → ∃ k', k' < k ∧ W1 (j + 1) k' H') ∧ ∀ x H', J1.yld j H x H' → gT c.K tgt1 x (L2.wipe σ2 own1) H' fun σ3 H5 => L2.wipe σ3 own1 = L2.wipe σ2 own1 ∧ tT c G cl t σ3 H5 fun b H6 =>
            if b = true then tE c G cl ce σ3 H6 fun y H7 => ∃ acc, H7 D = some (.lst acc) ∧ acc.length < sizeLine ∧ Nx1 (L2.upd H7 D (.lst (acc ++ [y]))) else Nx1 H6)
        else Nx H3) := by
  have fD : F D = none := s1.fh.free sD
  refine it_walk wd (fun x H' Nx => gT c.K tgt x (L2.wipe σ own) H' fun σ2 H2 => L2.wipe σ2 own = L2.wipe σ own ∧ tT c G cl .yes σ2 H2 fun b H3 =>
        if b = true then tI c G cl it1 σ2 H3 fun J1 H4 => ∃ W1 : Nat → Nat → Hp → Prop, (∃ m, W1 0 m H4) ∧ ∀ j k H, W1 j k H →
          (J1.stop j H ∧ Nx H) ∨ (J1.go j H ∧ ∃ Nx1 : Hp → Prop, (∀ H', Nx1 H' → ∃ k', k' < k ∧ W1 (j + 1) k' H') ∧ ∀ x H', J1.yld j H x H' → gT c.K tgt1 x (L2.wipe σ2 own1) H' fun σ3 H5 => L2.wipe σ3 own1 = L2.wipe σ2 own1 ∧ tT c G cl t σ3 H5 fun b H6 =>
            if b = true then tE c G cl ce σ3 H6 fun y H7 => ∃ acc, H7 D = some (.lst acc) ∧ acc.length < sizeLine ∧ Nx1 (L2.upd H7 D (.lst (acc ++ [y]))) else Nx1 H6)
        else Nx H3) (fun i H => ∃ Z' τi Ai acc vs, Same Z1 Z' ∧ Sta c F Z' H (L2.wipe σ own) τi Ai ∧ Z' D = none ∧ (∀ j, D ∉ Ai j) ∧ H D = some (.lst vs) ∧ RepL c Z' acc vs ∧ compL2 (bindTg [] tgt) (fun t => evI G cl p it1 t) (compL (bindTg [] tgt1) (evT G cl p t) (fun t => match evE G cl p ce t with
          | some (r, t') => esc p t' r
          | none => none) own1) own own1 (ds.drop i) acc τi = some (out, τ3)) ?_ ?_ ?_ ?_
  · have g : Same H1 (L2.upd H1 D (.lst [])) := Same.upd sD
    exact ⟨Z1, τ2, A1, [], [], Same.refl _, s1.grow g (s1.tz.upd fun _ z => by cases z), s1.zh.free sD, fun j z => (s1.fr j D z).2.2 sD, upd_same, rfl, e⟩
  · rintro i H _ ⟨Z', τi, Ai, acc, vs, zz, st, _⟩
    exact zz.trans st.zh
  · rintro i x H H' hi ⟨Z', τi, Ai, acc, vs, zz, st, zD, aD, hD, rl, ev⟩ ⟨dd, hd, nw⟩
    have dr : ds.drop i = dd :: ds.drop (i + 1) := by
      rw [List.getElem?_eq_some_iff] at hd
      obtain ⟨l, e⟩ := hd
      rw [List.drop_eq_getElem_cons l, e]
    rw [dr] at ev
    unfold compL2 at ev
    have nw' : NewR c Z' H (.d dd) x H' := by
      rcases nw with ⟨d', e1, e2, q⟩ | ⟨a, vs, ds', e1, e2, na, e3, q⟩ | ⟨a, vs, ds', e1, _⟩
      · exact .inl ⟨d', e1, e2, Rep.mono zz _ _ q⟩
      · exact .inr (.inl ⟨a, vs, ds', e1, e2, na, e3, RepL.mono zz _ _ q⟩)
      · cases e1
    obtain ⟨Z2, z2, s2, rd, hh, zk⟩ := NewR.dval st nw'
    have hD' : H' D = some (.lst vs) := hh _ _ hD
    have zD2 : Z2 D = none := zk D (by rw [hD]; intro z; cases z) zD
    split at ev
    · cases ev
    · rename_i τ1 e1
      split at ev
      · cases ev
      · rename_i ys τ4 e2
        split at ev
        · cases ev
        · rename_i τ5 e3
          split at ev
          · cases ev
          · rename_i acc2 τ6 e4
            split at ev
            · cases ev
            · rename_i τ7 e5
              have sF : Sta c (fzw F H' [D]) Z2 H' (L2.wipe σ own) τi Ai := s2.fin fun q hq => by
                cases List.mem_singleton.mp hq
                exact ⟨zD2, aD⟩
              have un : ∀ {Z5 H5 : Hp} {σ5 : L2.St} {τ5 : T} {A5 : Nat → List Addr}, Sta c (fzw F H' [D]) Z5 H5 σ5 τ5 A5 → Sta c F Z5 H5 σ5 τ5 A5 ∧ H5 D = some (.lst vs) ∧ Z5 D = none ∧ ∀ i, D ∉ A5 i := fun {Z5 H5 σ5 τ5 A5} s5 => by
                obtain ⟨q1, q2⟩ := s5.fout (F := F) fun q hq => by
                  cases List.mem_singleton.mp hq
                  exact ⟨fD, by rw [hD']; intro z; cases z⟩
                obtain ⟨k1, k2, k3⟩ := q2 D (by simp)
                exact ⟨q1, by rw [k1]; exact hD', k2, k3⟩
              refine bind_ok tgt e1 sF rd fun σ5 A5 s5 l5 o5 _ => ⟨wipe_eq (by rw [l5, wipe_length]) fun j hj => o5 j fun z => hj (hown j z), ?_⟩
              have wq : L2.wipe σ5 own = L2.wipe σ own := wipe_eq (by rw [l5, wipe_length]) fun j hj => o5 j fun z => hj (hown j z)
              refine ⟨p, _, Z2, τ1, A5, true, τ1, s5, by rw [evT], fun H6 Z6 A6 po6 => ?_⟩
              refine iteT ?_
              refine ⟨p, _, Z6, τ1, A6, ys, τ4, po6.st, e2, fun J1 H7 Z7 A7 po7 wd1 => ?_⟩
              obtain ⟨A8, s8, sub8⟩ := po7.st.hide e3
              obtain ⟨s9, k1, k2, k3⟩ := un s8
              refine lc_turns' (own := own1) (σ := σ5) wd1 hown1 fD k1 k2 k3 (RepL.mono ((z2.trans po6.zz).trans po7.zz) _ _ rl) s9 e4 fun H' Z' A' vs' zz' st' zD' aD' hD'' rl' => ?_
              obtain ⟨A10, s10, sub10⟩ := st'.hide e5
              have wq2 : L2.wipe (L2.wipe σ5 own1) own = L2.wipe σ own := by
                rw [← wq]
                refine wipe_eq (by rw [wipe_length]) fun j hj => ?_
                rw [wipe_out fun z => hj (hsub j z), wipe_out hj]
              rw [wq2] at s10
              exact ⟨Z', τ7, A10, acc2, vs', (((zz.trans z2).trans po6.zz).trans po7.zz).trans zz', s10, zD', fun j z => aD' j (sub10 j _ z), hD'', rl', ev⟩
  · rintro H ⟨Z', τi, Ai, acc, vs, zz, st, zD, aD, hD, rl, ev⟩
    rw [List.drop_length] at ev
    unfold compL2 at ev
    cases ev
    exact k H Z' Ai vs zz st zD aD hD rl
theorem lc2_use {own own1 : List Nat} {tgt tgt1 : Tg} {it it1 : CI} {t : CT} {ce : CE} {r : R} (s : Sta c F Z H σ τ A) (hown : ∀ i ∈ tgt.slots, i ∈ own) (hown1 : ∀ i ∈ tgt1.slots, i ∈ own1) (hsub : ∀ i ∈ own1, i ∈ own) (e : evE G cl p (.lc2 own own1 tgt it tgt1 it1 t ce) τ = some (r, τ')) {Q : VK} (k : ∀ x H' Z' A' B, Post c p F Z H σ τ A τ' H' Z' A' → Res c F Z' H' σ τ' A' r x B → Q x H') :
    tLc2 (tI c G cl it) (gT c.K tgt) (tT c G cl .yes) (tI c G cl it1) (gT c.K tgt1) (tT c G cl t) (tE c G cl ce) own own1 σ H Q := by
  unfold evE at e
  split at e
  · cases e
  · rename_i np
    split at e
    · cases e
    · rename_i xs τ1 e1
      split at e
      · cases e
      · rename_i τ2 e2
        split at e
        · cases e
        · rename_i ds τ3 e3
          cases e
          refine ⟨p, F, Z, τ, A, xs, τ1, s, e1, fun J H1 Z1 A1 po wd D hD => ?_⟩
          obtain ⟨A2, s2, sub2⟩ := po.st.hide e2
          refine lc2_turns wd hown hown1 hsub hD s2 e3 fun H' Z' A' vs zz st zD aD hD' rl => ?_
          obtain ⟨A4, s4, sub4⟩ := Sta.back po.st e2 zz st
          refine k _ H' Z' A4 [D] ⟨po.zz.trans zz, s4, fun hp => absurd hp np⟩ ⟨⟨D, vs, rfl, rfl, hD', rl⟩, by simp, fun i q hq h => ?_, fun q hq => ?_⟩
          · cases List.mem_singleton.mp h
            exact aD i (sub4 i _ hq)
          · cases List.mem_singleton.mp hq
            exact ⟨po.st.fh.free hD, zD, by rw [hD']; intro z; cases z⟩
theorem s_lc2 {own : List (Str × Nat)} {own1 : List Nat} {tgt tgt1 : Tg} {it it1 : CI} {t : CT} {ce : CE} {e : Expr} (hown : ∀ i ∈ tgt.slots, i ∈ own.map (·.2)) (hown1 : ∀ i ∈ tgt1.slots, i ∈ own1) (hsub : ∀ i ∈ own1, i ∈ own.map (·.2)) (h : PE X e (tLc2 (tI c G cl it) (gT c.K tgt) (tT c G cl .yes) (tI c G cl it1) (gT c.K tgt1) (tT c G cl t) (tE c G cl ce) (own.map (·.2)) own1)) : PE X e (tE c G cl (.lc2 (own.map (·.2)) own1 tgt it tgt1 it1 t ce)) :=
  pe_imp h fun σ H Q q => by
    obtain ⟨p, F, Z, τ, A, r, τ', s, e, k⟩ := q
    exact lc2_use s hown hown1 hsub e k
end
end
end Ev

/-! Ev, part K: statements. -/
namespace Ev
open PySem L2 PyProof.Rows
/-- slots whose things come back to the caller stay -/
def Kp (io : List Nat) (σ σ' : L2.St) : Prop := ∀ i, io.contains i = true → σ'[i]? = σ[i]?
theorem Kp.refl (io : List Nat) (σ : L2.St) : Kp io σ σ := fun _ _ => rfl
theorem Kp.trans {io : List Nat} {σ σ1 σ2 : L2.St} (a : Kp io σ σ1) (b : Kp io σ1 σ2) : Kp io σ σ2 := fun i h => (b i h).trans (a i h)
def Goes (c : Cn) (F Z : Hp) (io : List Nat) (σ : L2.St) (D : Ends) : Fl → Prop
  | .nx τ' => ∀ σ' H' Z' A', Same Z Z' → Sta c F Z' H' σ' τ' A' → Kp io σ σ' → D.nx σ' H'
  | .bk τ' => ∀ σ' H' Z' A', Same Z Z' → Sta c F Z' H' σ' τ' A' → Kp io σ σ' → D.bk σ' H'
  | .ct τ' => ∀ σ' H' Z' A', Same Z Z' → Sta c F Z' H' σ' τ' A' → Kp io σ σ' → D.ct σ' H'
  | .ret m τ' => ∀ x σ' H' Z' A' B, Same Z Z' → Sta c F Z' H' σ' τ' A' → Kp io σ σ' → Res c F Z' H' σ' τ' A' (.m m) x B → D.rt x H'
def tS (c : Cn) (G : GS) (cl : Caller) (io : List Nat) (s : CS) : TS := fun D σ H => ∃ F Z τ A fl, Sta c F Z H σ τ A ∧ evS G cl io s τ = some fl ∧ Goes c F Z io σ D fl
def tSs (c : Cn) (G : GS) (cl : Caller) (io : List Nat) (s : CSs) : TS := fun D σ H => ∃ F Z τ A fl, Sta c F Z H σ τ A ∧ evSs G cl io s τ = some fl ∧ Goes c F Z io σ D fl
theorem ps_imp {X : Cx} {s : Stmt} {t t' : TS} (h : PS X s t) (hi : ∀ D σ H, t' D σ H → t D σ H) : PS X s t' := ⟨fun pins s σ H D I q => h.run pins s σ H D I (hi D σ H q)⟩
theorem pss_imp {X : Cx} {s : List Stmt} {t t' : TS} (h : PSs X s t) (hi : ∀ D σ H, t' D σ H → t D σ H) : PSs X s t' := ⟨fun pins s σ H D I q => h.run pins s σ H D I (hi D σ H q)⟩
section
variable {c : Cn} {G : GS} {cl : Caller} {F Z H : Hp} {σ : L2.St} {τ τ1 τ2 τ' : T} {A : Nat → List Addr} {p : Bool} {io : List Nat}
theorem Goes.mono {σ1 : L2.St} {Z1 : Hp} {D : Ends} {fl : Fl} (g : Goes c F Z io σ D fl) (z : Same Z Z1) (k : Kp io σ σ1) : Goes c F Z1 io σ1 D fl := by
  cases fl with
  | nx τ' => exact fun σ' H' Z' A' zz s kk => g σ' H' Z' A' (z.trans zz) s (k.trans kk)
  | bk τ' => exact fun σ' H' Z' A' zz s kk => g σ' H' Z' A' (z.trans zz) s (k.trans kk)
  | ct τ' => exact fun σ' H' Z' A' zz s kk => g σ' H' Z' A' (z.trans zz) s (k.trans kk)
  | ret m τ' => exact fun x σ' H' Z' A' B zz s kk => g x σ' H' Z' A' B (z.trans zz) s (k.trans kk)
/-- a thing of one's own put into a slot -/
theorem set_own (s : Sta c F Z H σ τ A) {m : M} {x : V} {B : List Addr} (q : Res c F Z H σ τ A (.m m) x B) (i : Nat) : ∃ A', Sta c F Z H (σ.set i (some x)) (τ.set i (some m)) A' := by
  by_cases li : i < σ.length
  · exact ⟨_, s.put (B' := B) (i := i) (σ' := σ.set i (some x)) (by rw [List.getElem?_set_self li]) (fun j hj => List.getElem?_set_ne (Ne.symm hj)) (by simp) (Same.refl _) s.zh s.fh s.fz s.tz q.rr q.nd (fun j a _ ha => ⟨rfl, (s.fr j a ha).2.1, q.dj j a ha⟩) fun a ha => ⟨(q.fr a ha).1, (q.fr a ha).2.1⟩⟩
  · rw [List.set_eq_of_length_le (by omega : σ.length ≤ i), List.set_eq_of_length_le (by rw [s.len]; omega : τ.length ≤ i)]
    exact ⟨A, s⟩
theorem set_val (s : Sta c F Z H σ τ A) {d : D} {x : V} (q : Rep c Z d x) (i : Nat) : ∃ A', Sta c F Z H (σ.set i (some x)) (τ.set i (some (.v d))) A' :=
  set_own s (m := .v d) (B := []) ⟨⟨rfl, q⟩, List.nodup_nil, fun _ _ _ h => (by cases h), fun _ h => by cases h⟩ i
theorem kp_set {i : Nat} {v : Option V} (h : ¬ io.contains i = true) : Kp io σ (σ.set i v) := fun j hj => by
  have : i ≠ j := fun z => h (z ▸ hj)
  exact List.getElem?_set_ne this
/-- what is given to a name: held there alone -/
theorem give_ok (s : Sta c F Z H σ τ A) {r : R} {x : V} {B : List Addr} {m : M} (q : Res c F Z H σ τ A r x B) (h : give τ r = some (m, τ')) : ∃ Z' A' B', Same Z Z' ∧ Sta c F Z' H σ τ' A' ∧ Res c F Z' H σ τ' A' (.m m) x B' := by
  have gen : ∀ {d : D} {τ1 : T}, esc false τ r = some (d, τ1) → some (M.v d, τ1) = some (m, τ') → ∃ Z' A' B', Same Z Z' ∧ Sta c F Z' H σ τ' A' ∧ Res c F Z' H σ τ' A' (.m m) x B' := by
    intro d τ1 e1 e2
    cases e2
    obtain ⟨Z1, A1, po, rp⟩ := esc_ok s q e1
    exact ⟨Z1, A1, [], po.zz, po.st, ⟨rfl, rp⟩, List.nodup_nil, fun _ _ _ h => (by cases h), fun _ h => by cases h⟩
  unfold give at h
  split at h
  · cases h
    exact ⟨Z, A, B, Same.refl _, s, q⟩
  · split at h
    · rename_i d τ1 e1
      exact gen e1 h
    · cases h
mutual
theorem bindTg_io : ∀ (tg : Tg) {d : D} {τ τ1 : T}, bindTg io tg d τ = some τ1 → ∀ i ∈ tg.slots, ¬ io.contains i = true
  | .one i, d, τ, τ1, h, j, hj => by
    unfold bindTg at h
    split at h
    · cases h
    · rename_i n
      cases List.mem_singleton.mp hj
      exact n
  | .tup ts, d, τ, τ1, h, j, hj => by
    unfold bindTg at h
    split at h
    · split at h
      · exact bindTgs_io ts h (by rename_i hl; omega) j hj
      · cases h
    · split at h
      · exact bindTgs_io ts h (by rename_i hl; omega) j hj
      · cases h
    · cases h
theorem bindTgs_io : ∀ (ts : Tgs) {ds : List D} {τ τ1 : T}, bindTgs io ts ds τ = some τ1 → ts.len ≤ ds.length → ∀ i ∈ ts.slots, ¬ io.contains i = true
  | .nil, ds, τ, τ1, h, hl, j, hj => by cases hj
  | .cons t r, [], τ, τ1, h, hl, j, hj => by simp [Tgs.len] at hl
  | .cons t r, d :: ds, τ, τ1, h, hl, j, hj => by
    unfold bindTgs at h
    split at h
    · rename_i τ2 e1
      rcases List.mem_append.mp (show j ∈ t.slots ++ r.slots from hj) with z | z
      · exact bindTg_io t e1 j z
      · exact bindTgs_io r h (by simpa [Tgs.len] using hl) j z
    · cases h
end
theorem kp_bind {tg : Tg} {d : D} {σ1 : L2.St} (h : bindTg io tg d τ = some τ1) (o : ∀ j, j ∉ tg.slots → σ1[j]? = σ[j]?) : Kp io σ σ1 := fun j hj => o j fun z => bindTg_io tg h j z hj
theorem ORF.put {f : Nat} {m : M} {s : Str} {x : V} {B' : List Addr} (hs : c.attrs[f]? = some s) (o : OR c Z H m x B') : ∀ {fs : List (Nat × M)} {gs : List (Str × V)} {B : List Addr}, ORF c Z H fs gs B → ∃ B3, ORF c Z H (putA f m fs) (putF s x gs) B3 ∧ (∀ b ∈ B3, b ∈ B' ∨ b ∈ B) ∧ (B.Nodup → B'.Nodup → (∀ b ∈ B', b ∉ B) → B3.Nodup)
  | [], gs, B, q => by
    obtain ⟨rfl, rfl⟩ := q
    refine ⟨B' ++ [], ⟨s, x, [], B', [], rfl, rfl, hs, o, rfl, rfl⟩, fun b hb => .inl (by simpa using hb), fun _ h _ => by simpa using h⟩
  | (g, n) :: fs, gs, B, q => by
    obtain ⟨s1, v, r, B1, B2, rfl, rfl, hs1, q1, q2⟩ := q
    by_cases e : g = f
    · subst e
      have es : s1 = s := by rw [hs1] at hs; exact Option.some.inj hs
      subst es
      refine ⟨B' ++ B2, ?_, fun b hb => ?_, fun h1 h2 h3 => ?_⟩
      · have e1 : putA g m ((g, n) :: fs) = (g, m) :: fs := by simp [putA]
        have e2 : putF s1 x ((s1, v) :: r) = (s1, x) :: r := by simp [putF]
        rw [e1, e2]
        exact ⟨s1, x, r, B', B2, rfl, rfl, hs1, o, q2⟩
      · rcases List.mem_append.mp hb with z | z
        · exact .inl z
        · exact .inr (List.mem_append_right _ z)
      · exact List.nodup_append.mpr ⟨h2, (List.nodup_append.mp h1).2.1, fun a ha b hb e => by
          subst e; exact h3 a ha (List.mem_append_right _ hb)⟩
    · have ns : ¬ s1 = s := fun z => e (attr_inj hs1 (by rw [z]; exact hs))
      obtain ⟨B3, o3, m3, n3⟩ := ORF.put hs o q2
      refine ⟨B1 ++ B3, ?_, fun b hb => ?_, fun h1 h2 h3 => ?_⟩
      · have e1 : putA f m ((g, n) :: fs) = (g, n) :: putA f m fs := by simp [putA, e]
        have e2 : putF s x ((s1, v) :: r) = (s1, v) :: putF s x r := by
          show (if s1 = s then _ else _) = _
          rw [if_neg ns]
        rw [e1, e2]
        exact ⟨s1, v, _, B1, B3, rfl, rfl, hs1, q1, o3⟩
      · rcases List.mem_append.mp hb with z | z
        · exact .inr (List.mem_append_left _ z)
        · rcases m3 b z with y | y
          · exact .inl y
          · exact .inr (List.mem_append_right _ y)
      · obtain ⟨a1, a2, a3⟩ := List.nodup_append.mp h1
        refine List.nodup_append.mpr ⟨a1, n3 a2 h2 fun b hb z => h3 b hb (List.mem_append_right _ z), fun a ha b hb e => ?_⟩
        subst e
        rcases m3 a hb with y | y
        · exact h3 a y (List.mem_append_left _ ha)
        · exact a3 a ha a y rfl
section
variable {X : Cx} {ea eb ec : Expr} {a b d : CE} {pos : Pos}
theorem k_set {i : Nat} {st : Stmt} (h : PS X st (tAsg (tE c G cl a) (gName i))) : PS X st (tS c G cl io (.set i a)) := ps_imp h fun D σ H q => by
  obtain ⟨F, Z, τ, A, fl, s, e, g⟩ := q
  unfold evS at e
  split at e
  · cases e
  · rename_i nio
    split at e
    · cases e
    · rename_i r τ1 e1
      split at e
      · cases e
      · rename_i m τ2 e2
        cases e
        refine ⟨false, F, Z, τ, A, r, τ1, s, e1, fun x H1 Z1 A1 B po re => ?_⟩
        obtain ⟨Z2, A2, B2, zz, s2, re2⟩ := give_ok po.st re e2
        obtain ⟨A3, s3⟩ := set_own s2 re2 i
        exact g _ H1 Z2 A3 (po.zz.trans zz) s3 (kp_set nio)
theorem k_setT {tg : Tg} {st : Stmt} (h : PS X st (tAsg (tE c G cl a) (gT c.K tg))) : PS X st (tS c G cl io (.setT tg a)) := ps_imp h fun D σ H q => by
  obtain ⟨F, Z, τ, A, fl, s, e, g⟩ := q
  unfold evS at e
  split at e
  · cases e
  · rename_i r τ1 e1
    split at e
    · rename_i d τ2 e2
      cases e3 : bindTg io tg d τ2 with
      | none => rw [e3] at e; cases e
      | some τ3 =>
        rw [e3] at e
        cases e
        refine ⟨false, F, Z, τ, A, r, τ1, s, e1, fun x H1 Z1 A1 B po re => ?_⟩
        obtain ⟨Z2, A2, po2, rp⟩ := esc_ok po.st re e2
        exact bind_ok tg e3 po2.st rp fun σ1 A3 s3 _ o3 _ => g σ1 H1 Z2 A3 (po.zz.trans po2.zz) s3 (kp_bind e3 o3)
    · cases e
/-- things of one's own, kept apart while the others are made -/
def tMs (c : Cn) (G : GS) (cl : Caller) (es : CEs) : TA := fun σ H Q => ∃ F Z τ A ms τ', Sta c F Z H σ τ A ∧ evM G cl es τ = some (ms, τ') ∧ ∀ xs H' Z' A' Ac, Post c false F Z H σ τ A τ' H' Z' A' → Hand c F Z' H' σ τ' A' xs ms (ms.map fun _ => none) Ac → Q xs H'
theorem m_nil : PA X [] (tMs c G cl .nil) := pa_imp pa_nil fun σ H Q q => by
  obtain ⟨F, Z, τ, A, ms, τ', s, e, k⟩ := q
  unfold evM at e
  cases e
  exact k [] H Z A _ (Post.refl s) (Hand.nil s)
theorem m_cons {es : List Expr} {ces : CEs} (h1 : PE X ea (tE c G cl a)) (h2 : PA X es (tMs c G cl ces)) (hs : starEach (ea :: es) X.env = (false, eval ea X.env) :: starEach es X.env) : PA X (ea :: es) (tMs c G cl (.cons a ces)) :=
  pa_imp (pa_cons h1 h2 hs) fun σ H Q q => by
    obtain ⟨F, Z, τ, A, ms, τ', s, e, k⟩ := q
    unfold evM at e
    split at e
    · cases e
    · rename_i r τ1 e1
      split at e
      · cases e
      · rename_i m τ2 e2
        cases e3 : evM G cl ces τ2 with
        | none => rw [e3] at e; cases e
        | some u =>
          rw [e3] at e
          cases e
          refine ⟨false, F, Z, τ, A, r, τ1, s, e1, fun x H1 Z1 A1 B po re => ?_⟩
          obtain ⟨Z2, A2, B2, zz, s2, re2⟩ := give_ok po.st re e2
          have s3 := s2.fin (B := B2) fun a ha => ⟨(re2.fr a ha).2.1, fun i z => re2.dj i a z ha⟩
          refine ⟨_, Z2, τ2, A2, u.1, u.2, s3, e3, fun xs H2 Z3 A3 Ac po2 hd => ?_⟩
          obtain ⟨_, keep⟩ := po2.st.fout (F := F) (B := B2) fun a ha => ⟨(re2.fr a ha).1, (re2.fr a ha).2.2⟩
          have hB2 : ∀ a ∈ B2, H2 a = H1 a := fun a ha => (keep a ha).1
          rw [fzw_congr (F := F) (B := B2) fun a ha => (hB2 a ha).symm] at hd
          have hd2 := Hand.cons (B := B2) (i0 := none) (m := m) (x := x) hd (fun a ha => ⟨(re2.fr a ha).1, by rw [hB2 a ha]; exact (re2.fr a ha).2.2⟩) re2.nd (OR.keep po2.zz _ _ B2 hB2 re2.rr) (fun i z => by cases z)
          exact k (x :: xs) H2 Z3 A3 _ ⟨(po.zz.trans zz).trans po2.zz, hd2.st, fun h => (nomatch h)⟩ hd2
theorem hand_set {x : V} {xs : List V} {m : M} {ms : List M} {Ac : Nat → List Addr} (h : Hand c F Z H σ τ A (x :: xs) (m :: ms) (none :: ms.map fun _ => none) Ac) (i : Nat) : ∃ A', Hand c F Z H (σ.set i (some x)) (τ.set i (some m)) A' xs ms (ms.map fun _ => none) (fun j => Ac (j + 1)) := by
  have hl : ms.length = xs.length := by have := h.len; simpa using this
  obtain ⟨x', e0, o0⟩ := h.own 0 m rfl
  cases (show x = x' from by simpa using e0)
  have own : ∀ (j : Nat) (n : M), ms[j]? = some n → ∃ y, xs[j]? = some y ∧ OR c Z H n y (Ac (j + 1)) := fun j n e => by
    obtain ⟨y, e1, q⟩ := h.own (j + 1) n (by simpa using e)
    exact ⟨y, by simpa using e1, q⟩
  have vac : ∀ (j i : Nat), (ms.map fun _ => (none : Option Nat))[j]? = some (some i) → False := fun j i e => by
    rw [List.getElem?_map] at e
    cases q : ms[j]? with
    | none => rw [q] at e; cases e
    | some _ => rw [q] at e; cases e
  by_cases li : i < σ.length
  · refine ⟨_, h.st.put (B' := Ac 0) (i := i) (σ' := σ.set i (some x)) (by rw [List.getElem?_set_self li]) (fun j hj => List.getElem?_set_ne (Ne.symm hj)) (by simp) (Same.refl _) h.st.zh h.st.fh h.st.fz h.st.tz o0 (h.nd 0) (fun j a _ ha => ⟨rfl, (h.st.fr j a ha).2.1, fun z => h.da 0 j a z ha⟩) (fun a ha => ⟨(h.fr 0 a ha).1, (h.fr 0 a ha).2.1⟩), hl, by simp [hl], own, fun j => h.nd (j + 1), fun j k a h1 h2 => by have := h.dj (j + 1) (k + 1) a h1 h2; omega, fun j k a h1 h2 => ?_, fun j a h1 => h.fr (j + 1) a h1, fun j i e => (vac j i e).elim, fun j k i e _ => (vac j i e).elim⟩
    by_cases z : k = i
    · subst z
      rw [put1_same] at h2
      have := h.dj (j + 1) 0 a h1 h2
      omega
    · rw [put1_ne z] at h2
      exact h.da (j + 1) k a h1 h2
  · rw [List.set_eq_of_length_le (by omega : σ.length ≤ i), List.set_eq_of_length_le (by rw [h.st.len]; omega : τ.length ≤ i)]
    exact ⟨A, h.st, hl, by simp [hl], own, fun j => h.nd (j + 1), fun j k a h1 h2 => by have := h.dj (j + 1) (k + 1) a h1 h2; omega, fun j k a h1 h2 => h.da (j + 1) k a h1 h2, fun j a h1 => h.fr (j + 1) a h1, fun j i e => (vac j i e).elim, fun j k i e _ => (vac j i e).elim⟩
/-- a tuple laid while things of one's own are kept apart -/
theorem hand_tup {xs : List V} {ms : List M} {is : List (Option Nat)} {Ac : Nat → List Addr} (h : Hand c F Z H σ τ A xs ms is Ac) {q : Addr} {vs : List V} (hq : H q = none) : Hand c F (L2.upd Z q (.tup vs)) (L2.upd H q (.tup vs)) σ τ A xs ms is Ac := by
  have s := h.st
  have nz : Z q = none := s.zh.free hq
  have nf : F q = none := s.fh.free hq
  have st : Sta c F (L2.upd Z q (.tup vs)) (L2.upd H q (.tup vs)) σ τ A := by
    refine (Post.grow (p := false) s (Same.upd hq) (Same.upd nz) (fun b o e => ?_) (fun b o e => ?_) (fun i b hb => ?_) s.tz.new).st
    · by_cases z : b = q
      · subst z; rw [upd_same] at e ⊢; exact e
      · rw [upd_ne z] at e ⊢; exact s.zh _ _ e
    · by_cases z : b = q
      · subst z; exact nf
      · rw [upd_ne z] at e; exact s.fz _ _ e
    · have : b ≠ q := fun z => by subst z; exact (s.fr i b hb).2.2 hq
      rw [upd_ne this]
      exact (s.fr i b hb).2.1
  have ne : ∀ j a, a ∈ Ac j → a ≠ q := fun j a ha z => (h.fr j a ha).2.2 (by rw [z]; exact hq)
  refine ⟨st, h.len, h.lis, fun j m e => ?_, h.nd, h.dj, h.da, fun j a ha => ?_, h.gv, h.inj⟩
  · obtain ⟨x, e1, o⟩ := h.own j m e
    exact ⟨x, e1, OR.keep (Same.upd nz) _ _ _ (fun a ha => upd_ne (ne j a ha)) o⟩
  · obtain ⟨h1, h2, h3⟩ := h.fr j a ha
    exact ⟨h1, by rw [upd_ne (ne j a ha)]; exact h2, by rw [upd_ne (ne j a ha)]; exact h3⟩
def tgsN : List Nat → Tgs
  | [] => .nil
  | i :: is => .cons (.one i) (tgsN is)
theorem tgsN_len : ∀ is : List Nat, (tgsN is).len = is.length
  | [] => rfl
  | i :: is => by rw [tgsN, Tgs.len, tgsN_len is]; rfl
theorem setMs_len : ∀ {is : List Nat} {ms : List M} {τ τ' : T}, setMs is ms τ = some τ' → is.length = ms.length
  | [], [], _, _, _ => rfl
  | [], _ :: _, _, _, h => by cases h
  | _ :: _, [], _, _, h => by cases h
  | i :: is, m :: ms, τ, τ', h => by
    have := setMs_len (show setMs is ms (τ.set i (some m)) = some τ' from h)
    simp [this]
/-- names bound to things of one's own, one behind another -/
theorem bindMs_ok {Q : L2.St → Hp → Prop} : ∀ (is : List Nat) {ms : List M} {xs : List V} {σ : L2.St} {τ τ' : T} {A : Nat → List Addr} {Ac : Nat → List Addr}, setMs is ms τ = some τ' → Hand c F Z H σ τ A xs ms (ms.map fun _ => none) Ac →
    (∀ σ1 A1, Sta c F Z H σ1 τ' A1 → (∀ j, j ∉ is → σ1[j]? = σ[j]?) → Q σ1 H) → gTs c.K (tgsN is) xs σ H Q
  | [], [], xs, σ, τ, τ', A, Ac, h, hd, k => by
    cases h
    have : xs = [] := by have := hd.len; exact List.eq_nil_of_length_eq_zero (by simpa using this.symm)
    exact ⟨this, k σ A hd.st fun _ _ => rfl⟩
  | [], _ :: _, _, _, _, _, _, _, h, _, _ => by cases h
  | _ :: _, [], _, _, _, _, _, _, h, _, _ => by cases h
  | i :: is, m :: ms, xs, σ, τ, τ', A, Ac, h, hd, k => by
    cases xs with
    | nil => have := hd.len; simp at this
    | cons x xs =>
      obtain ⟨A', h2⟩ := hand_set hd i
      refine ⟨x, xs, rfl, ?_⟩
      refine bindMs_ok is (show setMs is ms (τ.set i (some m)) = some τ' from h) h2 fun σ1 A1 s1 o1 => k σ1 A1 s1 fun j hj => ?_
      have n1 : j ≠ i := fun z => hj (by rw [z]; simp)
      rw [o1 j fun z => hj (List.mem_cons_of_mem _ z)]
      exact List.getElem?_set_ne (Ne.symm n1)
theorem kp_any {is : List Nat} {σ1 : L2.St} (h : ¬ (is.any fun i => io.contains i) = true) (o : ∀ j, j ∉ is → σ1[j]? = σ[j]?) : Kp io σ σ1 := fun j hj => o j fun z => h (List.any_eq_true.mpr ⟨j, z, hj⟩)
theorem k_setM {is : List Nat} {ces : CEs} {st : Stmt} (hl : is.length ≤ 30) (h : PS X st (tAsg (tTup (tMs c G cl ces)) (gT c.K (.tup (tgsN is))))) : PS X st (tS c G cl io (.setM is ces)) := ps_imp h fun D σ H q => by
  obtain ⟨F, Z, τ, A, fl, s, e, g⟩ := q
  unfold evS at e
  split at e
  · cases e
  · rename_i nio
    split at e
    · cases e
    · rename_i ms τ1 e1
      cases e2 : setMs is ms τ1 with
      | none => rw [e2] at e; cases e
      | some τ2 =>
        rw [e2] at e
        cases e
        refine ⟨F, Z, τ, A, ms, τ1, s, e1, fun xs H1 Z1 A1 Ac po hd => ⟨?_, fun a na => ?_⟩⟩
        · have h1 := hd.len
          have h2 := setMs_len e2
          have h3 := sizeLine_eq
          omega
        have nz : Z1 a = none := hd.st.zh.free na
        have hd2 := hand_tup hd (vs := xs) na
        refine .inl ⟨a, xs, rfl, (show TupAt c.K (L2.upd H1 a (.tup xs)) a xs from upd_same).sq, by rw [tgsN_len, setMs_len e2]; exact hd.len.symm, ?_⟩
        exact bindMs_ok is e2 hd2 fun σ1 A2 s2 o2 => g σ1 _ _ A2 (po.zz.trans (Same.upd nz)) s2 (kp_any nio o2)
theorem k_setM3 {i j l : Nat} {ces : CEs} {st : Stmt} (h : PS X st (tPar3 i j l (tMs c G cl ces))) : PS X st (tS c G cl io (.setM [i, j, l] ces)) := ps_imp h fun D σ H q => by
  obtain ⟨F, Z, τ, A, fl, s, e, g⟩ := q
  unfold evS at e
  split at e
  · cases e
  · rename_i nio
    split at e
    · cases e
    · rename_i ms τ1 e1
      cases e2 : setMs [i, j, l] ms τ1 with
      | none => rw [e2] at e; cases e
      | some τ2 =>
        rw [e2] at e
        cases e
        refine ⟨F, Z, τ, A, ms, τ1, s, e1, fun xs H1 Z1 A1 Ac po hd => ?_⟩
        obtain ⟨v, r1, rfl, w, r2, rfl, u, r3, rfl, hn, k⟩ := bindMs_ok (Q := fun σ1 H1 => D.nx σ1 H1) [i, j, l] e2 hd fun σ1 A2 s2 o2 => g σ1 _ _ A2 po.zz s2 (kp_any nio o2)
        cases hn
        exact ⟨v, w, u, rfl, k⟩
theorem k_par {i j : Nat} {st : Stmt} (h : PS X st (tPar i j (tX c G cl (.cons a (.cons b .nil))))) : PS X st (tS c G cl io (.par i j a b)) := ps_imp h fun D σ H q => by
  obtain ⟨F, Z, τ, A, fl, s, e, g⟩ := q
  unfold evS at e
  split at e
  · cases e
  · rename_i nio
    have n1 : ¬ io.contains i = true := fun z => nio (by rw [z]; rfl)
    have n2 : ¬ io.contains j = true := fun z => nio (by rw [z]; simp)
    split at e
    · rename_i x y τ1 e1
      cases e
      refine ⟨false, F, Z, τ, A, [x, y], τ1, s, e1, fun xs H1 Z1 A1 po rl => ?_⟩
      obtain ⟨v, r, rfl, q1, w, r', rfl, q2, rfl⟩ := rl
      refine ⟨v, w, rfl, ?_⟩
      obtain ⟨A2, s2⟩ := set_val po.st q1 i
      obtain ⟨A3, s3⟩ := set_val s2 q2 j
      exact g _ H1 Z1 A3 po.zz s3 ((kp_set n1).trans (kp_set n2))
    · cases e
def tiA (op : Operator) : TIp := fun x y H Q => ∃ i j z, x = .int i ∧ y = .int j ∧ augD op i j = some z ∧ Q (.int z) H
theorem mulOk_of {x y : Int} (h : (-(2 ^ 64) < x ∧ x < 2 ^ 64) ∨ (-(2 ^ 64) < y ∧ y < 2 ^ 64)) : IntMulOk x y := by
  rcases h with h | h
  · exact IntMulOk.of_left (intBits_le (by omega))
  · exact IntMulOk.of_right (intBits_le (by omega))
theorem ip_aug (op : Operator) : PIp X op (tiA op) := by
  intro pins s σ H x y v u Q I r1 r2 h
  obtain ⟨i, j, z, rfl, rfl, e, q⟩ := h
  cases op with
  | Add => cases e; exact ip_add pins s σ H _ _ v u Q I r1 r2 ⟨i, j, rfl, rfl, q⟩
  | Sub => cases e; exact ip_sub pins s σ H _ _ v u Q I r1 r2 ⟨i, j, rfl, rfl, q⟩
  | Mult =>
    unfold augD at e
    simp only at e
    split at e
    · rename_i hm
      cases e
      obtain ⟨t, rfl⟩ := r1
      obtain ⟨t', rfl⟩ := r2
      exact PyProof.Rows.imul_int ⟨.int _, H, I.tok _, ⟨_, rfl⟩, q⟩ (mulOk_of hm)
    · cases e
  | _ => cases e
theorem k_aug {i : Nat} {op : Operator} {st : Stmt} (h : PS X st (tAug i (tE c G cl a) (tiA op))) : PS X st (tS c G cl io (.aug i op a)) := ps_imp h fun D σ H q => by
  obtain ⟨F, Z, τ, A, fl, s, e, g⟩ := q
  unfold evS at e
  split at e
  · cases e
  · rename_i nio
    split at e
    · rename_i x ex
      split at e
      · rename_i y τ1 e1
        split at e
        · rename_i z ez
          cases e
          obtain ⟨v, hv, o⟩ := s.own i _ (slotM_some ex)
          refine ⟨v, hv, ?_⟩
          refine one_op s e1 fun w H1 Z1 A1 po ow => ⟨x, y, z, o.2, ow, ez, ?_⟩
          obtain ⟨A2, s2⟩ := set_val (d := .int z) (x := .int z) po.st rfl i
          exact g _ H1 Z1 A2 po.zz s2 (kp_set nio)
        · cases e
      · cases e
    · cases e
theorem k_fset {i f : Nat} {nm : Str} {st : Stmt} (hK : X.K = c.K) (hf : c.attrs[f]? = some nm) (hfok : ∀ ci kk, G.cls.lookup ci = some kk → kk.fl.contains f = true → c.fok ci f = true) (hc : ∀ (k : Nat) (C : Addr), c.cls.lookup k = some C → Cls X.K C ∧ (c.fok k f = true → NoAttr X.K C nm)) (h : PS X st (sFld X.K (tVar i) (tE c G cl a) nm)) : PS X st (tS c G cl io (.fset i f a)) := ps_imp h fun D σ H q => by
  obtain ⟨F, Z, τ, A, fl, s, e, g⟩ := q
  unfold evS at e
  split at e
  · cases e
  · rename_i r τ1 e1
    split at e
    · cases e
    · rename_i m τ2 e2
      split at e
      · rename_i ci fs e3
        split at e
        · rename_i hok
          cases e
          refine ⟨false, F, Z, τ, A, r, τ1, s, e1, fun x H1 Z1 A1 B po re => ?_⟩
          obtain ⟨Z2, A2, B2, zz, s2, re2⟩ := give_ok po.st re e2
          obtain ⟨v, hv, o⟩ := s2.own i _ (slotM_some e3)
          obtain ⟨ad, C, dx, gs, B0, rfl, eA, hC, hH, oF, ok⟩ := o
          have fok : c.fok ci f = true := by
            cases e4 : G.cls.lookup ci with
            | none => rw [e4] at hok; simp at hok
            | some kk =>
              rw [e4] at hok
              exact hfok ci kk e4 (by simpa using hok.2)
          have hc' := hc ci C hC
          have lf : gs.length = fs.length := by
            have : ∀ {fs : List (Nat × M)} {gs : List (Str × V)} {B : List Addr}, ORF c Z2 H1 fs gs B → gs.length = fs.length := by
              intro fs
              induction fs with
              | nil => intro gs B q; rw [q.1]; rfl
              | cons p fs ih =>
                intro gs B q
                obtain ⟨f', m'⟩ := p
                obtain ⟨s', v', r', B1', B2', rfl, rfl, _, _, q2⟩ := q
                simp [ih q2]
            exact this oF
          refine ⟨.ref ad, hv, ad, C, dx, gs, rfl, hH, hc'.1, hc'.2 fok, by rw [lf]; omega, ?_⟩
          -- the instance with one field stored
          have nad : ad ∈ A2 i := by rw [eA]; simp
          obtain ⟨fa, za, ha⟩ := s2.fr i ad nad
          have nA : (ad :: B0).Nodup := by rw [← eA]; exact s2.nd i
          have nab : ad ∉ B0 := (List.nodup_cons.mp nA).1
          have nb2 : ad ∉ B2 := re2.dj i ad nad
          have keep : ∀ b, b ≠ ad → (L2.upd H1 ad (.ins C dx (putF nm x gs))) b = H1 b := fun b hb => upd_ne hb
          have oF' : ORF c Z2 (L2.upd H1 ad (.ins C dx (putF nm x gs))) fs gs B0 := ORF.keep (Same.refl _) fs gs B0 (fun b hb => keep b fun z => nab (z ▸ hb)) oF
          have om' : OR c Z2 (L2.upd H1 ad (.ins C dx (putF nm x gs))) m x B2 := OR.keep (Same.refl _) m x B2 (fun b hb => keep b fun z => nb2 (z ▸ hb)) re2.rr
          obtain ⟨B3, o3, m3, n3⟩ := ORF.put hf om' oF'
          have li : i < σ.length := (List.getElem?_eq_some_iff.mp hv).1
          have sub : ∀ b ∈ B3, b ≠ ad ∧ F b = none ∧ Z2 b = none := fun b hb => by
            rcases m3 b hb with z | z
            · exact ⟨fun y => nb2 (y ▸ z), (re2.fr b z).1, (re2.fr b z).2.1⟩
            · have hb' : b ∈ A2 i := by rw [eA]; exact List.mem_cons_of_mem _ z
              exact ⟨fun y => nab (y ▸ z), (s2.fr i b hb').1, (s2.fr i b hb').2.1⟩
          have s3 := s2.put (B' := ad :: B3) (i := i) (σ' := σ) (m' := .ins ci (putA f m fs)) (v := .ref ad) (Z' := Z2) (H' := L2.upd H1 ad (.ins C dx (putF nm x gs))) hv (fun _ _ => rfl) rfl (Same.refl _)
            (fun b u e => by rw [upd_ne (ne_of_none e za)]; exact s2.zh _ _ e) (fun b u e => by rw [upd_ne (ne_of_none e fa)]; exact s2.fh _ _ e) s2.fz (s2.tz.upd fun _ z => by cases z)
            ⟨ad, C, dx, _, B3, rfl, rfl, hC, upd_same, o3, fun p hp => by
              rcases putA_keys f m fs p hp with z | ⟨p', h1, h2⟩
              · rw [z]; exact fok
              · rw [← h2]; exact ok p' h1⟩
            (List.nodup_cons.mpr ⟨fun z => (sub ad z).1 rfl, n3 (List.nodup_cons.mp nA).2 re2.nd fun b hb z => re2.dj i b (by rw [eA]; exact List.mem_cons_of_mem _ z) hb⟩)
            (fun j b hj hb => by
              have nb : b ∉ A2 i := fun z => hj (s2.dj j i b hb z)
              have n1 : b ≠ ad := fun z => nb (z ▸ nad)
              refine ⟨upd_ne n1, (s2.fr j b hb).2.1, fun z => ?_⟩
              rcases List.mem_cons.mp z with z | z
              · exact n1 z
              · rcases m3 b z with y | y
                · exact re2.dj j b hb y
                · exact nb (by rw [eA]; exact List.mem_cons_of_mem _ y))
            (fun b hb => by
              rcases List.mem_cons.mp hb with z | z
              · rw [z]; exact ⟨fa, za⟩
              · exact ⟨(sub b z).2.1, (sub b z).2.2⟩)
          exact g σ _ Z2 _ (po.zz.trans zz) s3 (Kp.refl _ _)
        · cases e
      · cases e
/-- a store by an index, in a list or a dict of the layer -/
def rSt : TSet := fun o i v H Q => L2.rSetL o i v H Q ∨ ∃ a H', o = .ref a ∧ DPut H a i v H' ∧ Q H'
theorem set_st (hu : X.A.units + 65 < cLine) : PSet X rSt := by
  intro pins s σ H o i v ov iv u Q I ro ri rv h
  rcases h with h | ⟨a, H', rfl, g, q⟩
  · exact set_list pins s σ H o i v ov iv u Q I ro ri rv h
  · obtain rfl : ov = Value.ref a := ro
    exact d_setItem (by omega) I g ri rv fun s' I' => ⟨H', I', q⟩
theorem setIx_ok (s : Sta c F Z H σ τ A) {i : Nat} {f : Option Nat} {m m' : M} {x k v : V} {kd d : D} (w : OpW c Z H σ (.pl i f) x) (h : getP τ i f = some m) (e : setIx m kd d = some m') (rk : Rep c Z kd k) (rv : Rep c Z d v) {Q : Hp → Prop}
    (kk : ∀ H' A', Sta c F Z H' σ (setP τ i m' f) A' → Q H') : rSt x k v H Q := by
  cases m with
  | lst xs =>
    cases kd with
    | int j =>
      unfold setIx at e
      simp only at e
      split at e
      · rename_i q eq
        cases e
        obtain ⟨l, rfl, o, _, _, put⟩ := cell_at s w h one_lst
        obtain ⟨l', vs, q1, _, hl, rl⟩ := o
        cases q1
        obtain ⟨A', st⟩ := put (.lst (xs.set q d)) (.lst (vs.set q v)) ⟨l, vs.set q v, rfl, rfl, upd_same, RepL.set rv q _ _ rl⟩
        refine .inl ⟨l, vs, j, q, rfl, rk, hl, by rw [RepL.len _ _ rl]; exact eq, kk _ A' st⟩
      · cases e
    | _ => simp [setIx] at e
  | dK ks vs =>
    have e' : (match keyD kd with
      | some q => if vs.length < SL then some (M.dK (dPut ks vs q d).1 (dPut ks vs q d).2) else none
      | none => none) = some m' := by
      rw [← e]
      cases kd <;> rfl
    split at e'
    · rename_i q eq
      split at e'
      · rename_i hl
        cases e'
        obtain ⟨l, rfl, o, _, _, put⟩ := cell_at s w h one_dK
        obtain ⟨l', kvs, ws, q1, _, hl', rfl, rfl, rl⟩ := o
        cases q1
        obtain ⟨p1, p2⟩ := dPut_rep (q := q) rv rl
        obtain ⟨A', st⟩ := put (.dK (dPut (kvs.map (·.1)) vs q d).1 (dPut (kvs.map (·.1)) vs q d).2) (.dK (putK kvs q v)) ⟨l, putK kvs q v, _, rfl, rfl, upd_same, p1, rfl, p2⟩
        have ek : k = kV q := keyD_rep eq (Vw.of s.zh rk)
        have ln := RepL.len _ _ rl
        rw [List.length_map] at ln
        exact .inr ⟨l, _, rfl, by rw [ek]; exact DPut.k hl' (by rw [ln, ← sl_eq]; exact hl), kk _ A' st⟩
      · cases e'
    · cases e'
  | v d' => simp [setIx] at e
  | dT ks vs =>
    have e' : (match keyT kd with
      | some q => if vs.length < SL then some (M.dT (dPut ks vs q d).1 (dPut ks vs q d).2) else none
      | none => none) = some m' := by
      rw [← e]
      cases kd <;> rfl
    split at e'
    · rename_i q eq
      split at e'
      · rename_i hl
        cases e'
        obtain ⟨l, rfl, o, _, _, put⟩ := cell_at s w h one_dT
        obtain ⟨l', kvs, ws, q1, _, hl', rfl, rfl, rl⟩ := o
        cases q1
        obtain ⟨p1, p2⟩ := dPut_rep (q := q) rv rl
        obtain ⟨A', st⟩ := put (.dT (dPut (kvs.map (·.1)) vs q d).1 (dPut (kvs.map (·.1)) vs q d).2) (.dT (putK kvs q v)) ⟨l, putK kvs q v, _, rfl, rfl, upd_same, p1, rfl, p2⟩
        obtain ⟨b, rfl, hb⟩ := keyT_rep s.zh eq (Vw.of s.zh rk)
        have ln := RepL.len _ _ rl
        rw [List.length_map] at ln
        exact .inr ⟨l, _, rfl, DPut.t hl' hb (by rw [ln, ← sl_eq]; exact hl), kk _ A' st⟩
      · cases e'
    · cases e'
  | ins _ _ => simp [setIx] at e
def plE (i : Nat) : Option Nat → CE
  | none => .s i
  | some f => .fld (.s i) f
theorem place_pure {i : Nat} {f : Option Nat} {m : M} (h : getP τ i f = some m) (hv : isV m = false) : evE G cl true (plE i f) τ = some (.pl i f, τ) := by
  cases f with
  | none =>
    have h' : slotM τ i = some m := h
    unfold plE evE
    rw [h']
    cases m with
    | v d => cases hv
    | _ => rfl
  | some f =>
    obtain ⟨k, fs, e1, e2⟩ := getP_field h
    unfold plE
    unfold evE
    unfold evE
    rw [e1]
    simp only
    rw [h]
    cases m with
    | v d => cases hv
    | _ => rfl
theorem setIx_nv {m m' : M} {k d : D} (h : setIx m k d = some m') : isV m = false := by
  cases m with
  | v d => cases h
  | _ => rfl
theorem iset_use {i : Nat} {f : Option Nat} {k : CE} {De : Ends} {r : R} {dd kd : D} {τk : T} {m m' : M} (s : Sta c F Z H σ τ A) (e1 : evE G cl false a τ = some (r, τ1)) (e2 : esc false τ1 r = some (dd, τ2)) (e3 : evE G cl true k τ2 = some (.d kd, τk)) (e4 : getP τ2 i f = some m) (e5 : setIx m kd dd = some m')
    (g : Goes c F Z io σ De (.nx (setP τ2 i m' f))) : tAsg (tE c G cl a) (gSub (tE c G cl (plE i f)) (tE c G cl k) rSt) De σ H := by
  refine ⟨false, F, Z, τ, A, r, τ1, s, e1, fun x H1 Z1 A1 B po re => ?_⟩
  obtain ⟨Z2, A2, po2, rp⟩ := esc_ok po.st re e2
  refine one_op po2.st (place_pure e4 (setIx_nv e5)) fun o H3 Z3 A3 po3 w3 => ?_
  obtain ⟨_, t3, a3⟩ := po3.pu rfl
  refine one_op po3.st e3 fun y H4 Z4 A4 po4 w4 => ?_
  obtain ⟨_, t4, _⟩ := po4.pu rfl
  subst t4
  have w3' : OpW c Z3 H3 σ (.pl i f) o := w3
  have w5 := OpW.keep w3' po4 fun _ => rfl
  exact setIx_ok po4.st w5 e4 e5 w4 (Rep.mono (po3.zz.trans po4.zz) _ _ rp) fun H' A' st => g σ H' Z4 A' (((po.zz.trans po2.zz).trans po3.zz).trans po4.zz) st (Kp.refl _ _)
theorem k_iset {i : Nat} {k : CE} {st : Stmt} (h : PS X st (tAsg (tE c G cl a) (gSub (tE c G cl (.s i)) (tE c G cl k) rSt))) : PS X st (tS c G cl io (.iset i k a)) := ps_imp h fun D σ H q => by
  obtain ⟨F, Z, τ, A, fl, s, e, g⟩ := q
  unfold evS at e
  split at e
  · cases e
  · rename_i r τ1 e1
    split at e
    · cases e
    · rename_i dd τ2 e2
      split at e
      · rename_i kd τk e3
        split at e
        · rename_i m e4
          split at e
          · rename_i m' e5
            cases e
            exact iset_use (f := none) s e1 e2 e3 e4 e5 g
          · cases e
        · cases e
      · cases e
theorem k_fiset {i f : Nat} {k : CE} {st : Stmt} (h : PS X st (tAsg (tE c G cl a) (gSub (tE c G cl (.fld (.s i) f)) (tE c G cl k) rSt))) : PS X st (tS c G cl io (.fiset i f k a)) := ps_imp h fun D σ H q => by
  obtain ⟨F, Z, τ, A, fl, s, e, g⟩ := q
  unfold evS at e
  split at e
  · cases e
  · rename_i r τ1 e1
    split at e
    · cases e
    · rename_i dd τ2 e2
      split at e
      · rename_i kd τk e3
        split at e
        · rename_i m e4
          split at e
          · rename_i m' e5
            cases e
            exact iset_use (f := some f) s e1 e2 e3 e4 e5 g
          · cases e
        · cases e
      · cases e
theorem k_kset {i : Nat} {f : Option Nat} {ces : CEs} {st : Stmt} (h : PS X st (tAsg (tE c G cl a) (gSub (tE c G cl (plE i f)) (tTup (tX c G cl ces)) rSt))) : PS X st (tS c G cl io (.kset i f ces a)) := ps_imp h fun D σ H q => by
  obtain ⟨F, Z, τ, A, fl, s, e, g⟩ := q
  unfold evS at e
  split at e
  · cases e
  · rename_i r τ1 e1
    split at e
    · cases e
    · rename_i dd τ2 e2
      split at e
      · rename_i ds τk e3
        split at e
        · rename_i ks vs q e4 e5
          split at e
          · rename_i hl
            cases e
            refine ⟨false, F, Z, τ, A, r, τ1, s, e1, fun x H1 Z1 A1 B po re => ?_⟩
            obtain ⟨Z2, A2, po2, rp⟩ := esc_ok po.st re e2
            refine one_op po2.st (place_pure e4 rfl) fun o H3 Z3 A3 po3 w3 => ?_
            refine ⟨true, F, Z3, τ2, A3, ds, τk, po3.st, e3, fun xs H4 Z4 A4 po4 rl => ⟨by rw [RepL.len _ _ rl, ← sl_eq]; exact hl.2, fun t ht => ?_⟩⟩
            obtain ⟨_, t4, _⟩ := po4.pu rfl
            subst t4
            have w3' : OpW c Z3 H3 σ (.pl i f) o := w3
            have po5 := tup_new (p := true) po4.st rl ht
            have w5 := OpW.keep (OpW.keep w3' po4 fun _ => rfl) po5 fun _ => rfl
            obtain ⟨l, rfl, oo, _, _, put⟩ := cell_at po5.st w5 e4 one_dT
            obtain ⟨l', kvs, ws, q1, _, hl', rfl, rfl, rv⟩ := oo
            cases q1
            obtain ⟨p1, p2⟩ := dPut_rep (q := q) (Rep.mono ((po3.zz.trans po4.zz).trans po5.zz) _ _ rp) rv
            obtain ⟨A', st⟩ := put (.dT (dPut (kvs.map (·.1)) vs q dd).1 (dPut (kvs.map (·.1)) vs q dd).2) (.dT (putK kvs q x)) ⟨l, putK kvs q x, _, rfl, rfl, upd_same, p1, rfl, p2⟩
            have ex := keysD_rep e5 rl
            have ln := RepL.len _ _ rv
            rw [List.length_map] at ln
            refine .inr ⟨l, _, rfl, DPut.t hl' (by rw [upd_same, ex]) (by rw [ln, ← sl_eq]; exact hl.1), ?_⟩
            exact g σ _ _ A' ((((po.zz.trans po2.zz).trans po3.zz).trans po4.zz).trans po5.zz) st (Kp.refl _ _)
          · cases e
        · cases e
      · cases e
theorem k_bad {st : Stmt} : PS X st (tS c G cl io .bad) := ⟨fun pins s σ H D I q => by
  obtain ⟨F, Z, τ, A, fl, s, e, g⟩ := q
  unfold evS at e
  cases e⟩
theorem k_ex {st : Stmt} (h : PS X st (tDrop (tE c G cl a))) : PS X st (tS c G cl io (.ex a)) := ps_imp h fun D σ H q => by
  obtain ⟨F, Z, τ, A, fl, s, e, g⟩ := q
  unfold evS at e
  cases e1 : evE G cl false a τ with
  | none => rw [e1] at e; cases e
  | some t =>
    obtain ⟨r, τ1⟩ := t
    rw [e1] at e
    cases e
    exact ⟨false, F, Z, τ, A, r, τ1, s, e1, fun x H1 Z1 A1 B po re => g σ H1 Z1 A1 po.zz po.st (Kp.refl _ _)⟩
theorem k_ret {st : Stmt} (h : PS X st (tRet (tE c G cl a))) : PS X st (tS c G cl io (.ret a)) := ps_imp h fun De σ H q => by
  obtain ⟨F, Z, τ, A, fl, s, e, g⟩ := q
  unfold evS at e
  split at e
  · cases e
  · rename_i r τ1 e1
    refine ⟨false, F, Z, τ, A, r, τ1, s, e1, fun x H1 Z1 A1 B po re => ?_⟩
    have val : ∀ {d : D} {τ2 : T}, esc false τ1 r = some (d, τ2) → some (Fl.ret (.v d) τ2) = some fl → De.rt x H1 := by
      intro d τ2 e2 e3
      cases e3
      obtain ⟨Z2, A2, po2, rp⟩ := esc_ok po.st re e2
      exact g x σ H1 Z2 A2 [] (po.zz.trans po2.zz) po2.st (Kp.refl _ _) ⟨⟨rfl, rp⟩, List.nodup_nil, fun _ _ _ h => (by cases h), fun _ h => by cases h⟩
    split at e
    · rename_i m
      cases e
      exact g x σ H1 Z1 A1 B po.zz po.st (Kp.refl _ _) re
    · rename_i i
      split at e
      · split at e
        · rename_i d τ2 e2
          exact val e2 e
        · cases e
      · split at e
        · rename_i m em
          cases e
          obtain ⟨v, hv, o⟩ := po.st.own i m (slotM_some em)
          have q1 := re.rr.2.1
          rw [hv] at q1
          cases q1
          refine g x σ H1 Z1 _ (A1 i) po.zz (po.st.drop i) (Kp.refl _ _) ⟨o, po.st.nd i, fun j b hb h => ?_, fun b hb => po.st.fr i b hb⟩
          by_cases z : j = i
          · subst z; rw [put1_same] at hb; cases hb
          · rw [put1_ne z] at hb
            exact z (po.st.dj j i b hb h)
        · cases e
    · split at e
      · rename_i d τ2 e2
        exact val e2 e
      · cases e
theorem k_retN {st : Stmt} (h : PS X st tRetN) : PS X st (tS c G cl io .retN) := ps_imp h fun D σ H q => by
  obtain ⟨F, Z, τ, A, fl, s, e, g⟩ := q
  unfold evS at e
  cases e
  exact g .non σ H Z A [] (Same.refl _) s (Kp.refl _ _) ⟨⟨rfl, rfl⟩, List.nodup_nil, fun _ _ _ h => (by cases h), fun _ h => by cases h⟩
theorem k_pass {st : Stmt} (h : PS X st tNext) : PS X st (tS c G cl io .pass) := ps_imp h fun D σ H q => by
  obtain ⟨F, Z, τ, A, fl, s, e, g⟩ := q
  unfold evS at e
  cases e
  exact g σ H Z A (Same.refl _) s (Kp.refl _ _)
theorem k_brk {st : Stmt} (h : PS X st tBreak) : PS X st (tS c G cl io .brk) := ps_imp h fun D σ H q => by
  obtain ⟨F, Z, τ, A, fl, s, e, g⟩ := q
  unfold evS at e
  cases e
  exact g σ H Z A (Same.refl _) s (Kp.refl _ _)
theorem k_cont {st : Stmt} (h : PS X st tCont) : PS X st (tS c G cl io .cont) := ps_imp h fun D σ H q => by
  obtain ⟨F, Z, τ, A, fl, s, e, g⟩ := q
  unfold evS at e
  cases e
  exact g σ H Z A (Same.refl _) s (Kp.refl _ _)
theorem k_ite {t : CT} {x y : CSs} {st : Stmt} (h : PS X st (tIfS (tT c G cl t) (tSs c G cl io x) (tSs c G cl io y))) : PS X st (tS c G cl io (.ite t x y)) := ps_imp h fun D σ H q => by
  obtain ⟨F, Z, τ, A, fl, s, e, g⟩ := q
  unfold evS at e
  split at e
  · rename_i τ1 e1
    refine ⟨false, F, Z, τ, A, true, τ1, s, e1, fun H1 Z1 A1 po => iteT ⟨F, Z1, τ1, A1, fl, po.st, e, g.mono po.zz (Kp.refl _ _)⟩⟩
  · rename_i τ1 e1
    refine ⟨false, F, Z, τ, A, false, τ1, s, e1, fun H1 Z1 A1 po => iteF ⟨F, Z1, τ1, A1, fl, po.st, e, g.mono po.zz (Kp.refl _ _)⟩⟩
  · cases e
theorem k_nil : PSs X [] (tSs c G cl io .nil) := pss_imp pss_nil fun D σ H q => by
  obtain ⟨F, Z, τ, A, fl, s, e, g⟩ := q
  unfold evSs at e
  cases e
  exact g σ H Z A (Same.refl _) s (Kp.refl _ _)
theorem k_cons {st : Stmt} {sts : List Stmt} {x : CS} {r : CSs} (h1 : PS X st (tS c G cl io x)) (h2 : PSs X sts (tSs c G cl io r)) : PSs X (st :: sts) (tSs c G cl io (.cons x r)) := pss_imp (pss_cons h1 h2) fun D σ H q => by
  obtain ⟨F, Z, τ, A, fl, s, e, g⟩ := q
  unfold evSs at e
  split at e
  · rename_i τ1 e1
    exact ⟨F, Z, τ, A, .nx τ1, s, e1, fun σ' H' Z' A' zz s' kp => ⟨F, Z', τ1, A', fl, s', e, g.mono zz kp⟩⟩
  · rename_i r0 hn
    refine ⟨F, Z, τ, A, fl, s, e, ?_⟩
    cases fl with
    | nx τ' => exact absurd e (hn τ')
    | bk τ' => exact g
    | ct τ' => exact g
    | ret m τ' => exact g
theorem k_whl {t : CT} {x : CSs} {st : Stmt} (h : PS X st (tWhile (tT c G cl t) (tSs c G cl io x))) : PS X st (tS c G cl io (.whl t x)) := ps_imp h fun D σ H q => by
  obtain ⟨F, Z, τ, A, fl, s, e, g⟩ := q
  unfold evS at e
  refine ⟨fun n σ' H' => ∃ Z' τ' A', Same Z Z' ∧ Sta c F Z' H' σ' τ' A' ∧ Kp io σ σ' ∧ whileL (evT G cl false t) (fun t' => evSs G cl io x t') n τ' = some fl, ⟨WF, Z, τ, A, Same.refl _, s, Kp.refl _ _, e⟩, ?_⟩
  rintro n σ1 H1 ⟨Z1, τ1, A1, zz, s1, kp, e1⟩
  cases n with
  | zero => unfold whileL at e1; cases e1
  | succ n =>
    unfold whileL at e1
    split at e1
    · cases e1
    · rename_i τ2 e2
      cases e1
      refine ⟨false, F, Z1, τ1, A1, false, τ2, s1, e2, fun H2 Z2 A2 po => iteF ?_⟩
      exact g σ1 H2 Z2 A2 (zz.trans po.zz) po.st kp
    · rename_i τ2 e2
      refine ⟨false, F, Z1, τ1, A1, true, τ2, s1, e2, fun H2 Z2 A2 po => iteT ?_⟩
      refine ⟨fun σ' H' => ∃ Z' τ' A', Same Z Z' ∧ Sta c F Z' H' σ' τ' A' ∧ Kp io σ σ' ∧ whileL (evT G cl false t) (fun t' => evSs G cl io x t') n τ' = some fl, fun σ' H' w => ⟨n, Nat.lt_succ_self _, w⟩, ?_⟩
      split at e1
      · rename_i τ3 e3
        exact ⟨F, Z2, τ2, A2, .nx τ3, po.st, e3, fun σ3 H3 Z3 A3 z3 s3 k3 => ⟨Z3, τ3, A3, (zz.trans po.zz).trans z3, s3, kp.trans k3, e1⟩⟩
      · rename_i τ3 e3
        exact ⟨F, Z2, τ2, A2, .ct τ3, po.st, e3, fun σ3 H3 Z3 A3 z3 s3 k3 => ⟨Z3, τ3, A3, (zz.trans po.zz).trans z3, s3, kp.trans k3, e1⟩⟩
      · rename_i τ3 e3
        cases e1
        exact ⟨F, Z2, τ2, A2, .bk τ3, po.st, e3, fun σ3 H3 Z3 A3 z3 s3 k3 => g σ3 H3 Z3 A3 ((zz.trans po.zz).trans z3) s3 (kp.trans k3)⟩
      · rename_i r0 n1 n2 n3
        refine ⟨F, Z2, τ2, A2, fl, po.st, e1, ?_⟩
        cases fl with
        | nx τ' => exact absurd e1 (n1 τ')
        | bk τ' => exact absurd e1 (n3 τ')
        | ct τ' => exact absurd e1 (n2 τ')
        | ret m τ' => exact Goes.mono (fl := .ret m τ') g (zz.trans po.zz) kp
theorem k_loop {tg : Tg} {it : CI} {x : CSs} {st : Stmt} (h : PS X st (tFor (tI c G cl it) (gT c.K tg) (tSs c G cl io x))) : PS X st (tS c G cl io (.loop tg it x)) := ps_imp h fun D σ H q => by
  obtain ⟨F, Z, τ, A, fl, s, e, g⟩ := q
  unfold evS at e
  split at e
  · cases e
  · rename_i ds τ1 e0
    refine ⟨false, F, Z, τ, A, ds, τ1, s, e0, fun J H1 Z1 A1 po wd => ?_⟩
    refine for_it wd (fun i σ' H' => ∃ Z' τ' A', Same Z1 Z' ∧ Sta c F Z' H' σ' τ' A' ∧ Kp io σ σ' ∧ forL (bindTg io tg) (fun t' => evSs G cl io x t') (ds.drop i) τ' = some fl) ⟨Z1, τ1, A1, Same.refl _, po.st, Kp.refl _ _, e⟩ ?_ ?_ ?_
    · rintro i σ' H' hi ⟨Z', τ', A', zz, st, _⟩
      exact zz.trans st.zh
    · rintro i v σ2 H2 H3 hi ⟨Z2, τ2, A2, zz, s2, kp, e2⟩ ⟨dd, hd, nw⟩
      have dr : ds.drop i = dd :: ds.drop (i + 1) := by
        rw [List.getElem?_eq_some_iff] at hd
        obtain ⟨l, e⟩ := hd
        rw [List.drop_eq_getElem_cons l, e]
      rw [dr] at e2
      unfold forL at e2
      have nw' : NewR c Z2 H2 (.d dd) v H3 := by
        rcases nw with ⟨d', e1, e2, q⟩ | ⟨a, vs, ds', e1, e2, na, e3, q⟩ | ⟨a, vs, ds', e1, _⟩
        · exact .inl ⟨d', e1, e2, Rep.mono zz _ _ q⟩
        · exact .inr (.inl ⟨a, vs, ds', e1, e2, na, e3, RepL.mono zz _ _ q⟩)
        · cases e1
      obtain ⟨Z3, z3, s3, rd, _, _⟩ := NewR.dval s2 nw'
      split at e2
      · cases e2
      · rename_i τ4 e4
        refine bind_ok tg e4 s3 rd fun σ5 A5 s5 l5 o5 _ => ?_
        have k5 : Kp io σ σ5 := kp.trans (kp_bind e4 o5)
        have z5 := (po.zz.trans zz).trans z3
        split at e2
        · rename_i τ6 e6
          exact ⟨F, Z3, τ4, A5, .nx τ6, s5, e6, fun σ7 H7 Z7 A7 z7 s7 k7 => ⟨Z7, τ6, A7, (zz.trans z3).trans z7, s7, k5.trans k7, e2⟩⟩
        · rename_i τ6 e6
          exact ⟨F, Z3, τ4, A5, .ct τ6, s5, e6, fun σ7 H7 Z7 A7 z7 s7 k7 => ⟨Z7, τ6, A7, (zz.trans z3).trans z7, s7, k5.trans k7, e2⟩⟩
        · rename_i τ6 e6
          cases e2
          exact ⟨F, Z3, τ4, A5, .bk τ6, s5, e6, fun σ7 H7 Z7 A7 z7 s7 k7 => g σ7 H7 Z7 A7 (z5.trans z7) s7 (k5.trans k7)⟩
        · rename_i r0 n1 n2 n3
          refine ⟨F, Z3, τ4, A5, fl, s5, e2, ?_⟩
          cases fl with
          | nx τ' => exact absurd e2 (n1 τ')
          | bk τ' => exact absurd e2 (n3 τ')
          | ct τ' => exact absurd e2 (n2 τ')
          | ret m τ' => exact Goes.mono (fl := .ret m τ') g z5 k5
    · rintro σ2 H2 ⟨Z2, τ2, A2, zz, s2, kp, e2⟩
      rw [List.drop_length] at e2
      unfold forL at e2
      cases e2
      exact g σ2 H2 Z2 A2 (po.zz.trans zz) s2 kp
end
end
end Ev

/-! Ev, part Q: more forms of expressions: xs[::-1] of a list. -/
namespace Ev
open PySem L2 PyProof.Rows
section
variable {X : Cx} {e es : Expr} {te : TE} {th : TO} {pos p2 : Pos}
def rRevL (K : PySem.W.Frag) : V → Hp → VK → Prop := fun x H Q => ∃ a xs, x = .ref a ∧ ((SqL K H a xs ∧ ∀ p, H p = none → Q (.ref p) (upd H p (.lst xs.reverse))) ∨ SqT K H a xs ∧ ∀ p, H p = none → Q (.ref p) (upd H p (.tup xs.reverse)))
theorem vals_rev : ∀ {xs : List V} {us : List Value}, Vals xs us → Vals xs.reverse us.reverse := by
  intro xs us r
  induction r with
  | nil => exact .nil
  | cons r1 r2 ih => rw [List.reverse_cons, List.reverse_cons]; exact ih.append (.cons r1 .nil)
theorem back_applied {prog : Program} {w : World} {A : Around} {E : Value → Shared → Prop} {s : Shared} {sl : Addr} {vk : Value} {n : Nat} {Q : Int × Int × Nat → Shared → Prop} (hs : s.heap.IsSliceOf sl .none .none vk) (pk : IsPart vk (some (-1)))
    (h : Q ((n : Int) - 1, -1, n) s) : wpAny (model prog w) A (Builtin.Slice.sliceApplied (.ref sl) (pure (n : Int))) Q E s := by
  obtain ⟨os, h1, h2, h3⟩ := id hs
  unfold Builtin.Slice.sliceApplied Builtin.Slice.sliceFields
  refine wpAny_bind (wpAny_bind (wpAny_field h1 h3 (x := .none) rfl (wpAny_bind (wpAny_field h1 h3 (x := .none) rfl (wpAny_bind (wpAny_field h1 h3 (x := vk) rfl (wpAny_pure ?_)))))))
  refine wpAny_bind (HT.slicePart_ pk ?_)
  show wpAny _ _ (if ((-1 : Int) == 0) = true then _ else _) _ _ s
  rw [if_neg (by decide)]
  refine wpAny_bind (slicePart_none (wpAny_bind (slicePart_none (wpAny_bind (wpAny_pure ?_)))))
  show wpAny _ _ (match Builtin.Slice.sliceAdjust none none (-1) (n : Int) with | (lo, hi) => pure (lo, (-1 : Int), Builtin.Slice.slicePlaces lo hi (-1))) _ _ s
  have e1 : Builtin.Slice.sliceAdjust none none (-1) (n : Int) = ((n : Int) - 1, -1) := by
    unfold Builtin.Slice.sliceAdjust
    rfl
  have e2 : Builtin.Slice.slicePlaces ((n : Int) - 1) (-1) (-1) = n := by
    unfold Builtin.Slice.slicePlaces
    simp
    omega
  rw [e1]
  show wpAny _ _ (pure ((n : Int) - 1, (-1 : Int), Builtin.Slice.slicePlaces ((n : Int) - 1) (-1) (-1))) _ _ s
  rw [e2]
  exact wpAny_pure h
theorem back_pick (xs : Array Value) : ((List.range xs.size).filterMap fun (k : Nat) => xs[(((xs.size : Int) - 1) + (k : Int) * (-1)).toNat]?).toArray = xs.toList.reverse.toArray := by
  rw [← PySem.W.krv_all xs, ← List.filterMap_reverse]
  have e : (List.range xs.size).reverse = (List.range xs.size).map fun k => xs.size - 1 - k := (PySem.W.krv_range xs.size).symm
  rw [e, List.filterMap_map]
  congr 1
  have key : ∀ l : List Nat, (∀ k ∈ l, k < xs.size) → (l.filterMap fun (k : Nat) => xs[(((xs.size : Int) - 1) + (k : Int) * (-1)).toNat]?) = l.filterMap ((fun i => xs[i]?) ∘ fun k => xs.size - 1 - k) := by
    intro l
    induction l with
    | nil => intro _; rfl
    | cons k l ih =>
      intro h
      have hk := h k (List.mem_cons_self ..)
      have e : (((xs.size : Int) - 1) + (k : Int) * (-1)).toNat = xs.size - 1 - k := by omega
      rw [List.filterMap_cons, List.filterMap_cons, ih fun j hj => h j (List.mem_cons_of_mem _ hj)]
      simp only [Function.comp, e]
  exact key _ fun k hk => List.mem_range.mp hk
theorem getItem_tup_back {prog : Program} {w : World} {A : Around} {E : Value → Shared → Prop} {s : Shared} {t sl : Addr} {items : Array Value} {vk : Value} {Q : Value → Shared → Prop} (ht : IsTup s.heap t items) (hs : s.heap.IsSliceOf sl .none .none vk) (pk : IsPart vk (some (-1)))
    (h : Q (.ref s.heap.objs.size) { s with heap := s.heap.push { cls := .type "tuple", data := .seq items.toList.reverse.toArray } }) (hsz : items.size ≤ sizeLine) : wpAny (model prog w) A (getItem (.ref t) (.ref sl)) Q E s := by
  obtain ⟨os, h1, h2, h3⟩ := id hs
  have hTs : s.TypeIs (.ref sl) "slice" := ⟨os, h1, h2⟩
  have fits : sizeOk (.seq items.toList.reverse.toArray) := by
    show items.toList.reverse.toArray.size ≤ sizeLine
    simpa using hsz
  unfold getItem
  try with_reducible refine wpAny_holding ?_
  first | refine wpAny_bind (wpAny_pure ?_) | skip
  refine wpAny_bind (wpAny_sequenceKey ht.typeIs (by decide) ?_)
  refine wpAny_bind (wpAny_callSpecial?_slot (name := Str.ofString "__getitem__") ht.typeIs PyProof.Rows.slot_tuple_getitem
    (wpAny_call_entry PyProof.Rows.slot_tuple_getitem ht.typeIs entry_tuple_getitem ?_ (args_tuple_getitem _ _)))
  show wpAny _ _ (Builtin.Tuple.tupleItemsOf (.ref t) >>= _) _ _ s
  refine wpAny_bind (PyProof.Rows.tupleItemsOf_ ht ?_)
  refine wpAny_bind (wpAny_typeOf hTs ?_)
  rw [if_pos (by decide)]
  refine wpAny_bind (back_applied hs pk ?_)
  have hno : ¬ ((((items.size : Int) - 1) == 0 && (-1 : Int) == 1 && items.size == items.size) = true) := by
    intro q
    rw [Bool.and_eq_true, Bool.and_eq_true] at q
    exact absurd q.1.2 (by decide)
  show wpAny _ _ (if (((items.size : Int) - 1) == 0 && (-1 : Int) == 1 && items.size == items.size) = true then _ else _) _ _ s
  rw [if_neg hno, back_pick]
  first
    | exact wpAny_bind (m := Builtin.Tuple.tupleExact _) (wpAny_newObj_type (wpAny_pure ⟨_, rfl, wpAny_pure h⟩) fits)
    | exact wpAny_bind (m := Builtin.Tuple.tupleExact _) (wpAny_newObj_type (wpAny_bind (wpAny_pure (wpAny_pure ⟨_, rfl, wpAny_pure h⟩))) fits)
    | exact wpAny_bind (wpAny_bind (m := Builtin.Tuple.tupleExact _) (wpAny_newObj_type (wpAny_pure (wpAny_pure ⟨_, rfl, wpAny_pure h⟩)) fits))
    | exact wpAny_bind (wpAny_bind (m := Builtin.Tuple.tupleExact _) (wpAny_newObj_type (wpAny_pure ⟨_, rfl, wpAny_pure h⟩) fits))
theorem pe_revL (he : PE X e te) (hs : PO X (some es) th) : PE X (.Subscript e (.Slice none none (some es) p2) pos) (fun σ H Q => te σ H fun x H1 => th σ H1 fun o H2 => o = some (-1) ∧ rRevL X.K x H2 Q) := by
  refine ⟨fun pins s σ H Q I h => ?_⟩
  refine Subscript_ (thn (he.run pins s σ H _ I h) fun v s1 ⟨x, H1, I1, r1, q1⟩ => ?_)
  refine wpAny_Slice ?_
  rw [evalPart_none]
  refine wpAny_pure ?_
  refine wpAny_pure ?_
  refine thn (hs.run pins s1 σ H1 _ I1 q1) fun vk s2 ⟨o, H2, I2, pk, e1, q⟩ => ?_
  subst e1
  obtain ⟨a, xs, rfl, ⟨hx, q⟩ | ⟨hx, q⟩⟩ := q
  case inr =>
    cases r1
    have I4 : Inv X pins σ H2 { s2 with heap := s2.heap.push { cls := .type "slice", data := .fields #[.none, .none, vk] } } := I2.kept (t' := s2.toks) fun b ob q => Heap.get?_push_of_some _ q
    obtain ⟨its, r, ht, hz⟩ := I4.tuple hx
    show wpAny (model X.prog X.w) X.A (subscriptTail e (.Slice none none (some es) p2) (.ref a) (.ref s2.heap.objs.size)) (EP X pins σ Q) X.xe { s2 with heap := s2.heap.push { cls := .type "slice", data := .fields #[.none, .none, vk] } }
    refine tail_any (ops := [.ref a, .ref s2.heap.objs.size]) ht.typeIs PyProof.Rows.slot_tuple_getitem.lookup ?_ (by with_unfolding_all rfl)
    refine getItem_tup_back ht (Heap.IsSliceOf.new ..) pk ?_ (by rw [List.size_toArray, ← r.length]; exact hz)
    refine ⟨.ref _, _, I4.laid (t' := s2.toks) (o := .tup xs.reverse) (fun b ob q => Heap.get?_push_of_some _ q) (Nat.le_refl _) ?_, rfl, q _ (I4.hok.fresh (Nat.le_refl _))⟩
    exact ⟨by rw [List.length_reverse]; have := r.length; omega, _, vals_rev r, _, Heap.get?_push_size _ rfl, rfl, 0, rfl⟩
  cases r1
  have I4 : Inv X pins σ H2 { s2 with heap := s2.heap.push { cls := .type "slice", data := .fields #[.none, .none, vk] } } := I2.kept (t' := s2.toks) fun b ob q => Heap.get?_push_of_some _ q
  obtain ⟨its, r, ht, hz⟩ := I4.list hx
  show wpAny (model X.prog X.w) X.A (subscriptTail e (.Slice none none (some es) p2) (.ref a) (.ref s2.heap.objs.size)) (EP X pins σ Q) X.xe { s2 with heap := s2.heap.push { cls := .type "slice", data := .fields #[.none, .none, vk] } }
  refine tail_any (ops := [.ref a, .ref s2.heap.objs.size]) ht.isList.typeIs slot_list_getitem.lookup ?_ (by with_unfolding_all rfl)
  refine wpAny_getItem_list_slice ht.isList (Heap.IsSliceOf.new ..) .none .none pk (by decide) ?_ (by rw [List.size_toArray, ← r.length]; exact hz)
  rw [PySem.W.krv_pick]
  refine ⟨.ref _, _, I4.laid (t' := s2.toks) (o := .lst xs.reverse) (fun b ob q => Heap.get?_push_of_some _ q) (Nat.le_refl _) ?_, rfl, q _ (I4.hok.fresh (Nat.le_refl _))⟩
  exact ⟨by rw [List.length_reverse]; have := r.length; omega, _, 0, vals_rev r, Heap.get?_push_size _ rfl⟩
end
section
variable {X : Cx} {c : Cn} {G : GS} {cl : Caller} {a : CE} {ea es : Expr} {pos p2 : Pos}
def m1 : CE := .un .USub (.k (.int 1))
theorem revL {c : Cn} {Z : Hp} : ∀ {ds : List D} {vs : List V}, RepL c Z ds vs → RepL c Z ds.reverse vs.reverse
  | [], vs, q => by rw [show vs = [] from q]; exact (rfl : ([] : List V) = [])
  | d :: ds, vs, q => by
    obtain ⟨v, r, rfl, q1, q2⟩ := q
    rw [List.reverse_cons, List.reverse_cons]
    exact RepL.append _ _ _ _ (revL q2) (RepL.one q1)
theorem s_rev (hK : X.K = c.K) (ha : PE X ea (tE c G cl a)) (hs : PO X (some es) (tP c G cl m1)) : PE X (.Subscript ea (.Slice none none (some es) p2) pos) (tE c G cl (.rev a)) :=
  pe_imp (pe_revL ha hs) fun σ H Q q => by
    obtain ⟨p, F, Z, τ, A, r, τ', s, e, k⟩ := q
    unfold evE at e
    split at e
    · cases e
    · rename_i ra τ1 e1
      split at e
      · rename_i xs l1
        cases e
        refine one_op s e1 fun vx H1 Z1 A1 po1 w1 => ?_
        refine part_ok (lo := m1) (l := some (-1)) (p := p || ra.isF) po1.st rfl fun H2 Z2 A2 po2 => ?_
        have w2 := OpW.keep w1 po2 (fun z => by rw [setl_isF] at z; rw [z]; simp)
        have po := po1.trans po2 (fun z => by rw [z]; rfl)
        obtain ⟨b, vs, rfl, s1, r1⟩ := look_ok po2.st w2 l1
        exact ⟨rfl, b, vs, rfl, .inl ⟨SqL.of s1, fun q np => fin_new po (.inr (.inr ⟨q, _, _, rfl, rfl, np, rfl, revL r1⟩)) k⟩⟩
      · rename_i xs l1
        cases e
        refine one_op s e1 fun vx H1 Z1 A1 po1 w1 => ?_
        refine part_ok (lo := m1) (l := some (-1)) (p := p || ra.isF) po1.st rfl fun H2 Z2 A2 po2 => ?_
        have w2 := OpW.keep w1 po2 (fun z => by rw [setl_isF] at z; rw [z]; simp)
        have po := po1.trans po2 (fun z => by rw [z]; rfl)
        obtain ⟨b, vs, rfl, s1, r1⟩ := look_ok po2.st w2 l1
        exact ⟨rfl, b, vs, rfl, .inr ⟨by rw [hK]; exact (sqT_mono po2.st.zh s1).sq, fun q np => fin_new po (.inr (.inl ⟨q, _, _, rfl, rfl, np, rfl, revL r1⟩)) k⟩⟩
      · cases e
end
end Ev

/-! Ev, part Sa: tables of sets of any size below 4096: the search meets each slot; what is laid is found again. -/
namespace Ev
open PySem L2 PySem.Spec PyProof.Rows
/-! ### i -> 5 i + 1 goes through all numbers below a power of two -/
def geo : Nat → Nat
  | 0 => 0
  | n + 1 => 5 * geo n + 1
theorem geo_add (a : Nat) : ∀ b, geo (a + b) = 5 ^ b * geo a + geo b
  | 0 => by simp [geo]
  | b + 1 => by
    rw [← Nat.add_assoc, geo, geo_add a b, geo, Nat.pow_succ]
    rw [Nat.mul_add, ← Nat.mul_assoc, Nat.mul_comm 5 (5 ^ b)]
    omega
theorem geo_pow : ∀ n, 5 ^ n = 4 * geo n + 1
  | 0 => rfl
  | n + 1 => by rw [Nat.pow_succ, geo_pow n, geo]; omega
theorem geo_two : ∀ e, ∃ d, geo (2 ^ e) = 2 ^ e * (2 * d + 1)
  | 0 => ⟨0, rfl⟩
  | e + 1 => by
    obtain ⟨d, h⟩ := geo_two e
    have e1 : (2 : Nat) ^ (e + 1) = 2 ^ e + 2 ^ e := by rw [Nat.pow_succ]; omega
    rw [e1, geo_add, geo_pow]
    generalize geo (2 ^ e) = g at h
    refine ⟨2 * (d * g) + d + g, ?_⟩
    have e2 : (4 * g + 1) * g + g = 2 * g * (2 * g + 1) := by grind
    have e3 : 2 * g = (2 ^ e + 2 ^ e) * (2 * d + 1) := by grind
    rw [e2]
    generalize 2 ^ e + 2 ^ e = N at *
    grind
def run5 (x : Nat) : Nat → Nat
  | 0 => x
  | k + 1 => 5 * run5 x k + 1
theorem run5_eq (x : Nat) : ∀ k, run5 x k = 5 ^ k * x + geo k
  | 0 => by simp [run5, geo]
  | k + 1 => by rw [run5, run5_eq x k, geo, Nat.pow_succ, Nat.mul_add, ← Nat.mul_assoc, Nat.mul_comm 5 (5 ^ k)]; omega
theorem run5_add (x a : Nat) : ∀ b, run5 x (a + b) = run5 (run5 x a) b
  | 0 => rfl
  | b + 1 => by rw [← Nat.add_assoc, run5, run5_add x a b, run5]
theorem run5_hits : ∀ (e i j : Nat), ∃ k, k < 2 ^ e ∧ run5 i k % 2 ^ e = j % 2 ^ e
  | 0, i, j => ⟨0, by decide, by simp [Nat.mod_one]⟩
  | e + 1, i, j => by
    obtain ⟨k, hk, h⟩ := run5_hits e i j
    have e1 : (2 : Nat) ^ (e + 1) = 2 ^ e * 2 := Nat.pow_succ ..
    have hp : 0 < 2 ^ e := Nat.two_pow_pos e
    generalize hy : run5 i k = y at h
    by_cases c : y % 2 ^ (e + 1) = j % 2 ^ (e + 1)
    · exact ⟨k, by omega, by rw [hy]; exact c⟩
    · refine ⟨k + 2 ^ e, by omega, ?_⟩
      obtain ⟨d, hd⟩ := geo_two e
      rw [run5_add, hy, run5_eq, geo_pow, hd]
      generalize 2 ^ e = N at *
      have e2 : (4 * (N * (2 * d + 1)) + 1) * y + N * (2 * d + 1) = (y + N) + N * 2 * (2 * (2 * d + 1) * y + d) := by grind
      rw [e2, e1, Nat.add_mul_mod_self_left]
      rw [e1] at c
      -- y and j agree mod N but not mod 2 N
      have hy1 := Nat.mod_mul (x := y) (a := N) (b := 2)
      have hj1 := Nat.mod_mul (x := j) (a := N) (b := 2)
      have hs1 := Nat.mod_mul (x := y + N) (a := N) (b := 2)
      rw [Nat.add_mod_right, Nat.add_div_right _ hp] at hs1
      have b1 := Nat.mod_two_eq_zero_or_one (y / N)
      have b2 := Nat.mod_two_eq_zero_or_one (j / N)
      rw [hs1, hj1, h]
      rw [hy1, hj1, h] at c
      rcases b1 with b1 | b1 <;> rcases b2 with b2 | b2 <;> rw [b1, b2] at c <;> first | exact absurd rfl c | (have : (y / N).succ % 2 = 1 := by omega); rw [this, b2] | (have : (y / N).succ % 2 = 0 := by omega); rw [this, b2]
theorem lcg_run {m : Nat} (i : Nat) (hi : i ≤ m) : ∀ k, lcgI m i k = run5 i k % (m + 1)
  | 0 => (Nat.mod_eq_of_lt (Nat.lt_succ_of_le hi)).symm
  | k + 1 => by
    show (lcgI m i k * 5 + 1) % (m + 1) = (5 * run5 i k + 1) % (m + 1)
    rw [lcg_run i hi k, Nat.mul_comm, Nat.add_mod, Nat.mul_mod, Nat.mod_mod, ← Nat.mul_mod, ← Nat.add_mod]
/-- the masks that come -/
def Msk (m : Nat) : Prop := m = 7 ∨ m = 31 ∨ m = 127 ∨ m = 511 ∨ m = 2047 ∨ m = 8191
theorem Msk.pow {m : Nat} (h : Msk m) : ∃ e, m + 1 = 2 ^ e := by
  rcases h with h | h | h | h | h | h <;> subst h
  · exact ⟨3, rfl⟩
  · exact ⟨5, rfl⟩
  · exact ⟨7, rfl⟩
  · exact ⟨9, rfl⟩
  · exact ⟨11, rfl⟩
  · exact ⟨13, rfl⟩
theorem Msk.odd {m : Nat} (h : Msk m) : m % 2 = 1 := by unfold Msk at h; omega
theorem Msk.small {m : Nat} (h : Msk m) : m ≤ 8191 := by unfold Msk at h; omega
theorem Msk.all {m : Nat} (h : Msk m) {i j : Nat} (hi : i ≤ m) (hj : j ≤ m) : ∃ k, k ≤ m ∧ lcgI m i k = j := by
  obtain ⟨e, he⟩ := h.pow
  obtain ⟨k, hk, hr⟩ := run5_hits e i j
  refine ⟨k, by omega, ?_⟩
  rw [lcg_run i hi, he, hr]
  exact Nat.mod_eq_of_lt (by omega)
theorem Msk.run {m : Nat} (hm : Msk m) (h : Int) {j : Nat} (hj : j ≤ m) : ∃ n, n ≤ m + 12 ∧ runI m (SetTable.bits h) n = j := by
  obtain ⟨k, hk, e⟩ := hm.all (runI_le m (SetTable.bits h) 12) hj
  refine ⟨12 + k, by omega, ?_⟩
  rw [runI_tail (bits_lt h), e]
theorem Msk.meet {m : Nat} (hm : Msk m) (h : Int) {j : Nat} (hj : j ≤ m) : ∃ k, k < 10 * SetTable.turns m ∧ way m h k = j := by
  obtain ⟨n, hn, e⟩ := hm.run h hj
  obtain ⟨k, hk, e2⟩ := run_nth m (SetTable.bits h) n
  refine ⟨k, ?_, ?_⟩
  · show k < 10 * (m + 15)
    omega
  · show (nth m _ k).j = j
    rw [e2]; exact e
theorem way_in (m : Nat) (h : Int) (k : Nat) : way m h k ≤ m := by
  have hl : SetTable.bits h % (m + 1) ≤ m := Nat.le_of_lt_succ (Nat.mod_lt _ (Nat.succ_pos m))
  have r := runEnd_bd hl
  have q := nth_in (m := m) k (runAt m (SetTable.bits h % (m + 1)) (SetTable.bits h)) (by
    show SetTable.bits h % (m + 1) + (SetTable.runEnd m (SetTable.bits h % (m + 1)) - SetTable.bits h % (m + 1)) ≤ m
    generalize SetTable.bits h % (m + 1) = u at hl r ⊢
    omega)
  exact Nat.le_trans (Nat.le_add_right _ _) q
/-! ### a table whose elements are found again by their hashes -/
structure Lay (t : SetTable) (hs : List Int) : Prop where
  up : Ris t.place.toList
  dum : t.dummies = #[]
  cnt : t.place.size = hs.length
  msk : Msk t.mask
  top : ∀ x ∈ t.place.toList, x ≤ t.mask
  way : ∀ (i : Nat) (h : Int) (j : Nat), hs[i]? = some h → t.place.toList[i]? = some j → ∃ k, way t.mask h k = j ∧ ∀ k', k' < k → way t.mask h k' ∈ t.place.toList
section
variable {t : SetTable} {hs : List Int}
theorem Lay.len (T : Lay t hs) : t.place.toList.length = hs.length := by rw [Array.length_toList, T.cnt]
/-- where the way of a hash ends -/
theorem Lay.stop (T : Lay t hs) (hl : hs.length ≤ t.mask) (h : Int) : ∃ K, K < 10 * SetTable.turns t.mask ∧ L2.way t.mask h K ∉ t.place.toList ∧ ∀ k, k < K → L2.way t.mask h k ∈ t.place.toList := by
  obtain ⟨j, j1, j2⟩ := st_missing t.place.toList (t.mask + 1) (by rw [T.len]; omega)
  obtain ⟨k, k1, k2⟩ := T.msk.meet h (show j ≤ t.mask by omega)
  obtain ⟨K, a, b, d⟩ := st_least (p := fun n => L2.way t.mask h n ∉ t.place.toList) k (fun z => j2 (k2 ▸ z))
  exact ⟨K, by omega, b, fun n hn => Classical.not_not.mp (d n hn)⟩
/-- an element of this hash stands ahead of that end -/
theorem Lay.ahead (T : Lay t hs) {h : Int} {K i j : Nat} (hK : L2.way t.mask h K ∉ t.place.toList) (hi : hs[i]? = some h) (hj : t.place.toList[i]? = some j) : ∃ k, k < K ∧ L2.way t.mask h k = j := by
  obtain ⟨k, e, a⟩ := T.way i h j hi hj
  refine ⟨k, Nat.lt_of_not_le fun z => ?_, e⟩
  rcases Nat.eq_or_lt_of_le z with z | z
  · rw [z, e] at hK; exact hK (List.mem_of_getElem? hj)
  · exact hK (a K z)
theorem Lay.put (T : Lay t hs) {h : Int} {K p : Nat} (hK : L2.way t.mask h K ∉ t.place.toList) (hb : ∀ k, k < K → L2.way t.mask h k ∈ t.place.toList) (hp : SetTable.below t.place (L2.way t.mask h K) = p) :
    p ≤ hs.length ∧ Lay (t.put (L2.way t.mask h K)).1 (hs.take p ++ h :: hs.drop p) ∧ (t.put (L2.way t.mask h K)).1.fill = hs.length + 1 := by
  have ht := way_in t.mask h K
  generalize hj : L2.way t.mask h K = j at *
  have c1 : p ≤ t.place.toList.length := by rw [← hp]; exact (below_cut T.up j).1
  have c2 : p ≤ hs.length := by rw [← T.len]; exact c1
  have pl : (t.put j).1.place.toList = t.place.toList.take p ++ j :: t.place.toList.drop p := by rw [put_place, hp]
  have nj : t.place[SetTable.below t.place j]? ≠ some j := fun z => hK (List.mem_of_getElem? (by rw [Array.getElem?_toList]; exact z))
  have sz : (t.put j).1.place.size = hs.length + 1 := by rw [← Array.length_toList, pl, len_ins _ c1, T.len]
  have old : ∀ {x : Nat}, x ∈ t.place.toList → x ∈ (t.put j).1.place.toList := fun {x} hx => by rw [pl, mem_ins]; exact .inr hx
  have keep : ∀ {i : Nat} {g : Int} {y : Nat}, hs[i]? = some g → t.place.toList[i]? = some y → ∃ k, L2.way t.mask g k = y ∧ ∀ k', k' < k → L2.way t.mask g k' ∈ (t.put j).1.place.toList := fun {i g y} a b => by
    obtain ⟨k, e, z⟩ := T.way i g y a b
    exact ⟨k, e, fun n hn => old (z n hn)⟩
  refine ⟨c2, ⟨ris_insert T.up nj, put_dm T.dum j, by rw [len_ins _ c2]; exact sz, T.msk, fun x hx => ?_, fun i g y a b => ?_⟩, ?_⟩
  · rw [pl, mem_ins] at hx
    rcases hx with z | z
    · rw [z]; exact ht
    · exact T.top x z
  · rw [tins_get hs c2] at a
    rw [pl, tins_get _ c1] at b
    by_cases q1 : i < p
    · rw [if_pos q1] at a b; exact keep a b
    · rw [if_neg q1] at a b
      by_cases q2 : i = p
      · rw [if_pos q2] at a b
        cases a; cases b
        exact ⟨K, hj, fun n hn => old (hb n hn)⟩
      · rw [if_neg q2] at a b; exact keep a b
  · show (t.put j).1.place.size + (t.put j).1.dummies.size = _
    rw [sz, put_dm T.dum j]; rfl
end
/-! ### laid anew -/
theorem Msk.free {m : Nat} (hm : Msk m) (ow : Array (Option Nat)) (h : Int) {j : Nat} (hj : j ≤ m) (hf : oAt ow j = none) :
    ∃ K, SetTable.layClean.free m ow (SetTable.turns m) (SetTable.bits h % (m + 1)) (SetTable.bits h) = some (way m h K) ∧ oAt ow (way m h K) = none ∧ ∀ k, k < K → oAt ow (way m h k) ≠ none := by
  obtain ⟨n, hn, e⟩ := hm.run h hj
  generalize hN : off m (SetTable.bits h % (m + 1)) (SetTable.bits h) n = N
  have hw : way m h N = j := by
    rw [← hN]
    show (nth m _ _).j = j
    rw [nth_off, itL_run]; exact e
  obtain ⟨K, k1, k2, k3⟩ := st_least (p := fun k => oAt ow (way m h k) = none) N (by rw [hw]; exact hf)
  refine ⟨K, free_spec m ow _ n _ _ K (show n < m + 15 by omega) (by rw [hN]; exact k1) (fun k hk => ?_) (by rw [show oAt ow (nth m _ K).j = none from k2]; rfl), k2, k3⟩
  cases z : oAt ow (nth m (runAt m (SetTable.bits h % (m + 1)) (SetTable.bits h)) k).j with
  | none => exact absurd z (k3 k hk)
  | some _ => rfl
theorem own_next {m : Nat} (hm : Msk m) {ds : List Int} {ow : Array (Option Nat)} (W : Own m ds ow) (hl : ds.length ≤ m) (h : Int) :
    ∃ j, SetTable.layClean.free m ow (SetTable.turns m) (SetTable.bits h % (m + 1)) (SetTable.bits h) = some j ∧ Own m (ds ++ [h]) (ow.setIfInBounds j (some ds.length)) := by
  obtain ⟨ps, p1, p2⟩ := W.ps
  obtain ⟨j0, a1, a2⟩ := st_missing ps (m + 1) (by omega)
  have f0 : oAt ow j0 = none := Classical.not_not.mp fun z => a2 (p2 j0 (by omega) z)
  obtain ⟨K, e1, e2, e3⟩ := hm.free ow h (show j0 ≤ m by omega) f0
  have lm := way_in m h K
  generalize hy : way m h K = y at *
  have hself : oAt (ow.setIfInBounds y (some ds.length)) y = some ds.length := oAt_set_self _ (by rw [W.sz]; omega)
  have hoth : ∀ {i : Nat}, i ≠ y → oAt (ow.setIfInBounds y (some ds.length)) i = oAt ow i := fun z => oAt_set_ne _ z
  have occ : ∀ {i : Nat}, oAt ow i ≠ none → oAt (ow.setIfInBounds y (some ds.length)) i ≠ none := fun {i} q => by
    by_cases z : i = y
    · rw [z, hself]; intro z; cases z
    · rw [hoth z]; exact q
  refine ⟨y, e1, by rw [Array.size_setIfInBounds]; exact W.sz, fun j k hj e => ?_, fun k hk => ?_, y :: ps, by simp [p1], fun j hj e => ?_⟩
  · by_cases z : j = y
    · rw [z, hself] at e
      cases e
      exact ⟨h, K, by simp, by rw [z]; exact hy, fun n hn => occ (e3 n hn)⟩
    · rw [hoth z] at e
      obtain ⟨g, N, b1, b2, b3⟩ := W.at_ j k hj e
      exact ⟨g, N, by rw [List.getElem?_append_left (List.getElem?_eq_some_iff.mp b1).1]; exact b1, b2, fun n hn => occ (b3 n hn)⟩
  · by_cases z : k = ds.length
    · exact ⟨y, lm, by rw [z]; exact hself⟩
    · obtain ⟨j, b1, b2⟩ := W.all k (by simp at hk; omega)
      exact ⟨j, b1, by rw [hoth fun q => by rw [q, e2] at b2; cases b2]; exact b2⟩
  · by_cases z : j = y
    · simp [z]
    · rw [hoth z] at e
      exact List.mem_cons_of_mem _ (p2 j hj e)
theorem own_fold {m : Nat} (hm : Msk m) : ∀ (rs ds : List Int) (ow : Array (Option Nat)), Own m ds ow → ds.length + rs.length ≤ m →
    ∃ ow', rs.foldl (stepF m) (some (ow, ds.length)) = some (ow', ds.length + rs.length) ∧ Own m (ds ++ rs) ow'
  | [], ds, ow, W, _ => ⟨ow, rfl, by simpa using W⟩
  | h :: rs, ds, ow, W, hl => by
    have hl' : ds.length + (rs.length + 1) ≤ m := hl
    obtain ⟨j, e, W1⟩ := own_next hm W (by omega) h
    obtain ⟨ow', f, W2⟩ := own_fold hm rs (ds ++ [h]) _ W1 (by simp; omega)
    rw [List.append_assoc] at W2
    simp only [List.length_append, List.length_cons, List.length_nil, Nat.zero_add] at f
    refine ⟨ow', ?_, W2⟩
    rw [List.foldl_cons, stepF_some e, f, List.length_cons]
    congr 2
    omega
theorem laid_anew (t : SetTable) {hs : Array Int} {wanted M : Nat} (hw : SetTable.sizeAbove wanted = M + 1) (hM : Msk M) (hn : hs.size ≤ M) :
    ∃ t' order, t.relaid hs wanted = some (t', order) ∧ order.toList.Perm (List.range hs.size) ∧ Lay t' (order.toList.map fun i => hs.getD i 0) ∧ t'.mask = M ∧ t'.led = t.led ∧ t'.plain = t.plain := by
  have hw' : SetTable.sizeAbove wanted - 1 = M := by omega
  obtain ⟨ow, f, W⟩ := own_fold hM hs.toList [] _ (Own.init M) (by simp; exact hn)
  have el : SetTable.layClean M hs = some ow := by
    rw [layClean_eq, show (some (Array.replicate (M + 1) none, 0) : Option (Array (Option Nat) × Nat)) = some (Array.replicate (M + 1) none, ([] : List Int).length) from rfl, f]; rfl
  rw [List.nil_append] at W
  generalize hlv : liveOf M ow = lv
  have mem : ∀ {j k : Nat}, (j, k) ∈ lv ↔ j ≤ M ∧ oAt ow j = some k := by rw [← hlv]; exact mem_live W.sz
  have rs := ris_live (fun j => ow.getD j none) (List.range (M + 1)) (show List.Pairwise _ _ from List.pairwise_lt_range)
  have r1 : Ris (lv.map (·.1)) := by rw [← hlv]; exact rs.1
  have r2 : ∀ x ∈ lv.map (·.1), x ∈ List.range (M + 1) := by rw [← hlv]; exact rs.2
  have nd : (lv.map (·.1)).Nodup := by
    unfold Ris at r1
    exact r1.imp fun q => Nat.ne_of_lt q
  have every : ∀ k, k < hs.size → k ∈ lv.map (·.2) := fun k hk => by
    obtain ⟨j, b1, b2⟩ := W.all k (by simpa using hk)
    exact List.mem_map.mpr ⟨(j, k), mem.mpr ⟨b1, b2⟩, rfl⟩
  have hlen : lv.length = hs.size := by
    obtain ⟨ps, p1, p2⟩ := W.ps
    have u1 := nat_nodup_len (lv.map (·.1)) ps nd fun x hx => by
      obtain ⟨⟨y, k⟩, q1, q2⟩ := List.mem_map.mp hx
      cases q2
      obtain ⟨b1, b2⟩ := mem.mp q1
      exact p2 _ b1 (by rw [b2]; simp)
    have u2 := nat_nodup_len (List.range hs.size) (lv.map (·.2)) List.nodup_range fun k hk => every k (by simpa using hk)
    simp only [List.length_map, List.length_range, p1, Array.length_toList] at u1 u2
    omega
  refine ⟨tabOf t M ow, (lv.map (·.2)).toArray, ?_, perm_range hs.size _ (by simp [hlen]) fun k hk => by simpa using every k hk, ⟨?_, rfl, ?_, hM, ?_, fun i h j a b => ?_⟩, rfl, rfl, rfl⟩
  · rw [relaid_eq, hw', el, ← hlv]; rfl
  · show Ris ((liveOf M ow).map (·.1))
    rw [hlv]; exact r1
  · show ((liveOf M ow).map (·.1)).toArray.size = _
    rw [hlv]; simp
  · intro x hx
    have hx' : x ∈ (liveOf M ow).map (·.1) := hx
    rw [hlv] at hx'
    have := List.mem_range.mp (r2 x hx')
    show x ≤ M
    omega
  · have b' : ((liveOf M ow).map (·.1))[i]? = some j := b
    rw [hlv, List.getElem?_map] at b'
    simp only [List.getElem?_map] at a
    cases q : lv[i]? with
    | none => rw [q] at b'; cases b'
    | some y =>
      rw [q] at a b'
      simp only [Option.map_some, Option.some.injEq] at a b'
      obtain ⟨b1, b2⟩ := mem.mp (show (y.1, y.2) ∈ lv from List.mem_of_getElem? q)
      obtain ⟨g, K, c1, c2, c3⟩ := W.at_ _ _ b1 b2
      have eg : g = h := by
        rw [← a, Array.getD_eq_getD_getElem?, ← Array.getElem?_toList, c1]; rfl
      refine ⟨K, by rw [← eg, ← b']; exact c2, fun n hn => ?_⟩
      show way M h n ∈ (liveOf M ow).map (·.1)
      rw [hlv, ← eg]
      cases z : oAt ow (way M g n) with
      | none => exact absurd z (c3 n hn)
      | some v => exact List.mem_map.mpr ⟨(_, v), mem.mpr ⟨way_in M g n, z⟩, rfl⟩
end Ev

/-! Ev, part Sb: a set of tuples of ints: the search, an item added. -/
namespace Ev
open PySem L2 PySem.Spec PyProof.Rows
section
variable {P : Program} {w : World} {A : Around} {E : Value → Shared → Prop} {s : Shared}
/-- the set at a holds the tuples L (each with its address) -/
structure TSet (P : Program) (w : World) (h : Heap) (a : Addr) (L : List (Addr × List Int)) (es : Array (Int × Value)) (ep : Nat) (t : SetTable) : Prop where
  obj : ∃ o, h.get? a = some o ∧ o.ExactSet ∧ o.data = .set es ep t
  row : es.toList = rowsOf P w L
  lay : Lay t (L.map fun p => thash P w p.2)
  one : (L.map (·.2)).Nodup
  tup : ∀ p ∈ L, IsT P w h p.2 p.1
  pln : t.plain = true
  led : w.params.followText "set-order" = true ∨ t.led = true
  gap : L.length * 5 < t.mask * 3
  few : L.length < 4096
variable {a : Addr} {L : List (Addr × List Int)} {es : Array (Int × Value)} {ep : Nat} {t : SetTable}
theorem rows_len {L : List (Addr × List Int)} {es : Array (Int × Value)} (e : es.toList = rowsOf P w L) : es.size = L.length := by
  have := congrArg List.length e
  simpa [rowsOf] using this
theorem rows_at {L : List (Addr × List Int)} {es : Array (Int × Value)} (e : es.toList = rowsOf P w L) {i : Nat} {p : Addr × List Int} (h : L[i]? = some p) : es[i]? = some (thash P w p.2, Value.ref p.1) := by
  rw [← Array.getElem?_toList, e]
  simp [rowsOf, h]
theorem fits_lay {hs : List Int} {n : Nat} (T : Lay t hs) (e : hs.length = n) (g : n ≤ t.mask) : t.fits n = true := by
  have := T.cnt
  have d := T.dum
  simp only [SetTable.fits, SetTable.fill, d, Bool.and_eq_true, beq_iff_eq, decide_eq_true_eq]
  refine ⟨by omega, ?_⟩
  show t.place.size + 0 ≤ _
  omega
theorem TSet.sz (R : TSet P w s.heap a L es ep t) : es.size = L.length := rows_len R.row
theorem TSet.fit (R : TSet P w s.heap a L es ep t) : t.fits es.size = true := fits_lay R.lay (by rw [List.length_map, R.sz]) (by have := R.gap; rw [R.sz]; omega)
theorem nth_dum (m : Nat) : ∀ (n : Nat) (p : SetTable.Probe), p.dummy = none → (nth m p n).dummy = none
  | 0, _, h => h
  | n + 1, p, h => nth_dum m n _ (by unfold adv; split <;> exact h)
/-- the search, from the c-th step of the way of its hash -/
theorem TSet.seek (R : TSet P w s.heap a L es ep t) {x : Addr} {k : List Int} (hx : IsT P w s.heap k x) (hu : A.units < cLine) {K : Nat} (b1 : K < 10 * SetTable.turns t.mask) (b2 : way t.mask (thash P w k) K ∉ t.place.toList)
    (b3 : ∀ n, n < K → way t.mask (thash P w k) n ∈ t.place.toList) {Q : SetFound → Shared → Prop} (yes : k ∈ L.map (·.2) → Q (.there none) s) (no : k ∉ L.map (·.2) → Q (.free (way t.mask (thash P w k) K) false) s) :
    ∀ (f c : Nat) (st : Option SetTable.Probe), st.getD (t.probeStart (thash P w k)) = nth t.mask (t.probeStart (thash P w k)) c → c ≤ K → K < f + c →
      (∀ (i : Nat) p, L[i]? = some p → p.2 = k → ∃ n, c ≤ n ∧ n < K ∧ t.place.toList[i]? = some (way t.mask (thash P w k) n)) → wpAny (model P w) A (setSearchFrom a (.ref x) (thash P w k) true f st) Q E s
  | 0, c, st, _, h1, h2, _ => by omega
  | f + 1, c, st, e0, h1, h2, h3 => by
    obtain ⟨o, ho, _, hd⟩ := R.obj
    have way_eq : ∀ n, (nth t.mask (t.probeStart (thash P w k)) n).j = way t.mask (thash P w k) n := fun n => rfl
    have way_add : ∀ n, nth t.mask (nth t.mask (t.probeStart (thash P w k)) c) n = nth t.mask (t.probeStart (thash P w k)) (c + n) := fun n => (nth_add t.mask c _ n).symm
    rw [setSearchFrom_succ]
    refine wpAny_bind (wpAny_setState_of ho hd R.fit ?_)
    dsimp only
    refine wp_if_neg (by unfold SetTable.gaveWay; rw [R.lay.msk.odd]; decide) ?_
    have hat : ∀ (i : Nat) p, L[i]? = some p → (fun i => (es[i]?.map (·.1)).getD 0) i = thash P w p.2 := fun i p hp => by simp only [rows_at R.row hp]; rfl
    have G := go_spec t R.lay.up R.lay.dum (fun i => (es[i]?.map (·.1)).getD 0) (thash P w k) (10 * SetTable.turns t.mask) (K - c) (nth t.mask (t.probeStart (thash P w k)) c) (nth_dum _ _ _ rfl) (by omega)
      (fun n hn => by rw [way_add]; exact b3 (c + n) (by omega)) (by rw [way_add, show c + (K - c) = K by omega]; exact b2)
    rcases G with ⟨n, i, g1, g2, g3, g4, g5⟩ | ⟨g4, g5⟩
    · rw [way_add] at g2
      have ep : t.probe (fun i => (es[i]?.map (·.1)).getD 0) (thash P w k) (st.getD (t.probeStart (thash P w k))) = some (.candidate (way t.mask (thash P w k) (c + n)) i (nth t.mask (t.probeStart (thash P w k)) (c + n + 1))) := by
        rw [e0]
        refine g5.trans ?_
        rw [way_add, way_add]; rfl
      rw [ep]
      dsimp only
      obtain ⟨p, hp⟩ : ∃ p, L[i]? = some p := by
        have li : i < t.place.toList.length := (List.getElem?_eq_some_iff.mp g2).1
        rw [R.lay.len, List.length_map] at li
        exact ⟨_, List.getElem?_eq_getElem li⟩
      have pin := List.mem_of_getElem? hp
      have slot := slot_live R.lay.up g2
      have tail : wpAny (model P w) A (searchRest a (.ref x) (thash P w k) true f es t (way t.mask (thash P w k) (c + n)) i (nth t.mask (t.probeStart (thash P w k)) (c + n + 1))) Q E s := by
        unfold searchRest
        rw [rows_at R.row hp]
        dsimp only
        refine wpAny_bind (wpAny_holding (wpAny_eqBool_tuple hu (R.tup p pin) hx ?_))
        refine wpAny_bind (wpAny_setState_of ho hd R.fit ?_)
        dsimp only
        by_cases q : p.2 = k
        · exact wp_if_pos (by simp [q]) (wpAny_pure (yes (List.mem_map.mpr ⟨p, pin, q⟩)))
        · refine wp_if_neg (by simp [q]) ?_
          rw [sameMem]
          dsimp only
          rw [if_pos rfl]
          have slot2 : t.slot (way t.mask (thash P w k) (c + n)) = .live i := slot
          generalize t.slot (way t.mask (thash P w k) (c + n)) = sl at slot2 ⊢
          subst slot2
          dsimp only
          rw [rows_at R.row hp]
          dsimp only
          refine wpAny_bind (wpAny_isSame_ref_self (wpAny_bind (wpAny_pure ?_)))
          simp only [if_true]
          refine wp_if_neg (by simp [q]) ?_
          refine R.seek hx hu b1 b2 b3 yes no f (c + n + 1) _ rfl (by omega) (by omega) fun i' p' hp' q' => ?_
          obtain ⟨n', r1, r2, r3⟩ := h3 i' p' hp' q'
          refine ⟨n', Nat.lt_of_not_le fun z => ?_, r2, r3⟩
          rcases Nat.eq_or_lt_of_le z with y | y
          · rw [y] at r3
            have ei : SetTable.Slot.live i = SetTable.Slot.live i' := slot.symm.trans (slot_live R.lay.up r3)
            cases ei
            rw [hp] at hp'
            cases hp'
            exact q q'
          · refine g4 (n' - c) i' (by omega) ?_ ((hat i' p' hp').trans (by rw [q']))
            rw [way_add, show c + (n' - c) = n' by omega]; exact r3
      by_cases hl : t.led = true
      · exact wp_if_neg (by simp [hl]) tail
      · refine wp_if_pos (by simp [hl]) (wpAny_bind (seen_tup hx (fun y hy => ?_) (wp_if_neg (by decide) tail)))
        obtain ⟨e, he, rfl⟩ := List.mem_map.mp hy
        have he' : e ∈ es ∧ e.1 = thash P w k := by simpa using he
        have he2 : e ∈ rowsOf P w L := by rw [← R.row]; simpa using he'.1
        obtain ⟨p2, hp2, rfl⟩ := List.mem_map.mp he2
        exact ⟨p2.2, p2.1, rfl, R.tup p2 hp2⟩
    · have ep : t.probe (fun i => (es[i]?.map (·.1)).getD 0) (thash P w k) (st.getD (t.probeStart (thash P w k))) = some (.empty (way t.mask (thash P w k) K) none) := by
        rw [e0]
        refine g5.trans ?_
        rw [way_add, show c + (K - c) = K by omega]; rfl
      rw [ep]
      dsimp only
      refine wpAny_pure (no fun hm => ?_)
      obtain ⟨p, hp, q⟩ := List.mem_map.mp hm
      obtain ⟨i, hi, rfl⟩ := List.getElem_of_mem hp
      have hp' : L[i]? = some L[i] := List.getElem?_eq_getElem hi
      obtain ⟨n', r1, r2, r3⟩ := h3 i _ hp' q
      refine g4 (n' - c) i (by omega) ?_ ((hat i _ hp').trans (by rw [q]))
      rw [way_add, show c + (n' - c) = n' by omega]; exact r3
theorem TSet.find (R : TSet P w s.heap a L es ep t) {x : Addr} {k : List Int} (hx : IsT P w s.heap k x) (hu : A.units < cLine) {Q : SetFound → Shared → Prop} (yes : k ∈ L.map (·.2) → Q (.there none) s)
    (no : ∀ K, k ∉ L.map (·.2) → way t.mask (thash P w k) K ∉ t.place.toList → (∀ n, n < K → way t.mask (thash P w k) n ∈ t.place.toList) → Q (.free (way t.mask (thash P w k) K) false) s) :
    wpAny (model P w) A (setSearch a (.ref x) (thash P w k) true) Q E s := by
  have g := R.gap
  obtain ⟨K, b1, b2, b3⟩ := R.lay.stop (by rw [List.length_map]; omega) (thash P w k)
  have small : K < 100000 := by
    have := R.lay.msk.small
    have : SetTable.turns t.mask = t.mask + 15 := rfl
    omega
  unfold setSearch
  refine R.seek hx hu b1 b2 b3 yes (fun z => no K z b2 b3) 100000 0 none rfl (Nat.zero_le _) (by omega) fun i p hp q => ?_
  have hi : (L.map fun p => thash P w p.2)[i]? = some (thash P w k) := by rw [List.getElem?_map, hp, ← q]; rfl
  obtain ⟨j, hj⟩ : ∃ j, t.place.toList[i]? = some j := by
    have : i < t.place.toList.length := by rw [R.lay.len, List.length_map]; exact (List.getElem?_eq_some_iff.mp hp).1
    exact ⟨_, List.getElem?_eq_getElem this⟩
  obtain ⟨n, c1, c2⟩ := R.lay.ahead b2 hi hj
  exact ⟨n, Nat.zero_le _, c1, by rw [hj, c2]⟩
/-- the table laid anew -/
theorem relay_t {o : Obj} (ho : s.heap.get? a = some o) (hex : o.ExactSet) (hd : o.data = .set es ep t) (hr : es.toList = rowsOf P w L) (T : Lay t (L.map fun p => thash P w p.2)) (hm : L.length ≤ t.mask) (one : (L.map (·.2)).Nodup)
    (tup : ∀ p ∈ L, IsT P w s.heap p.2 p.1) (pl : t.plain = true) (ld : w.params.followText "set-order" = true ∨ t.led = true) (few : L.length < 4096) {wanted M : Nat} (hw : SetTable.sizeAbove wanted = M + 1) (hM : Msk M) (hn : L.length * 5 < M * 3)
    {Q : Unit → Shared → Prop} (hQ : ∀ h' L' es' ep' t', Heap.SameBut a s.heap h' → TSet P w h' a L' es' ep' t' → L'.Perm L → Q () { s with heap := h' }) : wpAny (model P w) A (setRelay a wanted) Q E s := by
  have sz := rows_len hr
  have lM := hM.small
  obtain ⟨t', ord, e, pm, T', k1, k2, k3⟩ := laid_anew t (hs := es.map (·.1)) hw hM (by rw [Array.size_map, sz]; omega)
  rw [Array.size_map, sz] at pm
  obtain ⟨L', r1, r2, r3⟩ := order_rows L es ord hr pm
  rw [← r3] at T'
  have sz' : (ord.filterMap (es[·]?)).size = L.length := by rw [rows_len r1, r2.length_eq]
  rw [setRelay_eq]
  refine wpAny_bind (wpAny_setState_of ho hd (fits_lay T (by rw [List.length_map, sz]) (by omega)) ?_)
  dsimp only
  refine wp_if_neg (by rw [sizeLine_eq]; omega) ?_
  rw [e]
  dsimp only
  refine wpAny_bind ?_
  refine wp_if_neg (by rw [sz', sz]; simp) ?_
  refine wpAny_pure ?_
  dsimp only
  refine wpAny_storeSet_of ho hd ?_ (by rw [sz', sizeLine_eq]; omega)
  have sb : Heap.SameBut a s.heap (s.heap.update a (Obj.putSet (ord.filterMap (es[·]?)) t')) := Heap.SameBut.update ..
  exact hQ _ L' _ (ep + 1) t' sb ⟨⟨_, store_at ho hd, ⟨hex.1, hex.2.1, hex.2.2⟩, rfl⟩, r1, T', (r2.map (·.2)).nodup_iff.mpr one, fun p hp => isT_same (tup p (r2.mem_iff.mp hp)) ho hd sb, by rw [k3]; exact pl, by rw [k2]; exact ld,
    by rw [r2.length_eq, k1]; exact hn, by rw [r2.length_eq]; exact few⟩ r2
theorem grown_szs : SetTable.sizeAbove (SetTable.grown 5) = 32 ∧ SetTable.sizeAbove (SetTable.grown 19) = 128 ∧ SetTable.sizeAbove (SetTable.grown 77) = 512 ∧ SetTable.sizeAbove (SetTable.grown 307) = 2048 ∧ SetTable.sizeAbove (SetTable.grown 1229) = 8192 := by decide +kernel
/-- when a table is full, and what comes then -/
theorem full_at {m n : Nat} (hm : Msk m) (h1 : n * 5 < m * 3) (h2 : (n + 1) * 5 ≥ m * 3) (few : n + 1 < 4096) : ∃ M, Msk M ∧ SetTable.sizeAbove (SetTable.grown (n + 1)) = M + 1 ∧ (n + 1) * 5 < M * 3 ∧ n + 1 ≤ m := by
  obtain ⟨g1, g2, g3, g4, g5⟩ := grown_szs
  rcases hm with rfl | rfl | rfl | rfl | rfl | rfl
  · obtain rfl : n = 4 := by omega
    exact ⟨31, .inr (.inl rfl), g1, by decide, by decide⟩
  · obtain rfl : n = 18 := by omega
    exact ⟨127, .inr (.inr (.inl rfl)), g2, by decide, by decide⟩
  · obtain rfl : n = 76 := by omega
    exact ⟨511, .inr (.inr (.inr (.inl rfl))), g3, by decide, by decide⟩
  · obtain rfl : n = 306 := by omega
    exact ⟨2047, .inr (.inr (.inr (.inr (.inl rfl)))), g4, by decide, by decide⟩
  · obtain rfl : n = 1228 := by omega
    exact ⟨8191, .inr (.inr (.inr (.inr (.inr rfl)))), g5, by decide, by decide⟩
  · omega
/-- an item is added -/
theorem TSet.add (R : TSet P w s.heap a L es ep t) {x : Addr} {k : List Int} (hx : IsT P w s.heap k x) (hu : A.units < cLine) (few : L.length + 1 < 4096) {Q : Bool → Shared → Prop}
    (hQ : ∀ b h' L' es' ep' t', Heap.SameBut a s.heap h' → TSet P w h' a L' es' ep' t' → (k ∈ L.map (·.2) → L' = L) → (k ∉ L.map (·.2) → L'.Perm ((x, k) :: L)) → Q b { s with heap := h' }) :
    wpAny (model P w) A (setAddHashed a (.ref x) (thash P w k)) Q E s := by
  obtain ⟨o, ho, hex, hd⟩ := R.obj
  have hz := R.sz
  unfold setAddHashed
  refine wpAny_holding ?_
  rw [show (100000 : Nat) = 99999 + 1 from rfl, setAddHashedIn_succ]
  refine wpAny_bind (wpAny_setState_of ho hd R.fit ?_)
  dsimp only
  refine wp_if_neg (by simp [byScan, Value.scannable]) ?_
  refine wpAny_bind (R.find hx hu (fun hm => ?_) fun K hm b2 b3 => ?_)
  · exact wpAny_pure (hQ false s.heap L es ep t (Heap.SameBut.refl a s.heap) R (fun _ => rfl) fun z => absurd hm z)
  · dsimp only
    refine wpAny_bind (wpAny_setState_of ho hd R.fit ?_)
    dsimp only
    obtain ⟨c1, T1, c3⟩ := R.lay.put b2 b3 rfl
    have e1 : (t.put (way t.mask (thash P w k) K)).1.plain = true := R.pln
    have e2 : w.params.followText "set-order" = true ∨ (t.put (way t.mask (thash P w k) K)).1.led = true := R.led
    have e3 : (t.put (way t.mask (thash P w k) K)).1.mask = t.mask := rfl
    have e4 : (t.put (way t.mask (thash P w k) K)).2 = SetTable.below t.place (way t.mask (thash P w k) K) := rfl
    generalize SetTable.below t.place (way t.mask (thash P w k) K) = p at c1 T1 e4
    generalize t.put (way t.mask (thash P w k) K) = u at T1 c3 e1 e2 e3 e4 ⊢
    obtain ⟨t1, p'⟩ := u
    dsimp only at T1 c3 e1 e2 e3 e4 ⊢
    subst e4
    first
      | (refine wpAny_bind ?_; refine wp_if_pos e1 ?_; refine hashBy_tup hx ?_)
      | refine wp_if_pos e1 (wpAny_bind (hashBy_tup hx ?_))
    simp only [if_true]
    rw [List.length_map] at c1 c3
    have r1 : (SetTable.insertAt es p' (thash P w k, Value.ref x)).toList = rowsOf P w (L.take p' ++ (x, k) :: L.drop p') := by rw [SetTable.toList_insertAt, rows_put, R.row]
    have T2 : Lay t1 ((L.take p' ++ (x, k) :: L.drop p').map fun p => thash P w p.2) := by
      rw [List.map_append, List.map_cons, List.map_take, List.map_drop]; exact T1
    have pm := put_perm L p' (x, k)
    generalize SetTable.insertAt es p' (thash P w k, Value.ref x) = es1 at r1 ⊢
    generalize L.take p' ++ (x, k) :: L.drop p' = L1 at r1 T2 pm
    have l1 : L1.length = L.length + 1 := pm.length_eq
    have z1 : es1.size = L.length + 1 := by rw [rows_len r1, l1]
    have one1 : (L1.map (·.2)).Nodup := (pm.map (·.2)).nodup_iff.mpr (List.nodup_cons.mpr ⟨hm, R.one⟩)
    refine wpAny_bind (wpAny_storeSet_of ho hd ?_ (by rw [z1, sizeLine_eq]; omega))
    have sb : Heap.SameBut a s.heap (s.heap.update a (Obj.putSet es1 t1)) := Heap.SameBut.update ..
    have ho1 := store_at (es' := es1) (t' := t1) ho hd
    generalize s.heap.update a (Obj.putSet es1 t1) = h1 at sb ho1 ⊢
    have tup1 : ∀ q ∈ L1, IsT P w h1 q.2 q.1 := fun q hq => by
      rcases List.mem_cons.mp (pm.mem_iff.mp hq) with rfl | hq
      · exact isT_same hx ho hd sb
      · exact isT_same (R.tup q hq) ho hd sb
    have tf : t1.tooFull = decide ((L.length + 1) * 5 ≥ t.mask * 3) := by unfold SetTable.tooFull; rw [c3, e3]
    by_cases hf : (L.length + 1) * 5 ≥ t.mask * 3
    · obtain ⟨M, hM, m1, m2, m3⟩ := full_at R.lay.msk R.gap hf few
      first
        | (refine wpAny_bind ?_; refine wp_if_pos (by simp [tf, hf]) ?_)
        | (refine wp_if_pos (by simp [tf, hf]) ?_; refine wpAny_bind ?_)
      rw [hz]
      exact relay_t (s := { s with heap := h1 }) ho1 ⟨hex.1, hex.2.1, hex.2.2⟩ rfl r1 T2 (by rw [l1, e3]; exact m3) one1 tup1 e1 e2 (by rw [l1]; exact few) m1 hM (by rw [l1]; exact m2) fun h2 L2 es2 ep2 t2 sb2 R2 pm2 =>
        wpAny_pure (hQ true h2 L2 es2 ep2 t2 (sb.trans sb2) R2 (fun z => absurd z hm) fun _ => pm2.trans pm)
    · first
        | refine wp_if_neg (by simp [tf]; omega) ?_
        | (refine wpAny_bind ?_; refine wp_if_neg (by simp [tf]; omega) ?_; refine wpAny_pure ?_)
      exact wpAny_pure (hQ true h1 L1 es1 (ep + 1) t1 sb ⟨⟨_, ho1, ⟨hex.1, hex.2.1, hex.2.2⟩, rfl⟩, r1, T2, one1, tup1, e1, e2, by rw [l1, e3]; omega, by rw [l1]; exact few⟩ (fun z => absurd z hm) fun _ => pm)
end
end Ev

/-! Ev, part Sc: set(xs) of a list or a tuple, of tuples of ints or of ints. -/
namespace Ev
open PySem L2 PySem.Spec PyProof.Rows
/-- a set as it is made -/
abbrev setO (w : World) : Obj := { cls := .type "set", dict := none, data := .set #[] 0 (.fresh 0 0 (!w.params.followText "set-order")) }
/-- update's loop over these items fills a new set -/
def Fills (P : Program) (w : World) (A : Around) (items : Array Value) (h0 : Heap) (Ψ : Heap → Addr → Prop) : Prop :=
  ∀ (I : Addr) (fp wr : List Addr) (G : Array GenState → Array GenState → Prop) (Pv : Nat → Value → Prop) (St : Nat → Shared → Prop) (_ : WalksS P w A.in1 I fp wr G items.size Pv St) (S : Addr), S ∉ fp → (∀ i v, Pv i v → items[i]? = some v) →
    h0.get? S = none → (∀ b ∈ wr, h0.get? b = none) → ∀ s : Shared, St 0 s → (∀ b o, h0.get? b = some o → s.heap.get? b = some o) → s.heap.get? S = some (setO w) →
    ∀ R : Result → Shared → Prop, (∀ s', Moved (S :: wr) G s s' → Ψ s'.heap S → (∀ b o, h0.get? b = some o → s'.heap.get? b = some o) → R (.ok (.ret .none)) s') →
    codeAny (model P w) A (.builtin "set.update.loop" ⟨[.ref S, .ref I], []⟩) R s
section
variable {P : Program} {w : World} {A : Around} {E : Value → Shared → Prop} {s : Shared}
theorem tset_new {h : Heap} {a : Addr} (ho : h.get? a = some (setO w)) : TSet P w h a [] #[] 0 (.fresh 0 0 (!w.params.followText "set-order")) where
  obj := ⟨_, ho, ⟨rfl, rfl, rfl⟩, rfl⟩
  row := rfl
  lay := ⟨List.Pairwise.nil, rfl, rfl, .inl rfl, fun x hx => (by cases hx), fun i h j hi => (by simp at hi)⟩
  one := List.nodup_nil
  tup := fun p hp => (by cases hp)
  pln := rfl
  led := by
    cases e : w.params.followText "set-order"
    · exact .inr rfl
    · exact .inl rfl
  gap := show 0 < 7 * 3 by decide
  few := show 0 < 4096 by decide
theorem TSet.move {h h' : Heap} {a : Addr} {L : List (Addr × List Int)} {es : Array (Int × Value)} {ep : Nat} {t : SetTable} (R : TSet P w h a L es ep t) (ha : ∀ o, h.get? a = some o → h'.get? a = some o) (ht : ∀ p ∈ L, IsT P w h' p.2 p.1) : TSet P w h' a L es ep t := by
  obtain ⟨o, ho, r⟩ := R.obj
  exact ⟨⟨o, ha o ho, r⟩, R.row, R.lay, R.one, ht, R.pln, R.led, R.gap, R.few⟩
/-- a set of tuples that holds what these have -/
def Holds (P : Program) (w : World) (ks : List (Addr × List Int)) (h : Heap) (S : Addr) : Prop := ∃ L es ep t, TSet P w h S L es ep t ∧ (∀ p ∈ L, p ∈ ks) ∧ ∀ p ∈ ks, p.2 ∈ L.map (·.2)
theorem fills_tups {items : Array Value} {h0 : Heap} (ks : List (Addr × List Int)) (hit : items.toList = ks.map fun p => Value.ref p.1) (hk : ∀ p ∈ ks, IsT P w h0 p.2 p.1) (few : ks.length < 4096) (hu : A.in1.units < cLine) : Fills P w A items h0 (Holds P w ks) := by
  intro I fp wr G Pv St W S hS hv nS nw s hst keep hnew R hR
  have hz : items.size = ks.length := by have := congrArg List.length hit; simpa using this
  have nSw : S ∉ wr := fun z => hS (W.sub _ z)
  have wide : ∀ b ∈ wr, b ∈ S :: wr := fun b hb => List.mem_cons_of_mem _ hb
  have stay : ∀ {x y : Shared}, Moved wr G x y → (∀ b o, h0.get? b = some o → x.heap.get? b = some o) → ∀ b o, h0.get? b = some o → y.heap.get? b = some o := fun m q b o e => m.heap b o (fun z => by rw [nw b z] at e; cases e) (q b o e)
  suffices H : ∀ (m i : Nat) (x : Shared), items.size - i = m → i ≤ items.size → St i x → (∀ b o, h0.get? b = some o → x.heap.get? b = some o) → (∃ L es ep t, TSet P w x.heap S L es ep t ∧ Got ks i L) →
      (∀ y L es ep t, Moved (S :: wr) G x y → TSet P w y.heap S L es ep t → Got ks items.size L → (∀ b o, h0.get? b = some o → y.heap.get? b = some o) → R (.ok (.ret .none)) y) →
      codeAny (model P w) A (.builtin "set.update.loop" ⟨[.ref S, .ref I], []⟩) R x by
    refine H _ 0 s rfl (Nat.zero_le _) hst keep ⟨[], #[], 0, _, tset_new hnew, Got.zero ks⟩ fun y L es ep t m T g k => hR y m ⟨L, es, ep, t, T, fun p hp => List.mem_of_mem_take (g.sub p hp), fun p hp => g.all p ?_⟩ k
    rw [hz, List.take_length]; exact hp
  intro m
  induction m with
  | zero =>
    intro i x e le st q ⟨L, es, ep, t, T, g⟩ out
    obtain rfl : i = items.size := by omega
    refine codeAny_builtin F.entry_set_update_loop ?_
    rw [Around.under_plainId F.plain_set_update_loop _]
    refine wpAny_bind (W.done x _ _ st fun y mv => ?_)
    have q' := stay mv q
    exact wpAny_pure (out y L es ep t (mv.mono wide) (T.move (fun o z => mv.heap S o nSw z) fun p hp => isT_keep (hk p (List.mem_of_mem_take (g.sub p hp))) q') g q')
  | succ m ih =>
    intro i x e le st q ⟨L, es, ep, t, T, g⟩ out
    have lt : i < items.size := by omega
    refine codeAny_builtin F.entry_set_update_loop ?_
    rw [Around.under_plainId F.plain_set_update_loop _]
    refine wpAny_bind (W.item i x _ _ lt st fun v y hp st' mv => ?_)
    obtain ⟨p, hpk, rfl⟩ : ∃ p, ks[i]? = some p ∧ v = .ref p.1 := by
      have := hv i v hp
      rw [← Array.getElem?_toList, hit, List.getElem?_map] at this
      cases z : ks[i]? with
      | none => rw [z] at this; cases this
      | some p => rw [z] at this; exact ⟨p, rfl, (Option.some.inj this).symm⟩
    have q' := stay mv q
    have T' := T.move (h' := y.heap) (fun o z => mv.heap S o nSw z) fun r hr => isT_keep (hk r (List.mem_of_mem_take (g.sub r hr))) q'
    have hx : IsT P w y.heap p.2 p.1 := isT_keep (hk p (List.mem_of_getElem? hpk)) q'
    refine wpAny_bind (wpAny_holding ?_)
    unfold setAdd
    refine wpAny_holding ?_
    refine wpAny_bind (wpAny_pyHash_tuple hu hx ?_)
    refine TSet.add (s := { y with toks := y.toks + (p.2.length + 1) }) T' hx hu (by have := g.len; omega) fun b h' L' es' ep' t' sb T2 c1 c2 => ?_
    have g' : Got ks (i + 1) L' := by
      by_cases c : p.2 ∈ L.map (·.2)
      · rw [c1 c]; exact g.same hpk c
      · exact g.more hpk (c2 c)
    have q2 : ∀ b o, h0.get? b = some o → h'.get? b = some o := fun b o z => (sb.2 b (fun u => by rw [u, nS] at z; cases z)).trans (q' b o z)
    refine wpAny_pure ⟨plainId_quiet F.plain_set_update_loop _, ih (i + 1) _ (by omega) lt (W.frame _ y _ _ st' (Nat.le_add_right _ _) fun b hb o z => ?_) q2 ⟨L', es', ep', t', T2, g'⟩ fun u L2 es2 ep2 t2 mu T3 g3 k3 => ?_⟩
    · rw [sb.2 b (fun h : b = S => hS (h ▸ hb))]; exact z
    · refine out u L2 es2 ep2 t2 (Moved.trans W.gtrans ((mv.mono wide).then_heap (Nat.le_add_right _ _) fun b o hb z => ?_) mu) T3 g3 k3
      rw [sb.2 b (fun h : b = S => hb (by simp [h]))]; exact z
/-- a set of ints that holds these -/
def HoldsI (w : World) (ns : List Int) (h : Heap) (S : Addr) : Prop := ∃ c, c ≤ ns.length ∧ SetR w h S (fun j => decide (j ∈ ns)) c
theorem fills_ints {items : Array Value} {h0 : Heap} (ns : List Int) (hit : IntsAre items.toList ns) (few : ns.length + 1 < scanBound) : Fills P w A items h0 (HoldsI w ns) := by
  intro I fp wr G Pv St W S hS hv nS nw s hst keep hnew R hR
  have hz : items.size = ns.length := by have := IntsAre.length hit; simpa using this
  refine set_update_ints W S hS ns hz few (fun i v hp => ?_) (items.size - 0) 0 s rfl (Nat.zero_le _) hst ⟨0, Nat.le_refl _, setR_new_at hnew⟩ fun s' c m hc T => hR s' m ⟨c, by omega, T⟩ fun b o e => ?_
  · have e := hv i v hp
    have li : i < ns.length := by rw [← hz]; exact (Array.getElem?_eq_some_iff.mp e).1
    obtain ⟨t, e2⟩ := PyProof.Rows.IntsAre.int_at hit i v (by rw [Array.getElem?_toList]; exact e)
    refine ⟨ns[i], t, List.getElem?_eq_getElem li, ?_⟩
    rw [e2, List.getD_eq_getElem?_getD, List.getElem?_eq_getElem li]; rfl
  · refine m.heap b o (fun z => ?_) (keep b o e)
    rcases List.mem_cons.mp z with z | z
    · rw [z, nS] at e; cases e
    · rw [nw b z] at e; cases e
set_option maxRecDepth 100000 in
set_option maxHeartbeats 3200000 in
/-- set(xs): xs is walked by an iterator that stands at p1 -/
theorem call_set_xs {l : Addr} {items : Array Value} {Ψ : Heap → Addr → Prop} {Q : Value → Shared → Prop} (hh : A.handled = none) (hl : s.heap.IsList l items ∨ s.heap.IsTuple l items) (fl : Fills P w A.in1.in1 items s.heap Ψ)
    (h : ∀ (h' : Heap) (tk : Nat), Ψ h' s.heap.objs.size → (∀ b o, s.heap.get? b = some o → h'.get? b = some o) → Q (.ref s.heap.objs.size) { s with heap := h', toks := tk }) : wpAny (model P w) A (call (.type "set") [.ref l]) Q E s := by
  obtain ⟨c, tl, hmro⟩ := F.called_set.mro
  have hmade := F.called_set.made
  have hsub := F.called_set.sub
  refine wpAny_call (codeAny_of_tree ?_)
  show wpAny _ _ (callAny (.type "set") _) _ _ _
  refine wpAny_pure ⟨Code.quiet_builtin _ (by decide +kernel), codeAny_builtin F.entry_type_call ?_⟩
  rw [Around.under_plain (weight_type_call_type "set" [.ref l] []) rfl]
  have h1 := F.called_set.notType
  have h2 := F.called_set.canCreate
  have hct := F.typeCall_set_1 (.ref l)
  repeat (any_goals (first | assumption | wp_step))
  refine codeAny_mono (code_set_led1 (.ref l) (E := E) (Q₁ := fun u x => u = .ref s.heap.objs.size ∧ x = { s with heap := s.heap.push (setO w) }) ⟨rfl, rfl⟩) fun r x hr => ?_
  match r, hr with
  | .error _, hr => exact hr
  | .ok (.next), hr => exact hr.elim
  | .ok (.brk), hr => exact hr.elim
  | .ok (.cont), hr => exact hr.elim
  | .ok (.ret u), hr =>
    obtain ⟨rfl, rfl⟩ := hr
    have hS : (s.heap.push (setO w)).get? s.heap.objs.size = some (setO w) := Heap.get?_push_size _ rfl
    have hT : Shared.TypeIs { s with heap := s.heap.push (setO w) } (.ref s.heap.objs.size) "set" := ⟨_, hS, rfl⟩
    have hli := F.called_set.init.lookup
    have hbi := F.called_set.init.bind (.ref s.heap.objs.size)
    repeat (any_goals (first | assumption | wp_step))
    refine codeAny_mono (codeAny_call_builtin (R := wants (fun r y => r = .none ∧ ∃ h' tk, y = { s with heap := h', toks := tk } ∧ Ψ h' s.heap.objs.size ∧ ∀ b o, s.heap.get? b = some o → h'.get? b = some o) E) F.called_set.init.plain F.entry_set_init (check_set_init_1 hT ?_)) fun r y hr => ?_
    · have hh3 : A.in1.in1.in1.handled = none := by simp [hh]
      have hz : (s.heap.push (setO w)).objs.size = s.heap.objs.size + 1 := Heap.size_push ..
      have off : ∀ b, s.heap.objs.size ≤ b → s.heap.get? b = none := fun b hb => by
        cases q : s.heap.get? b with
        | none => rfl
        | some o => exact absurd (Nat.lt_of_lt_of_le (Heap.lt_size q) hb) (Nat.lt_irrefl _)
      rcases hl with hl | hl
      · obtain ⟨⟨oc, od, oda, osl⟩, hol, hcl, nl, hdl⟩ := hl
        simp only at hcl hdl
        subst hcl hdl
        have hlS : l < s.heap.objs.size := Heap.lt_size hol
        have hol' := Heap.get?_push_of_some (setO w) hol
        have hl1 : (s.heap.push (setO w)).IsList l items := ⟨_, hol', rfl, nl, rfl⟩
        have hsls := F.sub_list_set
        have hslf := F.sub_list_frozenset
        have hne : (Value.type "list" == Value.type "dict") = false := by decide
        unfold Builtin.«set.__init__» noKeywords Builtin.Frozenset.updateFrom
        generalize hPI : pyIter = PI
        wp_walk
        subst hPI
        refine wpAny_pyIter_list hl1 ?_
        refine wpAny_bind (wpAny_runValue ?_)
        have hneI : l ≠ (s.heap.push (setO w)).objs.size := by rw [hz]; exact Nat.ne_of_lt (Nat.lt_succ_of_lt hlS)
        refine fl _ _ _ _ _ _ ((Walks.list hh3 _ l hneI items).toS) s.heap.objs.size (by rw [hz]; simp only [List.mem_cons, List.mem_nil_iff, or_false, not_or]; exact ⟨Nat.ne_of_lt (Nat.lt_succ_self _), Nat.ne_of_gt hlS⟩) (fun i v e => e) (off _ (Nat.le_refl _)) (fun b hb => off _ (by rw [List.mem_singleton.mp hb, hz]; omega)) _ ⟨⟨_, Heap.get?_push_size _ rfl, rfl, rfl⟩, hl1.push _⟩
          (fun b o e => Heap.get?_push_of_some _ (Heap.get?_push_of_some _ e)) (Heap.get?_push_of_some _ hS) _ fun y m p k => ?_
        obtain ⟨h', g2, d', tk', os'⟩ := y
        obtain rfl : g2 = s.gens := m.gens
        obtain rfl : d' = s.drawn := m.drawn
        obtain rfl : os' = s.os := m.os
        show wpAny _ _ _ _ _ _
        refine wpAny_pure ?_
        show wpAny _ _ (ret Value.none) _ _ _
        exact wpAny_pure ⟨rfl, h', tk', rfl, p, k⟩
      · obtain ⟨⟨oc, od, oda, osl⟩, hol, hcl, nl, hdl⟩ := hl
        simp only at hcl hdl
        subst hcl hdl
        have hlS : l < s.heap.objs.size := Heap.lt_size hol
        have hol' := Heap.get?_push_of_some (setO w) hol
        have hl1 : (s.heap.push (setO w)).IsTuple l items := ⟨_, hol', rfl, nl, rfl⟩
        have hsls := F.sub_tuple_set
        have hslf := F.sub_tuple_frozenset
        have hne : (Value.type "tuple" == Value.type "dict") = false := by decide
        unfold Builtin.«set.__init__» noKeywords Builtin.Frozenset.updateFrom
        generalize hPI : pyIter = PI
        wp_walk
        subst hPI
        refine wpAny_pyIter_tuple hl1 ?_
        refine wpAny_bind (wpAny_runValue ?_)
        have hneI : l ≠ (s.heap.push (setO w)).objs.size := by rw [hz]; exact Nat.ne_of_lt (Nat.lt_succ_of_lt hlS)
        refine fl _ _ _ _ _ _ ((Walks.tuple hh3 _ l hneI items).toS) s.heap.objs.size (by rw [hz]; simp only [List.mem_cons, List.mem_nil_iff, or_false, not_or]; exact ⟨Nat.ne_of_lt (Nat.lt_succ_self _), Nat.ne_of_gt hlS⟩) (fun i v e => e) (off _ (Nat.le_refl _)) (fun b hb => off _ (by rw [List.mem_singleton.mp hb, hz]; omega)) _ ⟨⟨_, Heap.get?_push_size _ rfl, rfl, rfl⟩, hl1.push _⟩
          (fun b o e => Heap.get?_push_of_some _ (Heap.get?_push_of_some _ e)) (Heap.get?_push_of_some _ hS) _ fun y m p k => ?_
        obtain ⟨h', g2, d', tk', os'⟩ := y
        obtain rfl : g2 = s.gens := m.gens
        obtain rfl : d' = s.drawn := m.drawn
        obtain rfl : os' = s.os := m.os
        show wpAny _ _ _ _ _ _
        refine wpAny_pure ?_
        show wpAny _ _ (ret Value.none) _ _ _
        exact wpAny_pure ⟨rfl, h', tk', rfl, p, k⟩
    · match r, hr with
      | .error _, hr => exact hr
      | .ok (.next), hr => exact hr.elim
      | .ok (.brk), hr => exact hr.elim
      | .ok (.cont), hr => exact hr.elim
      | .ok (.ret u), hr =>
        obtain ⟨rfl, h', tk, rfl, p, k⟩ := hr
        repeat (any_goals (first | assumption | wp_step))
        exact h _ _ p k
end
end Ev

/-! Ev, part Se: sorted(set(xs)) and len(set(xs)) of a list or a tuple, of tuples of ints or of ints. -/
namespace Ev
open PySem L2 PySem.Spec PyProof.Rows PySem.W
/-! ### lists without repetition, sorted -/
section
variable {α β : Type} [DecidableEq α]
theorem mem_nub {a : α} : ∀ {xs : List α}, a ∈ nub xs ↔ a ∈ xs
  | [] => Iff.rfl
  | x :: r => by
    rw [nub]
    split
    · rename_i h
      rw [mem_nub, List.mem_cons]
      exact ⟨.inr, fun q => q.elim (fun e => e ▸ h) id⟩
    · rw [List.mem_cons, List.mem_cons, mem_nub]
theorem nub_nodup : ∀ xs : List α, (nub xs).Nodup
  | [] => List.nodup_nil
  | x :: r => by
    rw [nub]
    split
    · exact nub_nodup r
    · rename_i h
      exact List.nodup_cons.mpr ⟨fun q => h (mem_nub.mp q), nub_nodup r⟩
theorem nub_same {xs ys : List α} (hn : xs.Nodup) (hm : ∀ a, a ∈ xs ↔ a ∈ ys) : xs.Perm (nub ys) :=
  (List.perm_ext_iff_of_nodup hn (nub_nodup ys)).mpr fun a => (hm a).trans mem_nub.symm
theorem sort_nub {le : α → α → Bool} (tr : ∀ a b d, le a b = true → le b d = true → le a d = true) (tot : ∀ a b, (le a b || le b a) = true) (anti : ∀ a b, le a b = true → le b a = true → a = b) {xs ys : List α} (p : xs.Perm ys) : xs.mergeSort le = ys.mergeSort le :=
  List.Perm.eq_of_pairwise (le := fun a b => le a b = true) (fun a b _ _ h1 h2 => anti a b h1 h2) (List.pairwise_mergeSort tr tot xs) (List.pairwise_mergeSort tr tot ys) ((List.mergeSort_perm xs le).trans (p.trans (List.mergeSort_perm ys le).symm))
theorem perm_back {f : β → α} : ∀ {l m : List α}, l.Perm m → ∀ L : List β, m = L.map f → ∃ L' : List β, L'.Perm L ∧ l = L'.map f := by
  intro l m p
  induction p with
  | nil =>
    intro L e
    cases L with
    | nil => exact ⟨[], List.Perm.refl _, rfl⟩
    | cons _ _ => cases e
  | cons x p ih =>
    intro L e
    cases L with
    | nil => cases e
    | cons a L =>
      have e0 : _ = f a ∧ _ = L.map f := List.cons.inj e
      obtain ⟨rfl, e'⟩ := e0
      obtain ⟨L', q, rfl⟩ := ih L e'
      exact ⟨a :: L', q.cons a, rfl⟩
  | swap x y t =>
    intro L e
    match L, e with
    | a :: b :: L, e =>
      have e0 : _ = f a ∧ _ = (b :: L).map f := List.cons.inj e
      obtain ⟨rfl, e'⟩ := e0
      have e1 : _ = f b ∧ _ = L.map f := List.cons.inj e'
      obtain ⟨rfl, rfl⟩ := e1
      exact ⟨b :: a :: L, List.Perm.swap a b L, rfl⟩
  | trans p q i1 i2 =>
    intro L e
    obtain ⟨L1, q1, e1⟩ := i2 L e
    obtain ⟨L2, q2, e2⟩ := i1 L1 e1
    exact ⟨L2, q2.trans q1, e2⟩
end
theorem le_list_tr (a b d : List Int) (h : decide (a ≤ b) = true) (h' : decide (b ≤ d) = true) : decide (a ≤ d) = true := decide_eq_true (List.le_trans (of_decide_eq_true h) (of_decide_eq_true h'))
theorem le_list_tot (a b : List Int) : (decide (a ≤ b) || decide (b ≤ a)) = true := by
  rcases List.le_total a b with h | h
  · rw [decide_eq_true h]; rfl
  · rw [decide_eq_true h]; cases decide (a ≤ b) <;> rfl
theorem le_list_anti (a b : List Int) (h : decide (a ≤ b) = true) (h' : decide (b ≤ a) = true) : a = b := List.le_antisymm (of_decide_eq_true h) (of_decide_eq_true h')
theorem le_int_tr (a b d : Int) (h : decide (a ≤ b) = true) (h' : decide (b ≤ d) = true) : decide (a ≤ d) = true := by
  have := of_decide_eq_true h
  have := of_decide_eq_true h'
  exact decide_eq_true (by omega)
theorem le_int_tot (a b : Int) : (decide (a ≤ b) || decide (b ≤ a)) = true := by
  rcases Int.le_total a b with h | h
  · rw [decide_eq_true h]; rfl
  · rw [decide_eq_true h]; cases decide (a ≤ b) <;> rfl
theorem le_int_anti (a b : Int) (h : decide (a ≤ b) = true) (h' : decide (b ≤ a) = true) : a = b := by
  have := of_decide_eq_true h
  have := of_decide_eq_true h'
  omega
theorem dataLe_tups {β : Type} (x : β → List Int) : dataLe false (fun b => .tuple ((x b).map .int)) = fun p q => decide (x p ≤ x q) := by
  rw [← dataLe_rows]
  funext p q
  show (!dataLt (.tuple ((x q).map .int)) (.tuple ((x p).map .int))) = (!dataLt (.list ((x q).map .int)) (.list ((x p).map .int)))
  rw [dataLt_list, dataLt_tuple]
theorem alike_ints : ∀ a b : List Int, alikeAll (a.map .int) (b.map .int) = true
  | [], _ => by cases ‹List Int› <;> rfl
  | _ :: _, [] => rfl
  | _ :: a, _ :: b => by
    rw [List.map_cons, List.map_cons, alikeAll, alike, alike_ints a b]; rfl
theorem depth_ints : ∀ a : List Int, PyData.depthAll (a.map .int) ≤ 1
  | [] => by decide
  | _ :: a => by
    have := depth_ints a
    rw [List.map_cons, PyData.depthAll, PyData.depth]
    exact Nat.max_le.mpr ⟨by omega, this⟩
section
variable {P : Program} {w : World} {A : Around} {E : Value → Shared → Prop} {s : Shared}
theorem readsAll_ints {h : Heap} : ∀ {vs : List Value} {ns : List Int}, IntsAre vs ns → ∃ as, ReadsAll h vs (ns.map .int) as
  | _, _, .nil => ⟨_, .nil⟩
  | _, _, .cons n t r => by
    obtain ⟨as, q⟩ := readsAll_ints r
    exact ⟨_, .cons (.int n t) q⟩
theorem isT_reads {h : Heap} {k : List Int} {b : Addr} (x : IsT P w h k b) : ∃ as, Reads h (.ref b) (.tuple (k.map .int)) as := by
  obtain ⟨o, its, n, ho, hc, hd, hi⟩ := x
  obtain ⟨as, q⟩ := readsAll_ints (h := h) (ints_of_items hi)
  exact ⟨as, .tuple ho hc hd q⟩
variable {a : Addr} {L : List (Addr × List Int)} {es : Array (Int × Value)} {ep : Nat} {t : SetTable} {Q : Value → Shared → Prop}
theorem each_refs : ∀ L : List (Addr × List Int), EachIs (fun (v : Value) (p : Addr × List Int) => v = .ref p.1) (L.map fun p => Value.ref p.1) L
  | [] => .nil
  | _ :: L => .cons rfl (each_refs L)
theorem refs_each : ∀ {vs : List Value} {L : List (Addr × List Int)}, EachIs (fun (v : Value) (p : Addr × List Int) => v = .ref p.1) vs L → vs = L.map fun p => Value.ref p.1
  | _, _, .nil => rfl
  | _, _, .cons h t => by rw [h, refs_each t]; rfl
theorem sorted_tset (R : TSet P w s.heap a L es ep t) (hh : A.handled = none) (hu : A.units + 8 < cLine)
    (h : ∀ (s' : Shared) (p : Addr) (L' : List (Addr × List Int)) (c : Nat), (∀ b o, s.heap.get? b = some o → s'.heap.get? b = some o) → s'.gens = s.gens → s'.os = s.os → s.heap.objs.size ≤ p → s'.heap.get? p = some (seqObj "list" (List.toArray (L'.map fun q => Value.ref q.1)) c) → L'.Perm L → L'.map (·.2) = (L.map (·.2)).mergeSort (fun a b => decide (a ≤ b)) → Q (.ref p) s') :
    wpAny (model P w) A (call (.builtin "sorted") [.ref a]) Q E s := by
  obtain ⟨o, ho, hex, hd⟩ := R.obj
  have hsz := R.sz
  have hfew := R.few
  have hes : es.toList.map (·.2) = L.map fun q => Value.ref q.1 := by
    rw [R.row]
    unfold L2.rowsOf
    rw [List.map_map] <;> rfl
  refine sorted_collP (Pm := fun bs' => bs'.Perm _) (hP := fun _ h => h) (β := Addr × List Int) (bs := L) (enc := fun p => .tuple (p.2.map .int)) (R := fun v p => v = .ref p.1) (by rw [sizeLine_eq]; omega) (fun Q' hq => ?_) (fun h' keep v b hb e => ?_) ?_ ?_ ?_ fun s' p out c bs' k g o1 hp hg pm e => ?_
  · refine collect_set (A := A.in1) hh ⟨o, ho, hex.1, hd⟩ R.fit (by unfold scanBound; omega) R.lay.up R.led fun s1 vs k1 hz g1 o1 pm => ?_
    rw [hes] at pm
    obtain ⟨L', pL, rfl⟩ := perm_back pm L rfl
    exact hq s1 _ L' k1 hz g1 o1 (each_refs L') pL
  · rw [e]
    exact isT_reads (isT_keep (R.tup b hb) keep)
  · intro d hd' d' hd2
    obtain ⟨p, _, rfl⟩ := List.mem_map.mp hd'
    obtain ⟨q, _, rfl⟩ := List.mem_map.mp hd2
    rw [alike]; exact alike_ints _ _
  · refine .inl fun d hd' => ?_
    obtain ⟨p, _, rfl⟩ := List.mem_map.mp hd'
    exact ⟨_, rfl⟩
  · intro b hb
    have := depth_ints b.2
    rw [PyData.depth]
    omega
  · have e1 := refs_each e
    rw [e1] at hg
    refine h s' p _ c k g o1 hp hg ((List.mergeSort_perm _ _).trans pm) ?_
    rw [dataLe_tups]
    rw [List.map_mergeSort (s := fun a b => decide (a ≤ b)) (f := fun q : Addr × List Int => q.2) fun _ _ _ _ => rfl]
    exact sort_nub le_list_tr le_list_tot le_list_anti (pm.map _)
theorem each_ints' : ∀ {vs : List Value} {ns : List Int}, IntsAre vs ns → EachIs (fun (v : Value) (n : Int) => ∃ t, v = .int n t) vs ns
  | _, _, .nil => .nil
  | _, _, .cons n t r => .cons ⟨t, rfl⟩ (each_ints' r)
theorem ints_each : ∀ {vs : List Value} {ns : List Int}, EachIs (fun (v : Value) (n : Int) => ∃ t, v = .int n t) vs ns → Vals (ns.map V.int) vs
  | _, _, .nil => .nil
  | _, _, .cons h t => .cons h (ints_each t)
theorem sorted_iset {S : Int → Bool} {n : Nat} (R : SetR w s.heap a S n) (hh : A.handled = none) (hn : n ≤ sizeLine) (hu : A.units + 8 < cLine)
    (h : ∀ (s' : Shared) (p : Addr) (out : List Value) (ns : List Int) (c : Nat), (∀ b o, s.heap.get? b = some o → s'.heap.get? b = some o) → s'.gens = s.gens → s'.os = s.os → s.heap.objs.size ≤ p → s'.heap.get? p = some (seqObj "list" (List.toArray out) c) → Vals ((ns.mergeSort (fun a b => decide (a ≤ b))).map V.int) out → ns.Nodup → (∀ k, k ∈ ns ↔ S k = true) → ns.length = n → Q (.ref p) s') :
    wpAny (model P w) A (call (.builtin "sorted") [.ref a]) Q E s := by
  obtain ⟨o, es, ep, t, ho, hex, hd, g, nd, hm, hb, hf, rfl, hr, hl⟩ := R
  refine sorted_collP (Pm := fun bs' => bs'.Perm _) (hP := fun _ h => h) (β := Int) (bs := es.toList.map keyOf) (enc := fun n => .int n) (R := fun v n => ∃ t, v = .int n t) (by rw [List.length_map, Array.length_toList]; exact hn) (fun Q' hq => ?_) (fun h' keep v b hb e => ?_) ?_ ?_ ?_ fun s' p out c bs' k g o1 hp hg pm e => ?_
  · refine collect_set (A := A.in1) hh ⟨o, ho, hex.1, hd⟩ hf hb hr hl fun s1 vs k1 hz g1 o1 pm => ?_
    have hI : IntsAre vs (vs.map Builtin.Re.reRawOf) := ints_of vs fun v hv => by
      obtain ⟨e, he, q⟩ := List.mem_map.mp (pm.mem_iff.mp hv)
      obtain ⟨k, tk, h1, _⟩ := g e he
      exact ⟨k, tk, by rw [← q]; exact h1⟩
    have pk : (vs.map Builtin.Re.reRawOf).Perm (es.toList.map keyOf) := by
      have q := pm.map Builtin.Re.reRawOf
      rw [List.map_map] at q
      exact q
    exact hq s1 _ _ k1 hz g1 o1 (each_ints' hI) pk
  · obtain ⟨t, rfl⟩ := e
    exact ⟨_, .int b t⟩
  · intro d hd' d' hd2
    obtain ⟨p, _, rfl⟩ := List.mem_map.mp hd'
    obtain ⟨q, _, rfl⟩ := List.mem_map.mp hd2
    rfl
  · refine .inr fun d hd' => ?_
    obtain ⟨p, _, rfl⟩ := List.mem_map.mp hd'
    exact ⟨(fun z => nomatch z), (fun xs z => nomatch z)⟩
  · intro b hb
    rw [PyData.depth]
    omega
  · rw [dataLe_int] at e
    refine h s' p out bs' c k g o1 hp hg (ints_each e) (pm.nodup_iff.mpr nd) (fun k => by rw [pm.mem_iff, ← hm k]) ?_
    rw [pm.length_eq, List.length_map, Array.length_toList]
end
/-! ### the forms -/
def rSS (K : PySem.W.Frag) (b : Bool) : V → Hp → VK → Prop := fun x H Q => ∃ l xs, x = .ref l ∧ (SqL K H l xs ∨ SqT K H l xs) ∧
  ((∃ ns : List Int, xs = ns.map V.int ∧ ns.length < 4000 ∧ cond b (∀ p, H p = none → Q (.ref p) (upd H p (.lst ((setI ns).map V.int)))) (Q (.int (nub ns).length) H)) ∨
   ∃ ks : List (Addr × List Int), xs = ks.map (fun p => V.ref p.1) ∧ (∀ p ∈ ks, SqT K H p.1 (p.2.map V.int)) ∧ ks.length < 4000 ∧
    cond b (∀ (p : Addr) (L : List (Addr × List Int)), (∀ q ∈ L, q ∈ ks) → L.map (·.2) = setT (ks.map (·.2)) → H p = none → Q (.ref p) (upd H p (.lst (L.map fun q => V.ref q.1)))) (Q (.int (nub (ks.map (·.2))).length) H))
section
variable {X : Cx} {e : Expr} {te : TE} {p1 p2 p3 p4 : Pos}
theorem pe_sset (hc : X.calm = true) (hu : X.A.units + 64 < cLine) (hg : Gl X "sorted") (hm : X.mg "sorted" = none) (hg2 : Gl X "set") (hm2 : X.mg "set" = none) (he : PE X e te)
    (na : starEach [e] X.env = (false, eval e X.env) :: starEach [] X.env := by rfl) : PE X (.Call (.Name "sorted" p1) [.Call (.Name "set" p2) [e] [] p3] [] p4) (fun σ H Q => te σ H fun x H1 => rSS X.K true x H1 Q) := by
  refine ⟨fun pins s σ H Q I h => ?_⟩
  refine Call_ (ld_blt I hg hm PyProof.Rows.boot_sorted ?_)
  refine PyProof.Rows.callWith_builtin1 (PyProof.Rows.args_cons ?_ rfl) rfl rfl
  refine Call_ (ld_blt I hg2 hm2 PyProof.Rows.boot_set ?_)
  refine PyProof.Rows.callWith_type1 (PyProof.Rows.args_cons (thn (he.run pins s σ H _ I h) fun v s1 ⟨x, H1, I1, r1, q1⟩ => PyProof.Rows.args_nil ?_) na) na rfl
  obtain ⟨l, xs, rfl, hl, q1⟩ := q1
  cases r1
  obtain ⟨its, rv, pl⟩ : ∃ its, Vals xs its ∧ (s1.heap.IsList l its.toArray ∨ s1.heap.IsTuple l its.toArray) := by
    rcases hl with hl | hl
    · obtain ⟨its, r, pl, hz⟩ := I1.list hl
      exact ⟨its, r, .inl pl.isList⟩
    · obtain ⟨its, r, pl, hz⟩ := I1.tuple hl
      exact ⟨its, r, .inr pl⟩
  rcases q1 with ⟨ns, rfl, few, q⟩ | ⟨ks, rfl, hk, few, q⟩
  · refine call_set_xs (I1.ok.hd hc) pl (fills_ints ns (by simpa using rv.ints) (by unfold scanBound; omega)) fun h' tk hS hk => ?_
    obtain ⟨n, hn, R⟩ := hS
    have I2 : Inv X pins σ H1 { s1 with heap := h', toks := tk } := I1.kept fun b o e => hk b o e
    refine PyProof.Rows.args_nil ?_
    refine sorted_iset (s := { s1 with heap := h', toks := tk }) R (I1.ok.hd hc) (by rw [sizeLine_eq]; omega) (by omega) fun s' p out ms c k g o hp hg hv nd hms hl => ?_
    have em : ms.mergeSort (fun a b => decide (a ≤ b)) = setI ns := sort_nub le_int_tr le_int_tot le_int_anti (nub_same nd fun k => by rw [hms k]; exact decide_eq_true_iff)
    rw [em] at hv
    have hlen : ((setI ns).map V.int).length ≤ sizeLine := by
      have := hv.length
      rw [← em, List.length_map, List.length_mergeSort, sizeLine_eq, hl]
      omega
    have J : Inv X pins σ (upd H1 p (.lst ((setI ns).map V.int))) { s1 with heap := s'.heap, gens := s'.gens, drawn := s'.drawn, toks := s'.toks } :=
      Inv.call (s := { s1 with heap := h', toks := tk }) I2 (ch := []) (Un.laid k hp (I2.hok.fresh hp)) (I2.hok.laid k hp ⟨hlen, out, c, hv, hg⟩) (by rw [g]; exact I2.bare) (fun _ z => nomatch z)
    have es : s' = { s1 with heap := s'.heap, gens := s'.gens, drawn := s'.drawn, toks := s'.toks } := by
      cases s'
      cases s1
      cases o
      rfl
    rw [es]
    exact ⟨.ref p, _, J, rfl, q p (I2.hok.fresh hp)⟩
  · refine call_set_xs (I1.ok.hd hc) pl (fills_tups ks (by simpa using refs_of_vals rv) (fun p hp => I1.isT (hk p hp)) (by omega) (show X.A.in1.in1.in1.units < cLine from by show X.A.units + 1 + 1 + 1 < cLine; omega)) fun h' tk hS hkp => ?_
    obtain ⟨L, es, ep, t, R, sub, all⟩ := hS
    have I2 : Inv X pins σ H1 { s1 with heap := h', toks := tk } := I1.kept fun b o e => hkp b o e
    refine PyProof.Rows.args_nil ?_
    refine sorted_tset (s := { s1 with heap := h', toks := tk }) R (I1.ok.hd hc) (by omega) fun s' p L' c k g o hp hg pm em => ?_
    have em' : L'.map (·.2) = setT (ks.map (·.2)) := by
      rw [em]
      refine sort_nub le_list_tr le_list_tot le_list_anti (nub_same R.one fun k => ⟨fun hk' => ?_, fun hk' => ?_⟩)
      · obtain ⟨p, hp, rfl⟩ := List.mem_map.mp hk'
        exact List.mem_map.mpr ⟨p, sub p hp, rfl⟩
      · obtain ⟨p, hp, rfl⟩ := List.mem_map.mp hk'
        exact all p hp
    have hlen : (L'.map fun q => V.ref q.1).length ≤ sizeLine := by
      have := R.few
      rw [List.length_map, pm.length_eq, sizeLine_eq]
      omega
    have J : Inv X pins σ (upd H1 p (.lst (L'.map fun q => V.ref q.1))) { s1 with heap := s'.heap, gens := s'.gens, drawn := s'.drawn, toks := s'.toks } :=
      Inv.call (s := { s1 with heap := h', toks := tk }) I2 (ch := []) (Un.laid k hp (I2.hok.fresh hp)) (I2.hok.laid k hp ⟨hlen, _, c, vals_of_refs L', hg⟩) (by rw [g]; exact I2.bare) (fun _ z => nomatch z)
    have es : s' = { s1 with heap := s'.heap, gens := s'.gens, drawn := s'.drawn, toks := s'.toks } := by
      cases s'
      cases s1
      cases o
      rfl
    rw [es]
    exact ⟨.ref p, _, J, rfl, q p L' (fun r hr => sub r (pm.mem_iff.mp hr)) em' (I2.hok.fresh hp)⟩
theorem pe_nset (hc : X.calm = true) (hu : X.A.units + 64 < cLine) (hg : Gl X "len") (hm : X.mg "len" = none) (hg2 : Gl X "set") (hm2 : X.mg "set" = none) (he : PE X e te)
    (na : starEach [e] X.env = (false, eval e X.env) :: starEach [] X.env := by rfl) : PE X (.Call (.Name "len" p1) [.Call (.Name "set" p2) [e] [] p3] [] p4) (fun σ H Q => te σ H fun x H1 => rSS X.K false x H1 Q) := by
  refine ⟨fun pins s σ H Q I h => ?_⟩
  refine Call_ (ld_blt I hg hm PySem.boot_len ?_)
  refine PyProof.Rows.callWith_builtin1 (PyProof.Rows.args_cons ?_ rfl) rfl rfl
  refine Call_ (ld_blt I hg2 hm2 PyProof.Rows.boot_set ?_)
  refine PyProof.Rows.callWith_type1 (PyProof.Rows.args_cons (thn (he.run pins s σ H _ I h) fun v s1 ⟨x, H1, I1, r1, q1⟩ => PyProof.Rows.args_nil ?_) na) na rfl
  obtain ⟨l, xs, rfl, hl, q1⟩ := q1
  cases r1
  obtain ⟨its, rv, pl⟩ : ∃ its, Vals xs its ∧ (s1.heap.IsList l its.toArray ∨ s1.heap.IsTuple l its.toArray) := by
    rcases hl with hl | hl
    · obtain ⟨its, r, pl, hz⟩ := I1.list hl
      exact ⟨its, r, .inl pl.isList⟩
    · obtain ⟨its, r, pl, hz⟩ := I1.tuple hl
      exact ⟨its, r, .inr pl⟩
  rcases q1 with ⟨ns, rfl, few, q⟩ | ⟨ks, rfl, hk, few, q⟩
  · refine call_set_xs (I1.ok.hd hc) pl (fills_ints ns (by simpa using rv.ints) (by unfold scanBound; omega)) fun h' tk hS hk => ?_
    obtain ⟨n, hn, o, es, ep, t, ho, hex, hd, g, nd, hms, hb, hf, hz, hr, hl⟩ := hS
    have I2 : Inv X pins σ H1 { s1 with heap := h', toks := tk } := I1.kept fun b o e => hk b o e
    refine PyProof.Rows.args_nil ?_
    refine call_len_set (s := { s1 with heap := h', toks := tk }) ho hex hd hf (by omega) ⟨.int (nub ns).length, H1, I2.tok _, ⟨tk + 1, ?_⟩, (show Q (.int (nub ns).length) H1 from q)⟩
    have em : (es.toList.map keyOf).Perm (nub ns) := nub_same nd fun k => by rw [← hms k]; exact decide_eq_true_iff
    have := em.length_eq
    rw [List.length_map, Array.length_toList] at this
    rw [this]
  · refine call_set_xs (I1.ok.hd hc) pl (fills_tups ks (by simpa using refs_of_vals rv) (fun p hp => I1.isT (hk p hp)) (by omega) (show X.A.in1.in1.in1.units < cLine from by show X.A.units + 1 + 1 + 1 < cLine; omega)) fun h' tk hS hkp => ?_
    obtain ⟨L, es, ep, t, R, sub, all⟩ := hS
    have I2 : Inv X pins σ H1 { s1 with heap := h', toks := tk } := I1.kept fun b o e => hkp b o e
    refine PyProof.Rows.args_nil ?_
    obtain ⟨o, ho, hex, hd⟩ := R.obj
    have sz := rows_len R.row
    have fw := R.few
    refine call_len_set (s := { s1 with heap := h', toks := tk }) ho hex hd (TSet.fit (s := { s1 with heap := h', toks := tk }) R) (by omega) ⟨.int (nub (ks.map (fun x => x.2))).length, H1, I2.tok _, ⟨tk + 1, ?_⟩, (show Q (.int (nub (ks.map (fun x => x.2))).length) H1 from q)⟩
    have em : (L.map (·.2)).Perm (nub (ks.map (·.2))) := nub_same R.one fun k => ⟨fun hk' => by
      obtain ⟨p, hp, rfl⟩ := List.mem_map.mp hk'
      exact List.mem_map.mpr ⟨p, sub p hp, rfl⟩, fun hk' => by
      obtain ⟨p, hp, rfl⟩ := List.mem_map.mp hk'
      exact all p hp⟩
    have := em.length_eq
    rw [List.length_map] at this
    rw [sz, this]
end
section
variable {X : Cx} {c : Cn} {G : GS} {cl : Caller} {a : CE} {ea : Expr}
theorem repTups {Z : Hp} : ∀ {ds : List D} {vs : List V} {ts : List (List Int)}, tupsOf ds = some ts → RepL c Z ds vs → ∃ ks : List (Addr × List Int), vs = ks.map (fun p => V.ref p.1) ∧ ks.map (·.2) = ts ∧ ∀ p ∈ ks, TupAt c.K Z p.1 (p.2.map V.int)
  | [], vs, ts, e, q => by
    cases e
    rw [show vs = [] from q]
    exact ⟨[], rfl, rfl, fun p h => by cases h⟩
  | d :: ds, vs, ts, e, q => by
    obtain ⟨v, r, rfl, q1, q2⟩ := q
    cases d with
    | tup xs =>
      unfold tupsOf at e
      split at e
      · rename_i ns ts' e1 e2
        cases e
        obtain ⟨ks, rfl, h2, h3⟩ := repTups e2 q2
        obtain ⟨b, ws, rfl, s1, r1⟩ := q1
        rw [repInts e1 r1] at s1
        refine ⟨(b, ns) :: ks, rfl, by rw [List.map_cons, h2], fun p hp => ?_⟩
        rcases List.mem_cons.mp hp with z | z
        · rw [z]; exact s1
        · exact h3 p z
      · cases e
    | _ => cases e
theorem tups_rep {Z : Hp} : ∀ {L : List (Addr × List Int)}, (∀ p ∈ L, TupAt c.K Z p.1 (p.2.map V.int)) → RepL c Z ((L.map (·.2)).map fun t => D.tup (t.map D.int)) (L.map fun p => V.ref p.1)
  | [], _ => (rfl : ([] : List V) = [])
  | p :: L, h => ⟨V.ref p.1, _, rfl, ⟨p.1, p.2.map V.int, rfl, h p (List.mem_cons_self ..), RepL.ints p.2⟩, tups_rep fun q hq => h q (List.mem_cons_of_mem _ hq)⟩
theorem rep_int {Z : Hp} (i : Int) : Rep c Z (.int i) (.int i) := rfl
theorem s_sset (hK : X.K = c.K) {b : Bool} {e : Expr} (h : PE X e (fun σ H Q => tE c G cl a σ H fun x H1 => rSS X.K b x H1 Q)) : PE X e (tE c G cl (.sset b a)) :=
  pe_imp h fun σ H Q q => by
    obtain ⟨p, F, Z, τ, A, r, τ', s, e, k⟩ := q
    unfold evE at e
    split at e
    · cases e
    · rename_i ra τ1 e1
      split at e
      · cases e
      · rename_i xs l1
        refine one_op s e1 fun vx H1 Z1 A1 po w => ?_
        have sq : ∃ l vs, vx = .ref l ∧ (SqL X.K H1 l vs ∨ SqT X.K H1 l vs) ∧ RepL c Z1 xs vs := by
          unfold seqLT at l1
          split at l1
          · rename_i ys lk
            cases l1
            obtain ⟨l, vs, rfl, s1, r1⟩ := look_ok po.st w lk
            exact ⟨l, vs, rfl, .inl (SqL.of s1), r1⟩
          · rename_i ys lk
            cases l1
            obtain ⟨l, vs, rfl, s1, r1⟩ := look_ok po.st w lk
            exact ⟨l, vs, rfl, .inr (by rw [hK]; exact (sqT_mono po.st.zh s1).sq), r1⟩
          · cases l1
        obtain ⟨l, vs, rfl, hl, rp⟩ := sq
        refine ⟨l, vs, rfl, hl, ?_⟩
        have lv := RepL.len _ _ rp
        have tp : ∀ {ks : List (Addr × List Int)}, (∀ p ∈ ks, TupAt c.K Z1 p.1 (p.2.map V.int)) → ∀ p ∈ ks, SqT X.K H1 p.1 (p.2.map V.int) := fun h p hp => by rw [hK]; exact (sqT_mono po.st.zh (h p hp)).sq
        cases b with
        | true =>
          simp only [if_true] at e
          cases e2 : ssetD xs with
          | none => rw [e2] at e; cases e
          | some ys =>
            rw [e2] at e
            cases e
            unfold ssetD at e2
            split at e2
            · rename_i few
              split at e2
              · rename_i ns en
                cases e2
                have ev := repInts en rp
                refine .inl ⟨ns, ev, ?_, fun p np => fin_new po (.inr (.inr ⟨p, _, _, rfl, rfl, np, rfl, RepL.ints _⟩)) k⟩
                rw [ev, List.length_map] at lv
                omega
              · cases e3 : tupsOf xs with
                | none => rw [e3] at e2; cases e2
                | some ts =>
                  rw [e3] at e2
                  cases e2
                  obtain ⟨ks, rfl, rfl, hk⟩ := repTups e3 rp
                  refine .inr ⟨ks, rfl, tp hk, ?_, fun p L sub em np => fin_new po (.inr (.inr ⟨p, _, _, rfl, rfl, np, rfl, ?_⟩)) k⟩
                  · rw [List.length_map] at lv
                    omega
                  · show RepL c Z1 ((setT (ks.map (·.2))).map fun t => D.tup (t.map D.int)) _
                    rw [← em]
                    exact tups_rep fun p hp => hk p (sub p hp)
            · cases e2
        | false =>
          simp only [Bool.false_eq_true, if_false] at e
          cases e2 : nsetD xs with
          | none => rw [e2] at e; cases e
          | some n =>
            rw [e2] at e
            cases e
            unfold nsetD at e2
            split at e2
            · rename_i few
              split at e2
              · rename_i ns en
                cases e2
                have ev := repInts en rp
                refine .inl ⟨ns, ev, ?_, fin_new po (.inl ⟨.int (nub ns).length, rfl, rfl, rfl⟩) k⟩
                rw [ev, List.length_map] at lv
                omega
              · cases e3 : tupsOf xs with
                | none => rw [e3] at e2; cases e2
                | some ts =>
                  rw [e3] at e2
                  cases e2
                  obtain ⟨ks, rfl, rfl, hk⟩ := repTups e3 rp
                  refine .inr ⟨ks, rfl, tp hk, ?_, ?_⟩
                  · rw [List.length_map] at lv
                    omega
                  · exact fin_new po (.inl ⟨_, rfl, rfl, rep_int _⟩) k
            · cases e2
end
end Ev

/-! Ev, part R: == and != of two instances by their class's own __eq__. -/
namespace Ev
open PySem L2 PyProof.Rows
section
variable {prog : Program} {w : World} {A : Around} {E : Value → Shared → Prop} {s : Shared} {K : PySem.W.Frag} {x C f : Addr} {ox : Obj} {od : Option Obj} {b tb : Value}
def BlBack (Q : Value → Shared → Prop) (v : Value) (s' : Shared) : Prop := ∃ r, v = .bool r ∧ Q (.bool !r) s'
theorem ne_body {Q : Fin → Shared → Prop} (X : K.In s.heap) (J : PySem.W.InstAt s.heap x ox C od) (hu : A.units < cLine) (he : PySem.W.findIn K (.ref C) "__eq__" = some (some (.ref f))) (hf : PySem.W.isFn K (.ref f) = true)
    (h : wpAny (model prog w) A (call (.ref f) [.ref x, b]) (BlBack fun v s' => Q (.done (.ret v)) s') E s) : wpAny (model prog w) A (Builtin.«object.__ne__» ⟨[.ref x, b], []⟩) Q E s := by
  unfold Builtin.«object.__ne__»
  refine wpAny_bind (m := PySem.slotArgs "__ne__" 1 _) (wpAny_pure ?_)
  refine wpAny_bind (wpAny_cRoomFor hu ?_)
  refine wpAny_bind (PySem.W.ifBound_K X J he hf (wpAny_mono h (fun v s' hv => ?_) fun _ _ e => e))
  obtain ⟨r, rfl, q⟩ := hv
  exact wpAny_bind (wpAny_truthy_bool (wpAny_pure q))
theorem ne_call {Q : Value → Shared → Prop} (X : K.In s.heap) (J : PySem.W.InstAt s.heap x ox C od) (hu : A.in1.units < cLine) (hm : PySem.W.mroIn K C (.type "object") = some true) (he : PySem.W.findIn K (.ref C) "__eq__" = some (some (.ref f))) (hf : PySem.W.isFn K (.ref f) = true)
    (h : wpAny (model prog w) A.in1 (call (.ref f) [.ref x, b]) (BlBack Q) E s) : wpAny (model prog w) A (call (.builtin "object.__ne__") [.ref x, b]) Q E s :=
  wpAny_call (codeAny_call_builtin F.cmp_object.ne.plain F.cmpEntry_ne (PySem.W.check_slot F.cmpKind_ne F.cmpSplit_ne (J.type.andThen (PySem.W.looks_mroIn X hm)) (F.cmpArgs_ne _ _) (ne_body X J hu he hf h)))
theorem ne_bound {args : List Value} {Q : Option Value → Shared → Prop} {M : Model} (X : K.In s.heap) (J : PySem.W.InstAt s.heap x ox C od) (hs : PySem.W.findIn K (.ref C) "__ne__" = some (some (.builtin "object.__ne__")))
    (h : wpAny M A (call (.builtin "object.__ne__") (.ref x :: args)) (fun v => Q (some v)) E s) : wpAny M A (callSpecialIfBound? (.ref x) "__ne__" args) Q E s := by
  simp only [callSpecialIfBound?, bindSpecialIfBound?]
  refine wpAny_holding (wpAny_bind (wpAny_bind (wpAny_bind (J.type.here ((PySem.W.looks_findIn X hs).here ?_)))))
  refine wpAny_bind (wpAny_askSetting (wpAny_ite ?_))
  have done : wpAny M A (call (.builtin "object.__ne__") ([.ref x] ++ args) >>= fun v => pure (some v)) Q E s := wpAny_bind (wpAny_mono h (fun v s' q => wpAny_pure q) fun _ _ q => q)
  split
  · exact wpAny_bind (wpAny_of_eq (F.cmp_object.ne.bind _) (wpAny_pure (by exact done)))
  · exact wpAny_tryCatch (wpAny_bind (wpAny_of_eq (F.cmp_object.ne.bind _) (wpAny_pure (by exact done))))
/-- !=, the right one's class not below the left one's -/
theorem ne_rich {Q : Value → Shared → Prop} (hu : A.units + 1 < cLine) (X : K.In s.heap) (J : PySem.W.InstAt s.heap x ox C od) (hb : PySem.W.Looks (model prog w) s.heap (typeOf b) tb) (hn : PySem.W.notFirst K C tb = true)
    (hm : PySem.W.mroIn K C (.type "object") = some true) (hne : PySem.W.findIn K (.ref C) "__ne__" = some (some (.builtin "object.__ne__"))) (he : PySem.W.findIn K (.ref C) "__eq__" = some (some (.ref f))) (hf : PySem.W.isFn K (.ref f) = true)
    (h : wpAny (model prog w) A.in1 (call (.ref f) [.ref x, b]) (BlBack Q) E s) : wpAny (model prog w) A (richCompare .NotEq (.ref x) b) Q E s := by
  have one : wpAny (model prog w) A (tryCompare (.ref x) "__ne__" b) (fun r s' => ∃ v, r = some v ∧ Q v s') E s := by
    unfold tryCompare
    refine wpAny_bind (ne_bound X J hne (ne_call X J hu hm he hf (wpAny_mono h (fun v s' hv => ?_) fun _ _ e => e)))
    obtain ⟨r, rfl, q⟩ := hv
    exact ⟨r, rfl, wpAny_pure ⟨_, rfl, q⟩⟩
  unfold richCompare
  simp only [oneThing_ref, cmpInfo_NotEq]
  refine wpAny_holding (wpAny_bind (wpAny_cRoomFor (Nat.lt_of_succ_lt hu) ?_))
  refine wpAny_bind (J.type.here (wpAny_bind (hb.here ?_)))
  have go : ∀ {R : Value → Shared → Prop}, (∀ v s', Q v s' → R v s') → wpAny (model prog w) A (tryCompare (.ref x) "__ne__" b) (fun r s' => ∃ v, r = some v ∧ R v s') E s := fun {R} hr => wpAny_mono one (fun r s' ⟨v, e, q⟩ => ⟨v, e, hr v s' q⟩) fun _ _ e => e
  split
  · rename_i q
    have e : PySem.W.subIn K tb (.ref C) = some false := by
      rcases Bool.or_eq_true_iff.mp hn with e | e
      · rw [beq_iff_eq.mp e] at q; simp at q
      · exact beq_iff_eq.mp e
    refine wpAny_bind ((PySem.W.looks_subIn X e).here ?_)
    simp only [Bool.false_eq_true, if_false]
    refine wpAny_bind (wpAny_mono (go fun _ _ q => q) (fun r s' z => ?_) fun _ _ e => e)
    obtain ⟨v, rfl, hq⟩ := z
    exact wpAny_pure hq
  · refine wpAny_bind (wpAny_pure ?_)
    simp only [Bool.false_eq_true, if_false]
    refine wpAny_bind (wpAny_mono (go fun _ _ q => q) (fun r s' z => ?_) fun _ _ e => e)
    obtain ⟨v, rfl, hq⟩ := z
    exact wpAny_pure hq
end
/-- the class at C has an own __eq__ at f, and no own __ne__ -/
structure OwnE (K : PySem.W.Frag) (C f : Addr) : Prop where
  eq : PySem.W.findIn K (.ref C) "__eq__" = some (some (.ref f))
  ne : PySem.W.findIn K (.ref C) "__ne__" = some (some (.builtin "object.__ne__"))
  fn : PySem.W.isFn K (.ref f) = true
section
variable {X : Cx} {pins : List (Addr × Obj)} {σ : L2.St} {H : Hp} {s : Shared} {Q : VK} {a b fa : Addr} {fd : FuncData} {ps : List Str} {sp : Sp} {j : Nat}
theorem run_own {A : Around} (F : FnOk X.prog X.w X.K X.mg X.base CX0 j fa fd ps sp) (hr : Room j A) (fr : A.frames = X.A.frames) (hb : Binds X.K fd ps []) (I : Inv X pins σ H s) (hsp : sp [.ref a, .ref b] H Q E0) :
    wpAny (model X.prog X.w) A (call (.ref fa) [.ref a, .ref b]) (EP X pins σ Q) X.xe s := by
  have e0 : Env0 X.prog X.w X.K X.mg X.base A X.stack s H := by
    have e := I.env0
    exact ⟨by rw [fr]; exact e.frames, e.mod, e.bs, e.bsz, e.funs, e.frf, e.hok, e.bare⟩
  have hl := F.len _ _ _ _ hsp
  have rv : Vals [V.ref a, V.ref b] [Value.ref a, Value.ref b] := .cons rfl (.cons rfl .nil)
  have bd := hb s [.ref a, .ref b] I.kIn (by simpa using hl)
  refine wpAny_call (codeAny_mono (F.run A X.stack s H ⟨[.ref a, .ref b], []⟩ [.ref a, .ref b] [.ref a, .ref b] _ E0 hr e0 (by simpa using bd) rv hsp) fun r s' hq => ?_)
  cases r with
  | error e => exact pass0 pins σ H s e s' I hq
  | ok fl =>
    cases fl with
    | ret w => exact I.after hq
    | next => exact False.elim hq
    | brk => exact False.elim hq
    | cont => exact False.elim hq
end
section
variable {X : Cx} {c : Cn} {G : GS} {cl : Caller} {ea eb : Expr} {ca cb : CE} {pos : Pos}
def EqsOk (X : Cx) (c : Cn) (G : GS) (cl : Caller) : Prop := ∀ (ci : Nat) (kk : Cl) (f : Nat), G.cls.lookup ci = some kk → kk.eq = some f → ∃ C fa fd ps j, c.cls.lookup ci = some C ∧ OwnE X.K C fa ∧ FnOk X.prog X.w X.K X.mg X.base CX0 j fa fd ps (spC c cl f) ∧ Room (j + 1) X.A ∧ Binds X.K fd ps []
def neOp (ne : Bool) : CmpOp := if ne = true then .NotEq else .Eq
def rOE (c : Cn) (G : GS) (cl : Caller) (ne : Bool) : R2 := fun x y H Q => ∃ ci cj kk f a b C C' dx dy fs gs, G.cls.lookup ci = some kk ∧ kk.eq = some f ∧ c.cls.lookup ci = some C ∧ c.cls.lookup cj = some C' ∧ x = .ref a ∧ y = .ref b ∧ H a = some (.ins C dx fs) ∧ H b = some (.ins C' dy gs) ∧
  spC c cl f [x, y] H (fun z H' => ∃ r, z = .bl r ∧ Q (.bl (if ne = true then !r else r)) H') E0
theorem op_oe (hK : X.K = c.K) (eqs : EqsOk X c G cl) (ne : Bool) : OpR X (compareOp (neOp ne)) (rOE c G cl ne) := by
  intro pins s σ H x y v u Q I rx ry h
  obtain ⟨ci, cj, kk, f, a, b, C, C', dx, dy, fs, gs, hk, he, hC, hC', rfl, rfl, ha, hb, q⟩ := h
  cases rx
  cases ry
  obtain ⟨D, fa, fd, ps, j, hD, ow, F, hr, bd⟩ := eqs ci kk f hk he
  rw [hC] at hD
  cases hD
  obtain ⟨mA, J, _⟩ := ins_get I.hok ha
  obtain ⟨mB, J', _⟩ := ins_get I.hok hb
  obtain ⟨od, J, _⟩ := J.look
  obtain ⟨od', J', _⟩ := J'.look
  obtain ⟨m, hF⟩ := I.fr
  have ic := c.isc _ (mem_of_lookup hC)
  have ic' := c.isc _ (mem_of_lookup hC')
  rw [← hK] at ic ic'
  have nf : PySem.W.notFirst X.K C (.ref C') = true := by
    by_cases z : C' = C
    · simp [PySem.W.notFirst, z]
    · have e := ic'.cc _ (mem_of_lookup hC)
      have ne : (Value.ref C' == Value.ref C) = false := by simpa using z
      have nij : (ci == cj) = false := by
        by_cases w : ci = cj
        · exact absurd (by rw [w] at hC; rw [hC] at hC'; exact (Option.some.inj hC').symm) z
        · simpa using w
      unfold PySem.W.kitOne at e
      rw [ne, nij] at e
      simp only [Bool.false_eq_true, if_false] at e
      unfold PySem.W.kitCls at e
      simp only at e
      split at e
      · unfold PySem.W.notFirst
        rw [e]; simp
      · cases e
  have room0 : X.A.units + 1 < cLine := by
    have := hr.un
    omega
  cases ne with
  | false =>
    show wpAny _ _ (richCompare .Eq (.ref a) (.ref b)) _ _ s
    refine PySem.W.cmp_K (op := .Eq) (tb := .ref C') (by omega) hF I.ok.mod.kin J J'.type nf ow.eq ow.fn ?_
    refine wpAny_mono (run_own F (hr.mono (Nat.le_succ _)) rfl bd I q) (fun w s' z => ?_) fun _ _ e => e
    obtain ⟨z', H', I', rz, r, rfl, q'⟩ := z
    cases rz
    exact ⟨.bl r, H', I', rfl, q'⟩
  | true =>
    show wpAny _ _ (richCompare .NotEq (.ref a) (.ref b)) _ _ s
    refine ne_rich room0 I.kIn J J'.type nf ic.mr ow.ne ow.eq ow.fn ?_
    refine wpAny_mono (run_own F hr.in1 rfl bd I q) (fun w s' z => ?_) fun _ _ e => e
    obtain ⟨z', H', I', rz, r, rfl, q'⟩ := z
    cases rz
    exact ⟨r, rfl, .bl (!r), H', I', rfl, q'⟩
theorem giveA_nn (os : List M) (τ : T) : giveA [none, none] os τ = τ := by
  match os with
  | [] => rfl
  | [_] => rfl
  | _ :: _ :: _ => rfl
theorem op_or {op : CmpOp} {S1 S2 : R2} (h1 : OpR X (compareOp op) S1) (h2 : OpR X (compareOp op) S2) : OpR X (compareOp op) (fun x y H Q => S1 x y H Q ∨ S2 x y H Q) := by
  intro pins s σ H x y v u Q I rx ry h
  rcases h with h | h
  · exact h1 pins s σ H x y v u Q I rx ry h
  · exact h2 pins s σ H x y v u Q I rx ry h
def rOC (c : Cn) (G : GS) (cl : Caller) (ne : Bool) : R2 := fun x y H Q => rOE c G cl ne x y H Q ∨ rCmp c (cmpD (neOp ne)) x y H Q
theorem oeq_use {ne : Bool} {σ : L2.St} {H : Hp} {Q : VK} (q : tE c G cl (.oeq ne (.cons ca (.cons cb .nil))) σ H Q) : tOp (rOC c G cl ne) (tE c G cl ca) (tE c G cl cb) σ H Q := by
    obtain ⟨p, F, Z, τ, A, r, τ', s, e, k⟩ := q
    unfold evE at e
    split at e
    · cases e
    · rename_i ds τ1 e1
      unfold evX at e1
      split at e1
      · cases e1
      · rename_i ra τa ea1
        split at e1
        · cases e1
        · rename_i dx τb eb1
          cases e2 : evX G cl p (.cons cb .nil) τb with
          | none => rw [e2] at e1; cases e1
          | some t =>
            rw [e2] at e1
            cases e1
            unfold evX at e2
            split at e2
            · cases e2
            · rename_i rb τc ec1
              split at e2
              · cases e2
              · rename_i dy τd ed1
                unfold evX at e2
                cases e2
                refine ⟨p, F, Z, τ, A, ra, τa, s, ea1, fun x H1 Z1 A1 B1 po1 re1 => ?_⟩
                obtain ⟨Z2, A2, po2, rx⟩ := esc_ok po1.st re1 eb1
                refine ⟨p, F, Z2, τb, A2, rb, τc, po2.st, ec1, fun y H3 Z3 A3 B3 po3 re3 => ?_⟩
                obtain ⟨Z4, A4, po4, ry⟩ := esc_ok po3.st re3 ed1
                have rx' := Rep.mono (po3.zz.trans po4.zz) _ _ rx
                have po := ((po1.trans po2 id).trans po3 id).trans po4 id
                split at e
                · cases e3 : eqPl ne [dx, dy] with
                  | none => rw [e3] at e; cases e
                  | some r0 =>
                    rw [e3] at e
                    cases e
                    exact .inr ⟨Z4, dx, dy, r0, po.st.zh, Vw.of po.st.zh rx', Vw.of po.st.zh ry, e3, fin_new po (newd (d := .bl r0) (z := .bl r0) (show Rep c Z4 (.bl r0) (.bl r0) by simp only [Rep])) k⟩
                · rename_i f ef
                  split at e
                  · rename_i r0 os ec
                    cases e
                    left
                    unfold eqDef at ef
                    split at ef
                    · rename_i ci fs cj gs el
                      cases el
                      split at ef
                      · rename_i kk hk
                        obtain ⟨a, C, dx', gs1, rfl, hC, h1, r1, ok1⟩ := id rx'
                        obtain ⟨b, C', dy', gs2, rfl, hC', h2, r2, ok2⟩ := id ry
                        refine ⟨ci, cj, kk, f, a, b, C, C', dx', dy', _, _, hk, ef, hC, hC', rfl, rfl, po.st.zh _ _ h1, po.st.zh _ _ h2, ?_⟩
                        obtain ⟨Z5, A5, Ac, zz, hd, em, pu, ow⟩ := takeA_ok (io := []) (k := 0) (rs := [.d (.ins ci fs), .d (.ins cj gs)]) (xs := [.ref a, .ref b]) (p := p) po.st ⟨_, _, rfl, rx', _, _, rfl, ry, rfl⟩ rfl
                        refine hd.use ec fun x H' Z' A' B z2 st re pur => ⟨r0, re.rr.2, ?_⟩
                        rw [giveA_nn] at st re pur
                        refine k _ H' Z' A' [] ⟨(po.zz.trans zz).trans z2, st, fun hp => ?_⟩ ⟨⟨rfl, rfl⟩, List.nodup_nil, fun _ _ _ h => (by cases h), fun _ h => by cases h⟩
                        obtain ⟨y1, y2, y3⟩ := po.pu hp
                        obtain ⟨k1, k2, k3, k4⟩ := pu hp
                        obtain ⟨w1, w2, w3⟩ := pur k3 k4
                        exact ⟨y1.trans w1, y2, w3.trans (k2.trans y3)⟩
                      · cases ef
                    · cases ef
                  · cases e
theorem s_oeq (hK : X.K = c.K) (hu : X.A.units + 65 < cLine) (eqs : EqsOk X c G cl) (ne : Bool) (ha : PE X ea (tE c G cl ca)) (hb : PE X eb (tE c G cl cb)) (hm : behindInMarks (neOp ne) eb = false) : PE X (.Compare ea [neOp ne] [eb] pos) (tE c G cl (.oeq ne (.cons ca (.cons cb .nil)))) :=
  pe_imp (pe_cmpR (op_or (op_oe hK eqs ne) (cmp_ok hK hu (neOp ne))) ha hb hm) fun σ H Q q => oeq_use q
theorem t_oeq (hK : X.K = c.K) (hu : X.A.units + 65 < cLine) (eqs : EqsOk X c G cl) (ne : Bool) (ha : PE X ea (tE c G cl ca)) (hb : PE X eb (tE c G cl cb)) (hm : behindInMarks (neOp ne) eb = false) : PT X (.Compare ea [neOp ne] [eb] pos) (tT c G cl (.e (.oeq ne (.cons ca (.cons cb .nil))))) :=
  pt_imp (pt_cmpR (op_or (op_oe hK eqs ne) (cmp_ok hK hu (neOp ne))) ha hb hm) fun σ H Q q => by
    obtain ⟨p, F, Z, τ, A, r, τ', s, e, k⟩ := q
    unfold evT at e
    split at e
    · rename_i b0 τ3 e0
      cases e
      exact oeq_use ⟨p, F, Z, τ, A, _, _, s, e0, fun x H' Z' A' B po re => ⟨r, re.rr.2, k H' Z' A' po⟩⟩
    · cases e
end
end Ev

/-! Ev, part T: == and != of two tuples that hold instances with an own __eq__: seen to be equal item by item. -/
namespace Ev
open PySem L2 PyProof.Rows
section
open PySem.SeqAt
open AutoSeq1 (wpAny_loadPart')
open MeetsSeq MeetsSeq2 MeetsSeq3 SeqRoads2
variable {prog : Program} {w : World} {A : Around} {R : Result → Shared → Prop}
theorem tuple_neG (l b : Addr) (items items2 : Array Value) (n n2 : Nat) (dd dd2 : Option Addr) (sl sl2 : Array (Option Value)) (hsz : items.size = items2.size) (I : Nat → Shared → Prop)
    (turn : ∀ i (h1 : i < items.size) (h2 : i < items2.size) s, I i s → wpAny (model prog w) A.in1 (eqBool items[i] items2[i]) (fun r s' => r = true ∧ I (i + 1) s') (fun e s' => R (.error e) s') s)
    (fin : ∀ s, I items.size s → R (.ok (.ret (.bool false))) s) {s : Shared} (hl1 : s.heap.get? l = some { cls := .type "tuple", dict := dd, data := .seq items n, slots := sl }) (hb1 : s.heap.get? b = some { cls := .type "tuple", dict := dd2, data := .seq items2 n2, slots := sl2 }) (h : I 0 s) :
    wpAny (model prog w) A.in1 (Builtin.«tuple.__ne__» ⟨[.ref l, .ref b], []⟩) (GQ.FinOf prog w A R) (fun e s' => R (.error e) s') s := by
  have f2 := AutoSeq1.sub_tuple_tuple
  have hZ : (items.toList.zip items2.toList).length = items.size := by simp [hsz]
  have h0 := h
  obtain ⟨hp, g, d, tk, os⟩ := s
  wp_walk using wpAny_loadPart' hl1, wpAny_loadPart' hb1, wpAny_forIn_list _ (fun rest b s' => b.1 = none ∧ ∃ i, rest = (items.toList.zip items2.toList).drop i ∧ i ≤ items.size ∧ I i s') _
  case turn =>
    rintro ⟨y, x⟩ rest b s' ⟨hb', i, hz, hi, hI⟩
    have hlt : i < (items.toList.zip items2.toList).length := by
      rcases Nat.lt_or_ge i (items.toList.zip items2.toList).length with h' | h'
      · exact h'
      · rw [List.drop_of_length_le h'] at hz; cases hz
    have h1 : i < items.size := hZ ▸ hlt
    have h2 : i < items2.size := hsz ▸ h1
    rw [List.drop_eq_getElem_cons hlt] at hz
    injection hz with hyx hrest
    have hy : y = items[i] := by have := congrArg Prod.fst hyx; simpa using this
    have hx : x = items2[i] := by have := congrArg Prod.snd hyx; simpa using this
    subst hy hx
    refine wpAny_bind (wpAny_mono (turn i h1 h2 s' hI) (fun r s2 q2 => ?_) fun _ _ x => x)
    obtain ⟨hr, q2⟩ := q2
    subst hr
    wp_walk
    exact ⟨rfl, i + 1, hrest, h1, q2⟩
  case fin =>
    rintro ⟨b1, b2⟩ s' ⟨hb', i, hz, hi, hI⟩
    simp only at hb'
    subst hb'
    have hge : items.size ≤ i := by
      rcases Nat.lt_or_ge i (items.toList.zip items2.toList).length with h' | h'
      · rw [List.drop_eq_getElem_cons h'] at hz; cases hz
      · exact hZ ▸ h'
    have hi' : i = items.size := by omega
    have hR : R (.ok (.ret (.bool false))) s' := fin s' (hi' ▸ hI)
    wp_walk
    simpa [Builtin.Tuple.tupleCompareSizes, hsz] using hR
  case h =>
    exact ⟨rfl, 0, rfl, Nat.zero_le _, h0⟩
end
section
variable {prog : Program} {w : World} {A : Around} {E : Value → Shared → Prop} {s : Shared}
theorem rc_tupNe {l b : Addr} {items items2 : Array Value} {Q : Value → Shared → Prop} (hsz : items.size = items2.size) (hu : A.units < cLine) (I : Nat → Shared → Prop)
    (hl : s.heap.IsTuple l items) (hb : s.heap.IsTuple b items2)
    (turn : ∀ i (h1 : i < items.size) (h2 : i < items2.size) s, I i s → wpAny (model prog w) A.in1 (eqBool items[i] items2[i]) (fun r s' => r = true ∧ I (i + 1) s') E s)
    (fin : ∀ s, I items.size s → Q (.bool false) s) (h : I 0 s) : wpAny (model prog w) A (richCompare .NotEq (.ref l) (.ref b)) Q E s := by
  obtain ⟨⟨cls, dd, data, sl⟩, ho, hc, n, hd⟩ := id hl
  obtain ⟨⟨cls2, dd2, data2, sl2⟩, ho2, hc2, n2, hd2⟩ := id hb
  simp only at hc hd hc2 hd2
  subst hc hd hc2 hd2
  refine wpAny_richCompare_same_room (op := .NotEq) ⟨_, ho, rfl⟩ ⟨_, ho2, rfl⟩ F.slot_tuple_ne (GQ.call_here F.slot_tuple_ne ⟨_, ho, rfl⟩ F.entry_tuple_ne (F.args_tuple_ne_2 _ _) ?_) hu
  exact tuple_neG (R := wants (fun v s' => v ≠ .notImplemented ∧ Q v s') E) l b items items2 n n2 dd dd2 sl sl2 hsz I turn (fun s' q => ⟨(fun x => nomatch x), fin s' q⟩) ho ho2 h
end
section
variable {X : Cx} {n : Nat} {D' : Eqv}
def RnG (X : Cx) (n : Nat) (D : Eqv) : Prop :=
  ∀ (A : Around) (pins : List (Addr × Obj)) (s : Shared) (σ : L2.St) (H : Hp) (x y : V) (u v : Value), Sub X n A → Inv X pins σ H s → RelV x u → RelV y v → D x y H →
    wpAny (model X.prog X.w) A (richCompare .NotEq u v) (fun r s' => r = .bool false ∧ ∃ H', Inv X pins σ H' s' ∧ Ext H H') X.xe s
theorem rnG_tup (hD : Mon D') (h : EqG X n D') : RnG X (n + 1) (DTup X.K D') := by
  intro A pins s σ H x y u v sb I rx ry d
  obtain ⟨a, b, xs, ys, rfl, rfl, ha, hb, p⟩ := d
  cases rx
  cases ry
  obtain ⟨its, r, e, z⟩ := I.tuple ha
  obtain ⟨its2, r2, e2, z2⟩ := I.tuple hb
  have hsz : its.toArray.size = its2.toArray.size := by rw [List.size_toArray, List.size_toArray, ← r.length, ← r2.length]; exact p.1
  exact rc_tupNe hsz sb.room.units0 (fun _ s' => LoopI X pins σ H s') e e2 (fun i h1 h2 s' q => turnG hD h sb p r r2 i h1 h2 s' q) (fun s' q => ⟨rfl, q⟩) ⟨H, I, Ext.rfl'⟩
end
section
variable {X : Cx} {c : Cn} {G : GS} {cl : Caller} {ea eb : Expr} {ca cb : CE} {pos : Pos}
theorem andB {a b : Bool} (h : (a && b) = true) : a = true ∧ b = true := by
  cases a <;> cases b <;> first | exact ⟨rfl, rfl⟩ | cases h
/-- the same plain data -/
def DPl (c : Cn) : Eqv := fun x y H => ∃ Z dx dy, Same Z H ∧ Rep c Z dx x ∧ Rep c Z dy y ∧ eqD dx dy = some true
theorem mon_pl : Mon (DPl c) := fun x y H H' e d => by
  obtain ⟨Z, dx, dy, hz, h1, h2, h3⟩ := d
  exact ⟨Z, dx, dy, hz.trans e, h1, h2, h3⟩
theorem eqG_pl (hK : X.K = c.K) : EqG X 0 (DPl c) := by
  intro A pins s σ H x y u v sb I rx ry d
  obtain ⟨Z, dx, dy, hz, hx, hy, e⟩ := d
  obtain ⟨p, q, e1, e2, s1, s2, e3⟩ := eqD_some e
  have d1 : Dp X.K H x p := by rw [hK]; exact Vw.dp hz e1 (Vw.of hz hx)
  have d2 : Dp X.K H y q := by rw [hK]; exact Vw.dp hz e2 (Vw.of hz hy)
  obtain ⟨as, r1⟩ := Dp.reads I p x u d1 rx
  obtain ⟨bs, r2⟩ := Dp.reads I q y v d2 ry
  have hu := sb.room.units
  have hd : p.depth ≤ 64 := SeqAt.depth_of_shaped s1
  have qq := SeqAt.eqAt_reads p q A s u v as bs r1 r2 (SeqAt.canLay_of_shaped s1) (SeqAt.canLay_of_shaped s2) (by
    have : min p.depth q.depth ≤ p.depth := Nat.min_le_left _ _
    omega)
  rw [← e3] at qq
  exact qq X.prog X.w X.xe _ ⟨rfl, H, I, Ext.rfl'⟩
/-- the own == of two instances says True, however the heap has grown -/
def ROw (c : Cn) (cl : Caller) (f : Nat) : Addr → Addr → Hp → Prop := fun a b H => ∀ H1, Ext H H1 → spC c cl f [.ref a, .ref b] H1 (fun z H' => z = .bl true ∧ Ext H1 H') E0
theorem spC_mono {f : Nat} {vs : List V} {H : Hp} {Q Q' : VK} {E E' : XK} (h : spC c cl f vs H Q E) (k : ∀ x H', Q x H' → Q' x H') : spC c cl f vs H Q' E' := by
  obtain ⟨F, Z, args, A, out, os, s, e, q⟩ := h
  exact ⟨F, Z, args, A, out, os, s, e, fun x H' Z' A' B z1 z2 z3 => k _ _ (q x H' Z' A' B z1 z2 z3)⟩
theorem eqG_own {ci f : Nat} {kk : Cl} (eqs : EqsOk X c G cl) (hk : G.cls.lookup ci = some kk) (he : kk.eq = some f) : ∃ C j, c.cls.lookup ci = some C ∧ Room (j + 1) X.A ∧ EqG X j (DIns C (ROw c cl f)) := by
  obtain ⟨C, fa, fd, ps, j, hC, ow, F, hr, bd⟩ := eqs ci kk f hk he
  refine ⟨C, j, hC, hr, ?_⟩
  refine eqG_ins (CX := CX0) (E := E0) (FnOk.imp (sp' := spEq (ROw c cl f)) F fun vs H Q E q => ?_) ow.eq ow.fn bd pass0
  obtain ⟨a, b, rfl, r, k⟩ := q
  exact spC_mono (r H Ext.rfl') fun x H' z => by
    obtain ⟨rfl, e⟩ := z
    exact k H' e
def DEq (c : Cn) (cl : Caller) (f : Nat) (C : Addr) : Eqv := fun x y H => DPl c x y H ∨ DIns C (ROw c cl f) x y H
theorem mon_eq {f : Nat} {C : Addr} : Mon (DEq c cl f C) := Mon.or mon_pl (mon_ins fun a b H H' e r H1 e1 => r H1 (e.trans e1))
/-- two tuples, seen to be equal item by item -/
def rTE (c : Cn) (G : GS) (cl : Caller) (ci : Nat) (ne : Bool) : R2 := fun x y H Q => ∃ kk f C, G.cls.lookup ci = some kk ∧ kk.eq = some f ∧ c.cls.lookup ci = some C ∧ DTup c.K (DEq c cl f C) x y H ∧ ∀ H', Ext H H' → Q (.bl (!ne)) H'
def rTC (c : Cn) (G : GS) (cl : Caller) (ci : Nat) (ne : Bool) : R2 := fun x y H Q => rTE c G cl ci ne x y H Q ∨ rCmp c (cmpD (neOp ne)) x y H Q
theorem op_te (hK : X.K = c.K) (eqs : EqsOk X c G cl) (ci : Nat) (ne : Bool) : OpR X (compareOp (neOp ne)) (rTE c G cl ci ne) := by
  intro pins s σ H x y v u Q I rx ry h
  obtain ⟨kk, f, C, hk, he, hC, d, q⟩ := h
  obtain ⟨C', j, hC', hr, own⟩ := eqG_own eqs hk he
  rw [hC] at hC'
  cases hC'
  have g : EqG X j (DEq c cl f C) := EqG.or ((eqG_pl hK).mono (Nat.zero_le _)) own
  rw [← hK] at d
  cases ne with
  | false =>
    show wpAny _ _ (richCompare .Eq v u) _ _ s
    refine wpAny_mono (rcG_tup mon_eq g X.A pins s σ H x y v u ⟨hr, rfl⟩ I rx ry d) (fun r s' z => ?_) fun _ _ e => e
    obtain ⟨rfl, H', I', e⟩ := z
    exact ⟨.bl true, H', I', rfl, q H' e⟩
  | true =>
    show wpAny _ _ (richCompare .NotEq v u) _ _ s
    refine wpAny_mono (rnG_tup mon_eq g X.A pins s σ H x y v u ⟨hr, rfl⟩ I rx ry d) (fun r s' z => ?_) fun _ _ e => e
    obtain ⟨rfl, H', I', e⟩ := z
    exact ⟨.bl false, H', I', rfl, q H' e⟩
/-- the frozen part, with all tuples that came -/
theorem ext_post {F Z H H' : Hp} {σ : L2.St} {τ : T} {A : Nat → List Addr} {p : Bool} (s : Sta c F Z H σ τ A) (e : Ext H H') : ∃ Z', Post c p F Z H σ τ A τ H' Z' A := by
  classical
  let Z' : Hp := fun a => if H a = none then (match H' a with
    | some (.tup vs) => some (.tup vs)
    | _ => none) else Z a
  have hz : Same Z Z' := fun a o h => by
    have : H a ≠ none := by rw [s.zh a o h]; simp
    show (if H a = none then _ else Z a) = some o
    rw [if_neg this]; exact h
  have hn : ∀ a o, H a = none → Z' a = some o → H' a = some o := fun a o h1 h2 => by
    have h3 : (match H' a with
      | some (.tup vs) => some (.tup vs)
      | _ => none) = some o := by
      have : Z' a = (match H' a with
        | some (.tup vs) => some (HO.tup vs)
        | _ => none) := if_pos h1
      rw [← this]; exact h2
    cases q : H' a with
    | none => rw [q] at h3; cases h3
    | some w =>
      rw [q] at h3
      cases w with
      | tup vs => exact h3
      | _ => cases h3
  have ho : ∀ a, H a ≠ none → Z' a = Z a := fun a h => if_neg h
  refine ⟨Z', Post.grow s e hz (fun a o h => ?_) (fun a o h => ?_) (fun i a h => ?_) fun b vs h => ?_⟩
  · by_cases q : H a = none
    · exact hn a o q h
    · rw [ho a q] at h
      exact e a o (s.zh a o h)
  · by_cases q : H a = none
    · cases z : F a with
      | none => rfl
      | some w => have := s.fh a w z; rw [q] at this; cases this
    · rw [ho a q] at h
      exact s.fz a o h
  · rw [ho a (s.fr i a h).2.2]
    exact (s.fr i a h).2.1
  · by_cases q : H b = none
    · show (if H b = none then _ else Z b) = some _
      rw [if_pos q, h]
    · rw [ho b q]
      cases z : H b with
      | none => exact absurd z q
      | some w =>
        have := e b w z
        rw [h] at this
        cases this
        exact s.tz b vs z
theorem own_true {F Z H : Hp} {σ : L2.St} {τ : T} {A : Nat → List Addr} {f : Nat} {x y : V} {dx dy : D} {os : List M} (s : Sta c F Z H σ τ A) (rx : Rep c Z dx x) (ry : Rep c Z dy y) (ec : cl f [.v dx, .v dy] = some (.v (.bl true), os)) : spC c cl f [x, y] H (fun z H' => z = .bl true ∧ Ext H H') E0 := by
  obtain ⟨Z5, A5, Ac, zz, hd, em, pu, ow⟩ := takeA_ok (io := []) (k := 0) (rs := [.d dx, .d dy]) (xs := [x, y]) (p := true) s ⟨_, _, rfl, rx, _, _, rfl, ry, rfl⟩ rfl
  refine hd.use ec fun x H' Z' A' B z2 st re pur => ?_
  obtain ⟨k1, k2, k3, k4⟩ := pu rfl
  exact ⟨re.rr.2, (pur k3 k4).1⟩
theorem own_eq {F Z H : Hp} {σ : L2.St} {τ : T} {A : Nat → List Addr} {f ci : Nat} {C : Addr} {x y : V} {dx dy : D} (s : Sta c F Z H σ τ A) (hC : c.cls.lookup ci = some C) (rx : Rep c Z dx x) (ry : Rep c Z dy y) (h : ownT cl f ci dx dy = true) : DEq c cl f C x y H := by
  unfold ownT at h
  split at h
  · rename_i i fs j gs
    obtain ⟨h1, h3⟩ := andB h
    obtain ⟨h1, h2⟩ := andB h1
    cases of_decide_eq_true h1
    cases of_decide_eq_true h2
    split at h3
    · rename_i b os ec
      cases h3
      right
      obtain ⟨a, C1, dx', gs1, rfl, hC1, e1, r1, ok1⟩ := id rx
      obtain ⟨b, C2, dy', gs2, rfl, hC2, e2, r2, ok2⟩ := id ry
      rw [hC] at hC1 hC2
      cases hC1
      cases hC2
      refine ⟨a, b, dx', dy', _, _, rfl, rfl, s.zh _ _ e1, s.zh _ _ e2, fun H1 e => ?_⟩
      obtain ⟨Z', po⟩ := ext_post (p := true) s e
      exact own_true po.st (Rep.mono po.zz _ _ rx) (Rep.mono po.zz _ _ ry) ec
    · cases h3
  · exact .inl ⟨Z, dx, dy, s.zh, rx, ry, of_decide_eq_true h⟩
theorem pairs_eq {F Z H : Hp} {σ : L2.St} {τ : T} {A : Nat → List Addr} {f ci : Nat} {C : Addr} (s : Sta c F Z H σ τ A) (hC : c.cls.lookup ci = some C) : ∀ {xs ys : List D} {vs ws : List V}, RepL c Z xs vs → RepL c Z ys ws → pairsT cl f ci xs ys = true → Prs (DEq c cl f C) vs ws H
  | [], [], vs, ws, h1, h2, _ => by
    cases (show vs = [] from h1)
    cases (show ws = [] from h2)
    exact Prs.nil
  | [], _ :: _, _, _, _, _, h => by cases h
  | _ :: _, [], _, _, _, _, h => by cases h
  | x :: xs, y :: ys, vs, ws, h1, h2, h => by
    obtain ⟨v, vs', rfl, q1, q2⟩ := h1
    obtain ⟨w, ws', rfl, q3, q4⟩ := h2
    obtain ⟨g1, g2⟩ := andB h
    exact Prs.cons (own_eq s hC q1 q3 g1) (pairs_eq s hC q2 q4 g2)
theorem teq_use (eqs : EqsOk X c G cl) {ne : Bool} {ci : Nat} {σ : L2.St} {H : Hp} {Q : VK} (q : tE c G cl (.teq ne ci (.cons ca (.cons cb .nil))) σ H Q) : tOp (rTC c G cl ci ne) (tE c G cl ca) (tE c G cl cb) σ H Q := by
    obtain ⟨p, F, Z, τ, A, r, τ', s, e, k⟩ := q
    unfold evE at e
    split at e
    · cases e
    · rename_i ds τ1 e1
      unfold evX at e1
      split at e1
      · cases e1
      · rename_i ra τa ea1
        split at e1
        · cases e1
        · rename_i dx τb eb1
          cases e2 : evX G cl p (.cons cb .nil) τb with
          | none => rw [e2] at e1; cases e1
          | some t =>
            rw [e2] at e1
            cases e1
            unfold evX at e2
            split at e2
            · cases e2
            · rename_i rb τc ec1
              split at e2
              · cases e2
              · rename_i dy τd ed1
                unfold evX at e2
                cases e2
                refine ⟨p, F, Z, τ, A, ra, τa, s, ea1, fun x H1 Z1 A1 B1 po1 re1 => ?_⟩
                obtain ⟨Z2, A2, po2, rx⟩ := esc_ok po1.st re1 eb1
                refine ⟨p, F, Z2, τb, A2, rb, τc, po2.st, ec1, fun y H3 Z3 A3 B3 po3 re3 => ?_⟩
                obtain ⟨Z4, A4, po4, ry⟩ := esc_ok po3.st re3 ed1
                have rx' := Rep.mono (po3.zz.trans po4.zz) _ _ rx
                have po := ((po1.trans po2 id).trans po3 id).trans po4 id
                split at e
                · rename_i ht
                  cases e
                  unfold teqD at ht
                  split at ht
                  · rename_i xs ys el
                    cases el
                    split at ht
                    · rename_i f ef
                      unfold eqOf at ef
                      split at ef
                      · rename_i kk hk
                        obtain ⟨C, fa, fd, ps, j, hC, -⟩ := eqs ci kk f hk ef
                        obtain ⟨a, vs, rfl, s1, r1⟩ := id rx'
                        obtain ⟨b, ws, rfl, s2, r2⟩ := id ry
                        refine .inl ⟨kk, f, C, hk, ef, hC, ⟨a, b, vs, ws, rfl, rfl, (sqT_mono po.st.zh s1).sq, (sqT_mono po.st.zh s2).sq, pairs_eq po.st hC r1 r2 ht⟩, fun H' ex => ?_⟩
                        obtain ⟨Z5, po5⟩ := ext_post (p := p) po.st ex
                        exact k _ H' Z5 _ [] (po.trans po5 id) ⟨⟨rfl, rfl⟩, List.nodup_nil, fun _ _ _ h => (by cases h), fun _ h => by cases h⟩
                      · cases ef
                    · cases ht
                  · cases ht
                · cases e3 : eqPl ne [dx, dy] with
                  | none => rw [e3] at e; cases e
                  | some r0 =>
                    rw [e3] at e
                    cases e
                    exact .inr ⟨Z4, dx, dy, r0, po.st.zh, Vw.of po.st.zh rx', Vw.of po.st.zh ry, e3, fin_new po (newd (d := .bl r0) (z := .bl r0) (show Rep c Z4 (.bl r0) (.bl r0) by simp only [Rep])) k⟩
theorem s_teq (hK : X.K = c.K) (hu : X.A.units + 65 < cLine) (eqs : EqsOk X c G cl) (ci : Nat) (ne : Bool) (ha : PE X ea (tE c G cl ca)) (hb : PE X eb (tE c G cl cb)) (hm : behindInMarks (neOp ne) eb = false) : PE X (.Compare ea [neOp ne] [eb] pos) (tE c G cl (.teq ne ci (.cons ca (.cons cb .nil)))) :=
  pe_imp (pe_cmpR (op_or (op_te hK eqs ci ne) (cmp_ok hK hu (neOp ne))) ha hb hm) fun σ H Q q => teq_use eqs q
theorem t_teq (hK : X.K = c.K) (hu : X.A.units + 65 < cLine) (eqs : EqsOk X c G cl) (ci : Nat) (ne : Bool) (ha : PE X ea (tE c G cl ca)) (hb : PE X eb (tE c G cl cb)) (hm : behindInMarks (neOp ne) eb = false) : PT X (.Compare ea [neOp ne] [eb] pos) (tT c G cl (.e (.teq ne ci (.cons ca (.cons cb .nil))))) :=
  pt_imp (pt_cmpR (op_or (op_te hK eqs ci ne) (cmp_ok hK hu (neOp ne))) ha hb hm) fun σ H Q q => by
    obtain ⟨p, F, Z, τ, A, r, τ', s, e, k⟩ := q
    unfold evT at e
    split at e
    · rename_i b0 τ3 e0
      cases e
      exact teq_use eqs ⟨p, F, Z, τ, A, _, _, s, e0, fun x H' Z' A' B po re => ⟨r, re.rr.2, k H' Z' A' po⟩⟩
    · cases e
end
end Ev

/-! Ev, part Sg: dict displays of one pair. -/
namespace Ev
open PySem L2 PySem.W PyProof.Rows
section
variable {X : Cx}
/-- {k: v} with a tuple for a key -/
def tOneT (tk tv : TE) : TE := fun σ H Q => ∀ p, H p = none → tPairs [(tk, tv)] σ (upd H p (.dT [])) fun ps H2 => ∃ x y b k, ps = [(x, y)] ∧ x = .ref b ∧ H2 p = some (.dT []) ∧ H2 b = some (.tup (k.map kV)) ∧ Q (.ref p) (upd H2 p (.dT [(k, y)]))
theorem pe_oneT (hu : X.A.units + 1 < cLine) {ek ev : Expr} {tk tv : TE} {pos : Pos} (hk : PE X ek tk) (hv : PE X ev tv) : PE X (.Dict [some ek] [ev] pos) (tOneT tk tv) := by
  refine ⟨fun pins s σ H Q I q => ?_⟩
  have hn := I.hok.fresh (Nat.le_refl s.heap.objs.size)
  have I1 := I.laid (a := s.heap.objs.size) (o := .dT []) (h' := s.heap.push { cls := .type "dict", data := .dict #[] }) (t' := s.toks) (fun _ _ q => Heap.get?_push_of_some _ q) (Nat.le_refl _) (dt_empty s.heap I.big)
  have hp := (pps_cons hk hv (pps_nil (pos := pos))).run pins _ σ _ _ I1 (q _ hn)
  rw [arm_eval_Dict, zip_pairTrees [some ek] [ev] X.env pos rfl rfl, dictDisplay_pairs _ (by simp [pairTrees]) (by simp [pairTrees])]
  refine wpAny_bind (wpAny_standAt (wpAny_bind ?_))
  unfold subDict
  refine wpAny_bind (wpAny_alloc ?_)
  refine wpAny_bind (wpAny_holding ?_)
  rw [if_pos (by simp [pairTrees])]
  refine wpAny_bind (wpAny_mono hp (fun vs s1 h1 => ?_) fun _ _ e => e)
  obtain ⟨ps, H2, I2, rel, x, y, b, k, rfl, rfl, e1, e2, q2⟩ := h1
  cases rel with
  | cons h t =>
    cases t
    rename_i pr
    obtain ⟨kv, vv⟩ := pr
    obtain ⟨h3, h4⟩ := h
    cases (show kv = Value.ref b from h3)
    refine wpAny_holding ?_
    refine wpAny_bind ?_
    rw [List.forIn_cons]
    obtain ⟨z, hd, xs, rel, dd⟩ := dt_of I2.hok e1
    cases rel
    refine wpAny_bind (wpAny_bind (wpAny_dictSet_heap (hsz := Nat.zero_le _) (show X.A.units < cLine by omega) (key_of I2.hok e2) dd fun h' dd' hs => wpAny_pure ?_))
    refine wpAny_pure (wpAny_pure (wpAny_pure (wpAny_pure ⟨.ref s.heap.objs.size, _, ?_, rfl, q2⟩)))
    obtain ⟨q, es, ep, hq, g2, g3, g4, _, g5⟩ := dd'
    refine d_write I2 (by rw [e1]; exact True.intro) hs ⟨q, hq⟩ ⟨by simp [sizeLine_eq], hd, _, (KT.put (kvs := []) (xs := []) .nil k e2 h4).keeps fun c ys ec => ?_, q, es, ep, hq, g2, g3, g4, g5⟩
    rw [upd_ne (ne_of ec e1 (fun z => nomatch z))]
    exact ec
end
section
variable {c : Cn} {G : GS} {cl : Caller} {F Z H : Hp} {σ : L2.St} {τ τ1 : T} {A : Nat → List Addr} {p : Bool}
/-- a new dict, laid before its key and value are made -/
theorem disp_at (s : Sta c F Z H σ τ A) {d : Addr} (hd : H d = none) {o : HO} (ho : ∀ vs, o ≠ .tup vs) : Sta c (L2.upd F d o) Z (L2.upd H d o) σ τ A := by
  have fd : F d = none := s.fh.free hd
  have zd : Z d = none := s.zh.free hd
  have g := s.grow (Same.upd (o := o) hd) (s.tz.upd ho)
  refine ⟨fun a u e => ?_, g.zh, fun a u e => ?_, g.len, g.own, g.nd, g.dj, fun i a ha => ?_, g.tz⟩
  · by_cases z : a = d
    · subst z; rw [upd_same] at e ⊢; exact e
    · rw [upd_ne z] at e ⊢; exact s.fh _ _ e
  · have : a ≠ d := fun z => by subst z; rw [zd] at e; cases e
    rw [upd_ne this]; exact s.fz _ _ e
  · obtain ⟨h1, h2, h3⟩ := g.fr i a ha
    have : a ≠ d := fun z => by subst z; exact (s.fr i a ha).2.2 hd
    exact ⟨by rw [upd_ne this]; exact h1, h2, h3⟩
theorem disp_res (s : Sta c F Z H σ τ A) {d : Addr} (hd : H d = none) {o o' : HO} (ho : ∀ vs, o ≠ .tup vs) (ho' : ∀ vs, o' ≠ .tup vs) {H3 Z4 : Hp} {A4 : Nat → List Addr} {m : M} (po : Post c p (L2.upd F d o) Z (L2.upd H d o) σ τ A τ1 H3 Z4 A4)
    (om : OR c Z4 (L2.upd H3 d o') m (.ref d) [d]) : Post c p F Z H σ τ A τ1 (L2.upd H3 d o') Z4 A4 ∧ Res c F Z4 (L2.upd H3 d o') σ τ1 A4 (.m m) (.ref d) [d] := by
  have fd : F d = none := s.fh.free hd
  have z4 : Z4 d = none := by
    cases e : Z4 d with
    | none => rfl
    | some u => have := po.st.fz _ _ e; rw [upd_same] at this; cases this
  have n4 : ∀ i, d ∉ A4 i := fun i h => by have := (po.st.fr i d h).1; rw [upd_same] at this; cases this
  have fne : ∀ a u, F a = some u → a ≠ d := fun a u e z => by subst z; rw [fd] at e; cases e
  refine ⟨⟨po.zz, ⟨fun a u e => ?_, fun a u e => ?_, fun a u e => ?_, po.st.len, fun i m' e => ?_, po.st.nd, po.st.dj, fun i a ha => ?_, po.st.tz.upd ho'⟩, fun hp => ?_⟩, om, by simp, fun i a ha h => ?_, fun a ha => ?_⟩
  · have ne := fne a u e
    rw [upd_ne ne]; exact po.st.fh _ _ (by rw [upd_ne ne]; exact e)
  · have ne : a ≠ d := fun z => by subst z; rw [z4] at e; cases e
    rw [upd_ne ne]; exact po.st.zh _ _ e
  · have := po.st.fz _ _ e
    have ne : a ≠ d := fun z => by subst z; rw [z4] at e; cases e
    rwa [upd_ne ne] at this
  · obtain ⟨v, q1, q2⟩ := po.st.own i m' e
    exact ⟨v, q1, OR.keep (Same.refl _) m' v (A4 i) (fun b hb => upd_ne fun z => n4 i (z ▸ hb)) q2⟩
  · obtain ⟨h1, h2, h3⟩ := po.st.fr i a ha
    have ne : a ≠ d := fun z => n4 i (z ▸ ha)
    rw [upd_ne ne] at h1
    exact ⟨h1, h2, by rw [upd_ne ne]; exact h3⟩
  · obtain ⟨h1, h2, h3⟩ := po.pu hp
    refine ⟨fun a u e => ?_, h2, h3⟩
    have ne : a ≠ d := fun z => by subst z; rw [hd] at e; cases e
    rw [upd_ne ne]; exact h1 _ _ (by rw [upd_ne ne]; exact e)
  · rw [List.mem_singleton.mp h] at ha; exact n4 i ha
  · rw [List.mem_singleton.mp ha]
    exact ⟨fd, z4, by rw [upd_same]; intro z; cases z⟩
section
variable {X : Cx} {ek ev : Expr} {a b : CE} {pos : Pos}
theorem s_dct1 (hu : X.A.units + 65 < cLine) (t : Bool) (hk : PE X ek (tE c G cl a)) (hv : PE X ev (tE c G cl b)) : PE X (.Dict [some ek] [ev] pos) (tE c G cl (.dct1 t a b)) := by
  have use : ∀ (o0 : HO) (ho : ∀ vs, o0 ≠ .tup vs) {σ : L2.St} {H : Hp} {Q : VK} {p : Bool} {F Z : Hp} {τ : T} {A : Nat → List Addr} {rk rv : R} {x y : D} {τ1 τ2 τ3 τ4 : T} {m : M} (s : Sta c F Z H σ τ A) (e1 : evE G cl p a τ = some (rk, τ1)) (e2 : esc p τ1 rk = some (x, τ2)) (e3 : evE G cl p b τ2 = some (rv, τ3)) (e4 : esc p τ3 rv = some (y, τ4))
      (k : ∀ x H' Z' A' B, Post c p F Z H σ τ A τ4 H' Z' A' → Res c F Z' H' σ τ4 A' (.m m) x B → Q x H') (d : Addr) (hd : H d = none) (K : V → V → Hp → Prop)
      (fin : ∀ (vx vy : V) (H3 Z4 : Hp), Same Z4 H3 → H3 d = some o0 → Rep c Z4 x vx → Rep c Z4 y vy → (∀ o', (∀ vs, o' ≠ .tup vs) → OR c Z4 (L2.upd H3 d o') m (.ref d) [d] → Q (.ref d) (L2.upd H3 d o')) → K vx vy H3),
      tE c G cl a σ (L2.upd H d o0) fun vx H1 => tE c G cl b σ H1 fun vy H2 => K vx vy H2 := by
    intro o0 ho σ H Q p F Z τ A rk rv x y τ1 τ2 τ3 τ4 m s e1 e2 e3 e4 k d hd K fin
    refine ⟨p, _, Z, τ, A, rk, τ1, disp_at s hd ho, e1, fun vx H1 Z1 A1 B1 po1 re1 => ?_⟩
    obtain ⟨Z2, A2, po2, rx⟩ := esc_ok po1.st re1 e2 (p := p)
    refine ⟨p, _, Z2, τ2, A2, rv, τ3, po2.st, e3, fun vy H3 Z3 A3 B3 po3 re3 => ?_⟩
    obtain ⟨Z4, A4, po4, ry⟩ := esc_ok po3.st re3 e4 (p := p)
    have po := ((po1.trans po2 id).trans po3 id).trans po4 id
    refine fin vx vy H3 Z4 po4.st.zh (po4.st.fh _ _ (by rw [upd_same])) (Rep.mono (po3.zz.trans po4.zz) _ _ rx) ry fun o' ho' om => ?_
    obtain ⟨q1, q2⟩ := disp_res s hd ho ho' po om
    exact k _ _ _ _ _ q1 q2
  cases t with
  | true =>
    refine pe_imp (pe_oneT (by omega) hk hv) fun σ H Q q => ?_
    obtain ⟨p, F, Z, τ, A, r, τ', s, e, k⟩ := q
    unfold evE at e
    split at e
    · cases e
    · rename_i rk τ1 e1
      split at e
      · cases e
      · rename_i x τ2 e2
        split at e
        · cases e
        · rename_i rv τ3 e3
          split at e
          · cases e
          · rename_i y τ4 e4
            unfold dctR at e
            rw [if_pos rfl] at e
            cases ek : keyT x with
            | none => rw [ek] at e; cases e
            | some kq =>
              rw [ek] at e
              cases e
              intro d hd
              refine use (.dT []) (fun _ z => by cases z) s e1 e2 e3 e4 k d hd _ fun vx vy H3 Z4 zh hdd rx ry kk => ?_
              obtain ⟨bb, rfl, hb⟩ := keyT_rep zh ek (Vw.of zh rx)
              exact ⟨_, vy, bb, kq, rfl, rfl, hdd, hb, kk _ (fun _ z => by cases z) ⟨d, [(kq, vy)], [vy], rfl, rfl, upd_same, rfl, rfl, RepL.one ry⟩⟩
  | false =>
    refine pe_imp (pe_disp (pps_cons hk hv pps_nil) rfl rfl (by simp) (by simp)) fun σ H Q q => ?_
    obtain ⟨p, F, Z, τ, A, r, τ', s, e, k⟩ := q
    unfold evE at e
    split at e
    · cases e
    · rename_i rk τ1 e1
      split at e
      · cases e
      · rename_i x τ2 e2
        split at e
        · cases e
        · rename_i rv τ3 e3
          split at e
          · cases e
          · rename_i y τ4 e4
            unfold dctR at e
            rw [if_neg (by decide)] at e
            cases ek : keyD x with
            | none => rw [ek] at e; cases e
            | some kq =>
              rw [ek] at e
              cases e
              intro d hd
              refine use (.dK []) (fun _ z => by cases z) s e1 e2 e3 e4 k d hd _ fun vx vy H3 Z4 zh hdd rx ry kk => ?_
              have ekk : vx = kV kq := keyD_rep ek (Vw.of zh rx)
              exact ⟨hdd, [(kq, vy)], by rw [ekk]; rfl, by simp, kk _ (fun _ z => by cases z) ⟨d, [(kq, vy)], [vy], rfl, rfl, upd_same, rfl, rfl, RepL.one ry⟩⟩
end
end
end Ev

/-! Ev, part L: a text is held against its evaluation's code: expressions. -/
namespace Ev
open PySem L2 PyProof.Rows
/-! ### side conditions that hang on the form alone -/
def noStar : Expr → Bool
  | .Starred _ _ => false
  | _ => true
theorem star_cons {e : Expr} {es : List Expr} {env : Env} (h : noStar e = true) : starEach (e :: es) env = (false, eval e env) :: starEach es env := by
  cases e <;> first | rfl | (cases h)
theorem star_all {env : Env} : ∀ {es : List Expr}, es.all noStar = true → ∀ p ∈ starEach es env, p.1 = false
  | [], _, p, hp => by simp [starEach] at hp
  | e :: es, h, p, hp => by
    rw [List.all_cons, Bool.and_eq_true] at h
    rw [star_cons h.1] at hp
    rcases List.mem_cons.mp hp with z | z
    · rw [z]
    · exact star_all h.2 p z
theorem back_any {pos : Pos} {env : Env} {es : List Expr} (h : es.all noStar = true) : (backTo pos (starEach es env)).any (·.1) = false := by
  rw [List.any_eq_false]
  intro p hp
  unfold backTo at hp
  obtain ⟨q, hq, e⟩ := List.mem_map.mp hp
  have := star_all h q hq
  subst e
  obtain ⟨s, t⟩ := q
  simpa using this
theorem back_few {pos : Pos} {env : Env} {es : List Expr} (h : es.all noStar = true) (hl : es.length < 30) : ((backTo pos (starEach es env)).all (fun x => !x.1) && (backToKw pos (keywordEach [] env)).all (fun x => x.1.isSome)
      && decide (es.length + ([] : List Keyword).length + (if ([] : List Keyword).isEmpty then 0 else 1) < 30)) = true := by
  have h1 : (backTo pos (starEach es env)).all (fun x => !x.1) = true := by
    rw [List.all_eq_true]
    intro p hp
    unfold backTo at hp
    obtain ⟨q, hq, e⟩ := List.mem_map.mp hp
    have := star_all h q hq
    subst e
    obtain ⟨s, t⟩ := q
    simpa using this
  rw [h1]
  simp [keywordEach, backToKw, hl]
def plainBase : Expr → Bool
  | .Call (.Name x _) [] [] _ => x != "super"
  | _ => true
theorem base_ok {o : Expr} {attr : Str} {env : Env} {whole : Sem Value} (h : plainBase o = true) : attributeBase o attr env whole = whole := by
  cases o with
  | Call f args kws pos =>
    cases f with
    | Name x p =>
      cases args with
      | nil =>
        cases kws with
        | nil =>
          have h' : (x != ("super" : Str)) = true := h
          unfold attributeBase
          simp only [h', Bool.true_or, if_true]
        | cons _ _ => rfl
      | cons _ _ => rfl
    | _ => rfl
  | _ => rfl
def plainIx : Expr → Bool
  | .Slice _ _ _ _ => false
  | _ => true
theorem ix_ok {b : Expr} (h : plainIx b = true) : PlainIx b := by
  intro o i
  cases b <;> first | rfl | (cases h)
theorem meth_form {o : Expr} {m : Str} {apos pos : Pos} {es : List Expr} {env : Env} (hb : plainBase o = true) (hs : es.all noStar = true) (hl : es.length < 30) (hline : (apos.endLine == pos.line) = true) :
    eval (.Call (.Attribute o m apos) es [] pos) env = (do
      let ov ← eval o env
      standAt apos.atName
      let (f, first) ← holding [ov] (getMethod ov m (do return (← importBound o env).getD true))
      callWith pos f first (backTo pos (starEach es env)) (backToKw pos (keywordEach [] env))) := by
  have hform : methodCallForm (es.length + ([] : List Keyword).length) (backTo pos (starEach es env)) (backToKw pos (keywordEach [] env)) = true := back_few hs hl
  have hpos : methodCallPos true o env apos pos = pure pos := by unfold methodCallPos; simp [hline]
  rw [arm_eval_Call, base_ok hb]
  unfold methodCall
  rw [hform, hpos]
  rfl
def noMark : Expr → Bool
  | .Set _ _ _ => false
  | _ => true
theorem mark_ok {op : CmpOp} {b : Expr} (h : noMark b = true) : behindInMarks op b = false := by
  cases b <;> first | rfl | (cases h)
theorem folded_ok {it : Expr} {env : Env} (h : noMark it = true) : ∀ x, foldedSetIterable it env x = pure x := by
  intro x
  cases it <;> first | rfl | (cases h)
/-- expressions whose truth is that of their value -/
def plainTest : Expr → Bool
  | .Name _ _ => true
  | .Call _ _ _ _ => true
  | .Attribute _ _ _ => true
  | .Subscript _ _ _ => true
  | _ => false
theorem test_ok {e : Expr} {env : Env} (h : plainTest e = true) : ∀ whole, isTrue e env whole = (do let v ← whole; standAt e.pos; holding [v] (truthy v)) := by
  intro w
  cases e <;> first | rfl | (cases h)
def okName (x : Str) : Bool := !(x == ("__debug__" : Str)) && !(x == ("__classdict__" : Str)) && !(x == ("__name__" : Str))
theorem ok_debug {x : Str} (h : okName x = true) : (x == ("__debug__" : Str)) = false := by
  unfold okName at h
  simp only [Bool.and_eq_true, Bool.not_eq_true'] at h
  exact h.1.1
theorem ok_cd {x : Str} (h : okName x = true) : (x == ("__classdict__" : Str)) = false := by
  unfold okName at h
  simp only [Bool.and_eq_true, Bool.not_eq_true'] at h
  exact h.1.2
theorem ok_name {x : Str} (h : okName x = true) : x ≠ "__name__" := by
  unfold okName at h
  simp only [Bool.and_eq_true, Bool.not_eq_true'] at h
  intro e
  rw [e] at h
  simp at h

/-! ### what is known of a place in the text -/
/-- the slots' names, the kinds of the names that stand there, whether it is a def's own block -/
structure Bk where
  N : List Str
  nm : List (Str × NameKind)
  top : Bool
  raw : List (Str × NameKind)
  full : Bool
/-- by numbers: defs by their global names, classes by theirs, attributes -/
structure Tb where
  fn : List (Nat × Str)
  cls : List (Nat × Str)
  attrs : List Str
  cons : List (Str × Nat)
  G : GS
def relN (outer names : List (Str × NameKind)) : List (Str × NameKind) := names.map fun x => if (x.2 == NameKind.free && outer.lookup x.1 == some NameKind.cell) = true then (x.1, NameKind.cell) else x
/-- the names of built-ins that the language knows -/
def Blt.name : Blt → Str
  | .len => "len" | .isi => "isinstance" | .int => "int" | .min2 => "min" | .max2 => "max" | .abs => "abs"
  | .tuple => "tuple" | .list => "list" | .sorted => "sorted" | .all => "all" | .any => "any" | .sum => "sum" | .max1 => "max" | .min1 => "min" | .repr => "repr"
def Bm.attr : Bm → Str
  | .append => "append" | .pop0 => "pop" | .popAt => "pop" | .extend => "extend"
def Ty.name : Ty → Str
  | .none => "NoneType" | .bool => "bool" | .int => "int" | .str => "str" | .list => "list" | .tuple => "tuple" | .dict => "dict"
def bltNames : List Str := ["len", "isinstance", "int", "min", "max", "abs", "tuple", "list", "sorted", "all", "any", "sum", "bool", "str", "dict", "range", "enumerate", "zip", "set", "repr"]
structure OkX (c : Cn) (tb : Tb) (cl : Caller) (k : Bk) (X : Cx) : Prop where
  K : X.K = c.K
  full : k.full = true → X.A.guards = some []
  calm : X.calm = true
  hu : X.A.units + 65 < cLine
  N : X.N = k.N
  nd : k.N.Nodup
  nm : X.env.scope.names = k.nm
  kind : X.env.scope.kind = .function
  top : k.top = true → ∀ x, X.fn x = true
  raw : ∀ x, k.raw.lookup x = some .cell → X.fn x = true
  call : k.full = true → ∀ (f : Nat) (x : Str), tb.fn.lookup f = some x → ∃ fa fd ps kk, FnR true X.prog X.w X.K X.mg X.base CX0 kk fa fd ps (spC c cl f) ∧ Room kk X.A ∧ X.mg x = some (.ref fa) ∧ PySem.W.keepIn X.K (.ref fa) = true ∧ Binds X.K fd ps []
  make : ∀ (ci : Nat) (x : Str) (kk : Cl), tb.cls.lookup ci = some x → tb.G.cls.lookup ci = some kk → ∃ C fI fd ps j, c.cls.lookup ci = some C ∧ Mk X.K C fI ∧ (k.full = true → FnR true X.prog X.w X.K X.mg X.base CX0 j fI fd ps (spC c cl kk.init)) ∧ Room (j + 1) X.A ∧ X.mg x = some (.ref C) ∧ Binds X.K fd ps []
  meth : k.full = true → ∀ (ci : Nat) (kk : Cl) (m : Nat) (x : Str) (f : Nat), tb.G.cls.lookup ci = some kk → kk.ms.lookup m = some f → tb.attrs[m]? = some x → ∃ C fa fd ps j, c.cls.lookup ci = some C ∧ Cls X.K C ∧ Meth X.K C x fa ∧ FnR true X.prog X.w X.K X.mg X.base CX0 j fa fd ps (spC c cl f) ∧ Room j X.A ∧ Binds X.K fd ps []
  blt : ∀ x ∈ bltNames, X.mg x = none
  eqs : EqsOk X c tb.G cl
  glob : ∀ p ∈ tb.cons, ∃ d u v, tb.G.consts[p.2]? = some d ∧ X.mg p.1 = some u ∧ RelV v u ∧ ∀ Z, Rep c Z d v
  attrs : c.attrs = tb.attrs
  fld : ∀ (f : Nat) (x : Str), tb.attrs[f]? = some x → ∀ (ci : Nat) (C : Addr), c.cls.lookup ci = some C → Cls X.K C ∧ (c.fok ci f = true → NoAttr X.K C x)
  fok : ∀ (f ci : Nat) (kk : Cl), tb.G.cls.lookup ci = some kk → kk.fl.contains f = true → c.fok ci f = true
def isGl (k : Bk) (x : Str) : Bool := k.nm.lookup x == some NameKind.globalImplicit
/-- a global name, where calls may stand -/
def isGf (k : Bk) (x : Str) : Bool := k.full && isGl k x
def isVis (k : Bk) (x : Str) : Bool := match k.nm.lookup x with
  | some .local => true
  | some .cell => true
  | some .free => true
  | _ => false
def isLoc (k : Bk) (x : Str) : Bool := match k.nm.lookup x with
  | some .local => true
  | some .cell => k.top || k.raw.lookup x == some NameKind.cell
  | _ => false
section
variable {c : Cn} {tb : Tb} {cl : Caller} {k : Bk} {X : Cx}
theorem OkX.gf (o : OkX c tb cl k X) {x : Str} (h : isGf k x = true) : k.full = true ∧ isGl k x = true := by
  unfold isGf at h
  rwa [Bool.and_eq_true] at h
theorem OkX.gl (o : OkX c tb cl k X) {x : Str} (h : isGl k x = true) : Gl X x := by
  show X.env.scope.names.lookup x = _
  rw [o.nm]
  exact beq_iff_eq.mp h
theorem OkX.vis (o : OkX c tb cl k X) {x : Str} (h : isVis k x = true) : L2.Vis X.env.scope x := by
  unfold isVis at h
  unfold L2.Vis
  rw [o.nm]
  split at h <;> simp_all
theorem OkX.loc (o : OkX c tb cl k X) {x : Str} (h : isLoc k x = true) : L2.Loc X.env.scope x ∧ (X.fn x = true ∨ X.env.scope.names.lookup x = some .local) := by
  unfold isLoc at h
  unfold L2.Loc
  rw [o.nm]
  split at h
  · rename_i e; exact ⟨.inl e, .inr e⟩
  · rename_i e
    rcases Bool.or_eq_true_iff.mp h with h | h
    · exact ⟨.inr e, .inl (o.top h x)⟩
    · exact ⟨.inr e, .inl (o.raw x (beq_iff_eq.mp h))⟩
  · cases h
end
/-! ### the look -/
mutual
def tgE (k : Bk) : Tg → Expr → Bool
  | .one i, e => match e with
    | .Name x _ => decide (k.N[i]? = some x) && isLoc k x
    | _ => false
  | .tup ts, e => match e with
    | .Tuple es _ _ => tgL k ts es
    | _ => false
def tgL (k : Bk) : Tgs → List Expr → Bool
  | .nil, es => es.isEmpty
  | .cons t r, es => match es with
    | e :: es' => noStar e && tgE k t e && tgL k r es'
    | [] => false
end
def isYes : CT → Bool
  | .yes => true
  | _ => false
def tagRng : CI → Bool
  | .rng1 _ => true
  | .rng2 _ _ => true
  | _ => false
/-- the block of a comprehension -/
def blk1 (k : Bk) (scope : Scope) : Bk := ⟨k.N, relN k.nm scope.names, false, scope.names, k.full⟩
/-- the slots of names -/
def slotOf (N : List Str) (x : Str) : Nat := N.findIdx (· == x)
def ownOf (k : Bk) (own : List Nat) : List (Str × Nat) := own.map fun i => ((k.N[i]?).getD "", i)
mutual
def chE (tb : Tb) (k : Bk) : CE → Expr → Bool
  | .k d, e => match e with
    | .Constant v _ _ => (match v, d with
      | .int i, .int j => decide (i = j)
      | .bool a, .bl b => a == b
      | .str x, .str y => decide (x = y)
      | .none, .non => true
      | _, _ => false)
    | .Name x _ => (match d with
      | .cl ci => decide (tb.cls.lookup ci = some x) && (tb.G.cls.lookup ci).isSome && isGl k x && okName x
      | .ty t => decide (x = t.name) && isGl k x && bltNames.contains x && okName x
      | _ => false)
    | _ => false
  | .s i, e => match e with
    | .Name x _ => decide (k.N[i]? = some x) && isVis k x && okName x
    | _ => false
  | .g i, e => match e with
    | .Name x _ => isGl k x && okName x && (tb.cons.any fun q => decide (x = q.1) && q.2 == i)
    | _ => false
  | .bin op a b, e => match e with
    | .BinOp ea op' eb _ => decide (op = op') && chE tb k a ea && chE tb k b eb
    | _ => false
  | .un op a, e => match e with
    | .UnaryOp op' ea _ => decide (op = op') && chE tb k a ea
    | _ => false
  | .cmp op a b, e => match e with
    | .Compare ea ops es _ => (match ops, es with
      | [op'], [eb] => decide (op = op') && noMark eb && chE tb k a ea && chE tb k b eb
      | _, _ => false)
    | _ => false
  | .chain o1 o2 a b d, e => match e with
    | .Compare ea ops es _ => (match ops, es with
      | [p1, p2], [eb, ec] => decide (o1 = p1) && decide (o2 = p2) && noMark ec && chE tb k a ea && chE tb k b eb && chE tb k d ec
      | _, _ => false)
    | _ => false
  | .and a b, e => match e with
    | .BoolOp op vs pos => (match op, vs with
      | .And, [x, y] => chE tb k a x && chE tb k b y
      | .And, x :: y :: z :: r => chE tb k a x && chE tb k b (.BoolOp .And (y :: z :: r) pos)
      | _, _ => false)
    | _ => false
  | .or a b, e => match e with
    | .BoolOp op vs pos => (match op, vs with
      | .Or, [x, y] => chE tb k a x && chE tb k b y
      | .Or, x :: y :: z :: r => chE tb k a x && chE tb k b (.BoolOp .Or (y :: z :: r) pos)
      | _, _ => false)
    | _ => false
  | .not a, e => match e with
    | .UnaryOp op ea _ => decide (op = .Not) && chE tb k a ea
    | _ => false
  | .ife t a b, e => match e with
    | .IfExp x ea eb _ => chT tb k t x && chE tb k a ea && chE tb k b eb
    | _ => false
  | .tup es, e => match e with
    | .Tuple xs _ _ => chX tb k es xs
    | _ => false
  | .lst es, e => match e with
    | .List xs _ => chX tb k es xs
    | _ => false
  | .call f es, e => match e with
    | .Call (.Name x _) xs [] _ => decide (tb.fn.lookup f = some x) && isGf k x && okName x && chL tb k es xs
    | _ => false
  | .pcall f es, e => match e with
    | .Call (.Name x _) xs [] _ => decide (tb.fn.lookup f = some x) && isGf k x && okName x && chL tb k es xs
    | _ => false
  | .frz a, e => chE tb k a e
  | .callM f a es, e => match e with
    | .Call (.Name x _) (y :: xs) [] _ => decide (tb.fn.lookup f = some x) && isGf k x && okName x && noStar y && xs.all noStar && chE tb k a y && chL tb k es xs
    | _ => false
  | .call1 f a, e => match e with
    | .Call (.Name x _) [y] [] _ => decide (tb.fn.lookup f = some x) && isGf k x && okName x && noStar y && chE tb k a y
    | _ => false
  | .mk ci es, e => match e with
    | .Call (.Name x _) xs [] _ => decide (tb.cls.lookup ci = some x) && (tb.G.cls.lookup ci).isSome && isGf k x && okName x && chL tb k es xs
    | _ => false
  | .blt f es, e => match e with
    | .Call (.Name x _) (y :: xs) [] _ => decide (x = f.name) && (if f = .repr then isGf k x else isGl k x) && okName x && chL tb k es (y :: xs)
    | _ => false
  | .um m o es, e => match e with
    | .Call (.Attribute eo x apos) xs [] pos => decide (tb.attrs[m]? = some x) && (k.full && plainBase eo) && decide (xs.length < 30) && (apos.endLine == pos.line) && chE tb k o eo && chL tb k es xs
    | _ => false
  | .bm m o es, e => match e with
    | .Call (.Attribute eo x apos) xs [] pos => decide (x = m.attr) && plainBase eo && decide (xs.length < 30) && (apos.endLine == pos.line) && chE tb k o eo && chX tb k es xs && (match m with
      | .pop0 => xs.isEmpty
      | _ => !xs.isEmpty)
    | _ => false
  | .bits o, e => match e with
    | .Call (.Attribute eo x apos) [] [] pos => decide (x = "bit_length") && plainBase eo && (apos.endLine == pos.line) && chE tb k o eo
    | _ => false
  | .idx a b, e => match e with
    | .Subscript ea eb _ => plainIx eb && chE tb k a ea && chE tb k b eb
    | _ => false
  | .slc a lo hi, e => match e with
    | .Subscript ea (.Slice elo ehi none _) _ => chE tb k a ea && (match elo with
      | none => isNonK lo
      | some x => !isNonK lo && chE tb k lo x) && (match ehi with
      | none => isNonK hi
      | some x => !isNonK hi && chE tb k hi x)
    | _ => false
  | .fld a f, e => match e with
    | .Attribute ea x _ => decide (tb.attrs[f]? = some x) && plainBase ea && chE tb k a ea
    | _ => false
  | .lc own tg it t elt, e => match e with
    | .ListComp ee [⟨tgt, iter, ifs, az⟩] scope _ => decide (az = 0) && blkC k.N ⟨.function, k.nm, false, false, []⟩ scope (ownOf k own) && (tg.slots.all fun i => own.contains i) && noMark iter && chI tb k it tgt iter && tgE (blk1 k scope) tg tgt
        && (match ifs with
          | [] => isYes t
          | [x] => !isYes t && chT tb (blk1 k scope) t x
          | _ => false)
        && chE tb (blk1 k scope) elt ee
    | _ => false
  | .lc2 own own1 tg it tg1 it1 t elt, e => match e with
    | .ListComp ee [⟨tgt, iter, [], az⟩, ⟨tgt1, iter1, ifs, az1⟩] scope _ => decide (az = 0) && decide (az1 = 0) && blkC k.N ⟨.function, k.nm, false, false, []⟩ scope (ownOf k own) && (tg.slots.all fun i => own.contains i) && (tg1.slots.all fun i => own1.contains i) && (own1.all fun i => own.contains i) && noMark iter && noMark iter1 && chI tb k it tgt iter && tgE (blk1 k scope) tg tgt && chI tb (blk1 k scope) it1 tgt1 iter1 && tgE (blk1 k scope) tg1 tgt1
        && (match ifs with
          | [] => isYes t
          | [x] => !isYes t && chT tb (blk1 k scope) t x
          | _ => false)
        && chE tb (blk1 k scope) elt ee
    | _ => false
  | .lrng it, e => match e with
    | .Call (.Name x _) [y] [] _ => decide (x = "list") && isGl k x && tagRng it && chI tb k it (.Name "" ⟨0, 0, 0, 0⟩) y
    | _ => false
  | .trng it, e => match e with
    | .Call (.Name x _) [y] [] _ => decide (x = "tuple") && isGl k x && tagRng it && chI tb k it (.Name "" ⟨0, 0, 0, 0⟩) y
    | _ => false
  | .rev a, e => match e with
    | .Subscript ea (.Slice none none (some es) _) _ => chE tb k a ea && (match es with
      | .UnaryOp op (.Constant (.int 1) _ _) _ => decide (op = .USub)
      | _ => false)
    | _ => false
  | .sset b a, e => match e with
    | .Call (.Name x _) [.Call (.Name y _) [ea] [] _] [] _ => decide (x = if b then "sorted" else "len") && decide (y = "set") && isGl k x && isGl k y && noStar ea && chE tb k a ea
    | _ => false
  | .oeq ne es, e => match e with
    | .Compare ea [op] [eb] _ => decide (op = neOp ne) && noMark eb && chX tb k es [ea, eb]
    | _ => false
  | .teq ne _ es, e => match e with
    | .Compare ea [op] [eb] _ => decide (op = neOp ne) && noMark eb && chX tb k es [ea, eb]
    | _ => false
  | .dct t, e => match e with
    | .Dict [] [] _ => true
    | _ => false
  | .dct1 _ a b, e => match e with
    | .Dict [some ek] [ev] _ => chE tb k a ek && chE tb k b ev
    | _ => false
  | .kidx a es, e => match e with
    | .Subscript ea (.Tuple xs _ _) _ => chE tb k a ea && chX tb k es xs
    | _ => false
  | .kin neg es a, e => match e with
    | .Compare (.Tuple xs _ _) [op] [ea] _ => decide (op = if neg then CmpOp.NotIn else CmpOp.In) && noMark ea && chX tb k es xs && chE tb k a ea
    | _ => false
  | .dget a b d, e => match e with
    | .Call (.Attribute eo x apos) [ek, ex] [] pos => decide (x = "get") && plainBase eo && noStar ek && noStar ex && (apos.endLine == pos.line) && chE tb k a eo && chE tb k b ek && chE tb k d ex
    | _ => false
  | .ixof a b, e => match e with
    | .Call (.Attribute eo x apos) [ex] [] pos => decide (x = "index") && plainBase eo && noStar ex && (apos.endLine == pos.line) && chE tb k a eo && chE tb k b ex
    | _ => false
def chX (tb : Tb) (k : Bk) : CEs → List Expr → Bool
  | .nil, xs => xs.isEmpty
  | .cons e r, xs => match xs with
    | x :: xs' => noStar x && chE tb k e x && chX tb k r xs'
    | [] => false
def chL (tb : Tb) (k : Bk) : CEs → List Expr → Bool
  | .nil, xs => xs.isEmpty
  | .cons e r, xs => match xs with
    | x :: xs' => noStar x && chE tb k e x && chL tb k r xs'
    | [] => false
def chT (tb : Tb) (k : Bk) : CT → Expr → Bool
  | .yes, _ => false
  | .e ce, e => match e with
    | .Compare _ _ _ _ => chE tb k ce e && (match ce with
      | .cmp _ _ _ => true
      | .chain _ _ _ _ _ => true
      | .kin _ _ _ => true
      | .oeq _ (.cons _ (.cons _ .nil)) => true
      | .teq _ _ (.cons _ (.cons _ .nil)) => true
      | _ => false)
    | _ => plainTest e && chE tb k ce e
  | .and a b, e => match e with
    | .BoolOp op vs pos => (match op, vs with
      | .And, [x, y] => chT tb k a x && chT tb k b y
      | .And, x :: y :: z :: r => chT tb k a x && chT tb k b (.BoolOp .And (y :: z :: r) pos)
      | _, _ => false)
    | _ => false
  | .or a b, e => match e with
    | .BoolOp op vs pos => (match op, vs with
      | .Or, [x, y] => chT tb k a x && chT tb k b y
      | .Or, x :: y :: z :: r => chT tb k a x && chT tb k b (.BoolOp .Or (y :: z :: r) pos)
      | _, _ => false)
    | _ => false
  | .not a, e => match e with
    | .UnaryOp op ea _ => decide (op = .Not) && chT tb k a ea
    | _ => false
def chI (tb : Tb) (k : Bk) : CI → Expr → Expr → Bool
  | .e ce, tg, e => chE tb k ce e
  | .rng1 a, tg, e => match e with
    | .Call (.Name x _) [ea] [] _ => decide (x = "range") && isGl k x && noStar ea && chE tb k a ea
    | _ => false
  | .rng2 a b, tg, e => match e with
    | .Call (.Name x _) [ea, eb] [] _ => decide (x = "range") && isGl k x && noStar ea && noStar eb && chE tb k a ea && chE tb k b eb
    | _ => false
  | .enum a, tg, e => match tg, e with
    | .Tuple _ _ _, .Call (.Name x _) [ea] [] _ => decide (x = "enumerate") && isGl k x && noStar ea && chE tb k a ea
    | _, _ => false
  | .zip a b, tg, e => match tg, e with
    | .Tuple _ _ _, .Call (.Name x _) [ea, eb] [] _ => decide (x = "zip") && isGl k x && noStar ea && noStar eb && chE tb k a ea && chE tb k b eb
    | _, _ => false
end
end Ev

/-! Ev, part M: the look at expressions is right. -/
namespace Ev
open PySem L2 PyProof.Rows
theorem asg_cons {e : Expr} {es : List Expr} {env : Env} (h : noStar e = true) : assignEach (e :: es) env = (false, assign e env) :: assignEach es env := by
  cases e <;> first | rfl | (cases h)
section
variable {c : Cn} {tb : Tb} {cl : Caller}
theorem tb_and {a b : Bool} (h : (a && b) = true) : a = true ∧ b = true := by simpa using h
mutual
theorem tgE_ok {k : Bk} {X : Cx} (o : OkX c tb cl k X) : ∀ {t : Tg} {e : Expr}, tgE k t e = true → PG X e (gT c.K t)
  | .one i, e, h => by
    unfold tgE at h
    split at h
    · rename_i x pos
      obtain ⟨h1, h2⟩ := tb_and h
      obtain ⟨l1, l2⟩ := o.loc h2
      exact pg_name (by rw [o.N]; exact o.nd) (by rw [o.N]; exact of_decide_eq_true h1) l1 l2
    · cases h
  | .tup ts, e, h => by
    unfold tgE at h
    split at h
    · rename_i es n pos
      obtain ⟨p1, p2, p3⟩ := tgL_ok o h
      have := pg_tl (pg_tup (k := n) (pos := pos) o.calm p1 p2 p3) (pg_unl (k := n) (pos := pos) o.calm p1 p2 p3)
      rw [o.K] at this
      exact this
    · cases h
theorem tgL_ok {k : Bk} {X : Cx} (o : OkX c tb cl k X) : ∀ {ts : Tgs} {es : List Expr}, tgL k ts es = true → PGs X es (gTs c.K ts) ∧ (assignEach es X.env).length = ts.len ∧ (assignEach es X.env).findIdx? (·.1) = none
  | .nil, es, h => by
    unfold tgL at h
    cases es with
    | nil => exact ⟨pgs_nil, rfl, rfl⟩
    | cons _ _ => cases h
  | .cons t r, es, h => by
    unfold tgL at h
    cases es with
    | nil => cases h
    | cons e es =>
      obtain ⟨h12, h3⟩ := tb_and h
      obtain ⟨h1, h2⟩ := tb_and h12
      obtain ⟨p1, p2, p3⟩ := tgL_ok o h3
      refine ⟨pgs_cons (tgE_ok o h2) p1 (by rw [asg_cons h1]; rfl), ?_, ?_⟩
      · rw [asg_cons h1, List.length_cons, p2]; rfl
      · rw [asg_cons h1]
        simp [List.findIdx?_cons, p3]
end
theorem relabel_nm {scope : Scope} {env : Env} {nm : List (Str × NameKind)} (hk : env.scope.kind = .function) (hn : env.scope.names = nm) : (relabel scope env).names = relN nm scope.names := by
  subst hn
  unfold relabel relN
  show List.map _ _ = List.map _ _
  apply List.map_congr_left
  intro x _
  obtain ⟨n, kd⟩ := x
  simp only [hk]
  have e : (ScopeKind.function == ScopeKind.function) = true := rfl
  rw [e, Bool.and_true]
  rfl
theorem OkX.blk {k : Bk} {X : Cx} (o : OkX c tb cl k X) {scope : Scope} (hs : scope.kind = .function) (s : Shared) (H : Hp) (C : Addr) (cc : List (Str × Addr)) (fp : List Addr) : OkX c tb cl (blk1 k scope) (X.blk s H scope (compEnvC scope cc C X.env) fp) where
  K := o.K
  full := o.full
  calm := o.calm
  hu := o.hu
  N := o.N
  nd := o.nd
  nm := relabel_nm o.kind o.nm
  kind := hs
  top := fun h => by cases h
  raw := fun x h => beq_iff_eq.mpr h
  call := o.call
  make := o.make
  meth := o.meth
  eqs := o.eqs
  blt := o.blt
  glob := o.glob
  attrs := o.attrs
  fld := o.fld
  fok := o.fok
theorem blk_ok {k : Bk} {X : Cx} (o : OkX c tb cl k X) {scope : Scope} {own : List (Str × Nat)} (h : blkC k.N ⟨.function, k.nm, false, false, []⟩ scope own = true) : BlkOk X.N X.env.scope scope own := by
  have b := blkOk_by h
  exact ⟨b.kind, b.uniq, by rw [o.N]; exact b.ix, fun y hy e => by rw [o.nm]; exact b.free y hy e, by rw [o.N]; exact b.own⟩
theorem own_snd (k : Bk) (own : List Nat) : (ownOf k own).map (·.2) = own := by
  unfold ownOf
  rw [List.map_map]
  exact List.map_id' own
theorem pts_imp {X : Cx} {es : List Expr} {t t' : TT} (h : PTs X es t) (hi : ∀ σ H Q, t' σ H Q → t σ H Q) : PTs X es t' := ⟨fun pins s σ H Q I q => h.run pins s σ H Q I (hi σ H Q q)⟩
theorem tT_yes {G : GS} {σ : L2.St} {H : Hp} {Q : Bool → Hp → Prop} (q : tT c G cl .yes σ H Q) : Q true H := by
  obtain ⟨p, F, Z, τ, A, b, τ', s, e, k⟩ := q
  unfold evT at e
  cases e
  exact k H Z A (Post.refl s)
theorem tL_nil {G : GS} {σ : L2.St} {H : Hp} {Q : List V → Hp → Prop} (q : tL c G cl .nil σ H Q) : Q [] H := by
  obtain ⟨p, F, Z, τ, A, rs, τ', s, e, k⟩ := q
  unfold evL at e
  cases e
  exact k [] H Z A (Post.refl s) rfl
theorem blt_boot (f : Blt) : bootBuiltins f.name = some f.val := by cases f <;> decide +kernel
theorem blt_in (f : Blt) : f.name ∈ bltNames := by cases f <;> decide +kernel
theorem ty_boot (t : Ty) (h : bltNames.contains t.name = true) : bootBuiltins t.name = some (.type t.nm) := by
  cases t with
  | none => exact absurd h (by decide +kernel)
  | _ => decide +kernel
theorem pe_blt {X : Cx} {f : Blt} {p pos : Pos} {y : Expr} {xs : List Expr} {t : TA} (hc : CallR X f.val (rBlt c f)) (hg : Gl X f.name) (hm : X.mg f.name = none) (ha : PA X (y :: xs) t) (hs : noStar y = true) (hx : xs.all noStar = true) :
    PE X (.Call (.Name f.name p) (y :: xs) [] pos) (tCB (rBlt c f) t) := by
  have he := star_cons (es := xs) (env := X.env) hs
  have hp := back_any (pos := pos) (env := X.env) hx
  have hb := blt_boot f
  have hn : f.name ≠ "__name__" := by cases f <;> decide +kernel
  have hd : (f.name == ("__debug__" : Str)) = false := by cases f <;> decide +kernel
  cases f with
  | int => exact pe_callTy hc hg hm hb ha hn hd he hp
  | tuple => exact pe_callTy hc hg hm hb ha hn hd he hp
  | list => exact pe_callTy hc hg hm hb ha hn hd he hp
  | len => exact pe_callB hc hg hm hb ha hn hd he hp
  | isi => exact pe_callB hc hg hm hb ha hn hd he hp
  | min2 => exact pe_callB hc hg hm hb ha hn hd he hp
  | max2 => exact pe_callB hc hg hm hb ha hn hd he hp
  | abs => exact pe_callB hc hg hm hb ha hn hd he hp
  | sorted => exact pe_callB hc hg hm hb ha hn hd he hp
  | all => exact pe_callB hc hg hm hb ha hn hd he hp
  | any => exact pe_callB hc hg hm hb ha hn hd he hp
  | sum => exact pe_callB hc hg hm hb ha hn hd he hp
  | max1 => exact pe_callB hc hg hm hb ha hn hd he hp
  | min1 => exact pe_callB hc hg hm hb ha hn hd he hp
  | repr => exact pe_callB hc hg hm hb ha hn hd he hp
theorem pe_tyn {X : Cx} {t : Ty} {pos : Pos} (hg : Gl X t.name) (hm : X.mg t.name = none) (hb : bootBuiltins t.name = some (.type t.nm)) (hn : t.name ≠ "__name__") (hd : (t.name == ("__debug__" : Str)) = false) : PE X (.Name t.name pos) (tC (.ty t.nm)) :=
  ⟨fun pins s σ H Q I q => ld_blt I hg hm hb ⟨.ty t.nm, H, I, rfl, q⟩ hn hd⟩
theorem chL_star {k : Bk} : ∀ {es : CEs} {xs : List Expr}, chL tb k es xs = true → xs.all noStar = true
  | .nil, xs, h => by
    unfold chL at h
    cases xs with
    | nil => rfl
    | cons _ _ => cases h
  | .cons e r, xs, h => by
    unfold chL at h
    cases xs with
    | nil => cases h
    | cons x xs =>
      obtain ⟨h1, h2⟩ := tb_and h
      rw [List.all_cons, (tb_and h1).1, chL_star h2]
      rfl
theorem chX_star {k : Bk} : ∀ {es : CEs} {xs : List Expr}, chX tb k es xs = true → xs.all noStar = true
  | .nil, xs, h => by
    unfold chX at h
    cases xs with
    | nil => rfl
    | cons _ _ => cases h
  | .cons e r, xs, h => by
    unfold chX at h
    cases xs with
    | nil => cases h
    | cons x xs =>
      obtain ⟨h1, h2⟩ := tb_and h
      rw [List.all_cons, (tb_and h1).1, chX_star h2]
      rfl
theorem tE_mono {G : GS} {ce : CE} {σ : L2.St} {H : Hp} {Q Q' : VK} (q : tE c G cl ce σ H Q) (h : ∀ x H1, Q x H1 → Q' x H1) : tE c G cl ce σ H Q' := by
  obtain ⟨p, F, Z, τ, A, r, τ', s, e, k⟩ := q
  exact ⟨p, F, Z, τ, A, r, τ', s, e, fun x H' Z' A' B po re => h _ _ (k x H' Z' A' B po re)⟩
theorem chIf_ok {k : Bk} {X : Cx} {ifs : List Expr} {t : CT} (h : (match ifs with
          | [] => isYes t
          | [x] => !isYes t && chT tb k t x
          | _ => false) = true) (ht : ∀ x, chT tb k t x = true → PT X x (tT c tb.G cl t)) : PTs X ifs (tT c tb.G cl t) := by
  split at h
  · cases t with
    | yes => exact pts_imp pts_nil fun σ H Q q => tT_yes q
    | _ => cases h
  · exact pts_one (ht _ (tb_and h).2)
  · cases h
theorem pw_bool {X : Cx} {op : BoolOp} {vs : List Expr} {pos : Pos} {t : TT} (h : PT X (.BoolOp op vs pos) t) : PW X (.BoolOp op vs pos) t := ⟨fun _ pins s σ H Q I q => h.run pins s σ H Q I q⟩
theorem ch_cmp {k : Bk} {op : CmpOp} {a b : CE} {ea : Expr} {ops : List CmpOp} {es : List Expr} {pos : Pos} (h : chE tb k (.cmp op a b) (.Compare ea ops es pos) = true) : ∃ eb, ops = [op] ∧ es = [eb] ∧ noMark eb = true ∧ chE tb k a ea = true ∧ chE tb k b eb = true := by
  unfold chE at h
  match ops, es, h with
  | [op'], [eb], h =>
    obtain ⟨h1, h2⟩ := tb_and h
    obtain ⟨h1, h3⟩ := tb_and h1
    obtain ⟨h1, h4⟩ := tb_and h1
    cases of_decide_eq_true h1
    exact ⟨_, rfl, rfl, h4, h3, h2⟩
  | [], _, h => cases h
  | [_], [], h => cases h
  | [_], _ :: _ :: _, h => cases h
  | _ :: _ :: _, _, h => cases h
theorem ch_chain {k : Bk} {o1 o2 : CmpOp} {a b d : CE} {ea : Expr} {ops : List CmpOp} {es : List Expr} {pos : Pos} (h : chE tb k (.chain o1 o2 a b d) (.Compare ea ops es pos) = true) : ∃ eb ec, ops = [o1, o2] ∧ es = [eb, ec] ∧ noMark ec = true ∧ chE tb k a ea = true ∧ chE tb k b eb = true ∧ chE tb k d ec = true := by
  unfold chE at h
  match ops, es, h with
  | [p1, p2], [eb, ec], h =>
    obtain ⟨h1, h2⟩ := tb_and h
    obtain ⟨h1, h3⟩ := tb_and h1
    obtain ⟨h1, h4⟩ := tb_and h1
    obtain ⟨h1, h5⟩ := tb_and h1
    obtain ⟨h1, h6⟩ := tb_and h1
    cases of_decide_eq_true h1
    cases of_decide_eq_true h6
    exact ⟨_, _, rfl, rfl, h5, h4, h3, h2⟩
  | [], _, h => cases h
  | [_], _, h => cases h
  | [_, _], [], h => cases h
  | [_, _], [_], h => cases h
  | [_, _], _ :: _ :: _ :: _, h => cases h
  | _ :: _ :: _ :: _, _, h => cases h
theorem ch_kin {k : Bk} {neg : Bool} {ces : CEs} {a : CE} {ea : Expr} {ops : List CmpOp} {es : List Expr} {pos : Pos} (h : chE tb k (.kin neg ces a) (.Compare ea ops es pos) = true) : ∃ xs n pt eb, ea = .Tuple xs n pt ∧ ops = [if neg then CmpOp.NotIn else CmpOp.In] ∧ es = [eb] ∧ noMark eb = true ∧ chX tb k ces xs = true ∧ chE tb k a eb = true := by
  unfold chE at h
  split at h
  · rename_i xs n pt op eb pos' heq
    cases heq
    obtain ⟨h1, h2⟩ := tb_and h
    obtain ⟨h1, h3⟩ := tb_and h1
    obtain ⟨h1, h4⟩ := tb_and h1
    cases of_decide_eq_true h1
    exact ⟨_, _, _, _, rfl, rfl, rfl, h4, h3, h2⟩
  · cases h
theorem ch_oeq {k : Bk} {ne : Bool} {ca cb : CE} {ea : Expr} {ops : List CmpOp} {es : List Expr} {pos : Pos} (h : chE tb k (.oeq ne (.cons ca (.cons cb .nil))) (.Compare ea ops es pos) = true) : ∃ eb, ops = [neOp ne] ∧ es = [eb] ∧ noMark eb = true ∧ chE tb k ca ea = true ∧ chE tb k cb eb = true := by
  unfold chE at h
  split at h
  · rename_i ea' op eb pos' heq
    cases heq
    obtain ⟨g1, h2⟩ := tb_and h
    obtain ⟨g2, h3⟩ := tb_and g1
    cases of_decide_eq_true g2
    unfold chX at h2
    obtain ⟨h4, h5⟩ := tb_and h2
    obtain ⟨h6, h7⟩ := tb_and h4
    unfold chX at h5
    obtain ⟨h8, h9⟩ := tb_and h5
    obtain ⟨h10, h11⟩ := tb_and h8
    exact ⟨eb, rfl, rfl, h3, h7, h11⟩
  · cases h
theorem ch_teq {k : Bk} {ne : Bool} {ci : Nat} {ca cb : CE} {ea : Expr} {ops : List CmpOp} {es : List Expr} {pos : Pos} (h : chE tb k (.teq ne ci (.cons ca (.cons cb .nil))) (.Compare ea ops es pos) = true) : ∃ eb, ops = [neOp ne] ∧ es = [eb] ∧ noMark eb = true ∧ chE tb k ca ea = true ∧ chE tb k cb eb = true := by
  unfold chE at h
  split at h
  · rename_i ea' op eb pos' heq
    cases heq
    obtain ⟨g1, h2⟩ := tb_and h
    obtain ⟨g2, h3⟩ := tb_and g1
    cases of_decide_eq_true g2
    unfold chX at h2
    obtain ⟨h4, h5⟩ := tb_and h2
    obtain ⟨h6, h7⟩ := tb_and h4
    unfold chX at h5
    obtain ⟨h8, h9⟩ := tb_and h5
    obtain ⟨h10, h11⟩ := tb_and h8
    exact ⟨eb, rfl, rfl, h3, h7, h11⟩
  · cases h
theorem nosl_tup {es : List Expr} {n : Nat} {p : Pos} : NoSl (.Tuple es n p) := fun _ _ => rfl
/-- a list's method -/
theorem bm_ty (m : Bm) : Slot "list" m.attr m.id := by
  cases m with
  | append => exact PySem.F.slot_list_append
  | pop0 => exact PySem.F.slot_list_pop
  | popAt => exact PySem.F.slot_list_pop
  | extend => exact PySem.F.slot_list_extend
theorem bm_des (m : Bm) : typeOf (.builtin m.id) = pure (.type "method_descriptor") := by
  cases m with
  | append => exact PySem.F.type_list_append
  | pop0 => exact PySem.F.type_list_pop
  | popAt => exact PySem.F.type_list_pop
  | extend => exact PySem.F.type_list_extend
mutual
theorem chE_ok : ∀ {ce : CE} {k : Bk} {X : Cx} (o : OkX c tb cl k X) {e : Expr}, chE tb k ce e = true → PE X e (tE c tb.G cl ce)
  | .k d, k, X, o, e, h => by
    unfold chE at h
    split at h
    · rename_i v n pos
      split at h
      · cases of_decide_eq_true h; exact s_k pe_int fun Z => rfl
      · cases beq_iff_eq.mp h; exact s_k pe_bl fun Z => rfl
      · cases of_decide_eq_true h; exact s_k pe_str fun Z => rfl
      · exact s_k pe_non fun Z => rfl
      · cases h
    · rename_i x pos
      split at h
      · rename_i ci
        obtain ⟨h1, h2⟩ := tb_and h
        obtain ⟨h1, h3⟩ := tb_and h1
        obtain ⟨h1, h4⟩ := tb_and h1
        obtain ⟨kk, hk⟩ := Option.isSome_iff_exists.mp h4
        obtain ⟨C, fI, fd, ps, j, hC, _, _, _, hm, _⟩ := o.make ci x kk (of_decide_eq_true h1) hk
        exact s_k (pe_glob (v := .ref C) (o.gl h3) hm rfl (ok_debug h2)) fun Z => ⟨C, hC, rfl⟩
      · rename_i t
        obtain ⟨h1, h2⟩ := tb_and h
        obtain ⟨h1, h3⟩ := tb_and h1
        obtain ⟨h1, h4⟩ := tb_and h1
        cases of_decide_eq_true h1
        exact s_k (pe_tyn (o.gl h4) (o.blt _ (by simpa using h3)) (ty_boot t h3) (ok_name h2) (ok_debug h2)) fun Z => rfl
      · cases h
    · cases h
  | .s i, k, X, o, e, h => by
    unfold chE at h
    split at h
    · rename_i x pos
      obtain ⟨h1, h2⟩ := tb_and h
      obtain ⟨h1, h3⟩ := tb_and h1
      exact s_s (pe_var (by rw [o.N]; exact of_decide_eq_true h1) (o.vis h3) (ok_debug h2) (ok_cd h2))
    · cases h
  | .g i, k, X, o, e, h => by
    unfold chE at h
    split at h
    · rename_i x pos
      obtain ⟨h1, h2⟩ := tb_and h
      obtain ⟨h1, h3⟩ := tb_and h1
      obtain ⟨q, hq, h4⟩ := List.any_eq_true.mp h2
      obtain ⟨h5, h6⟩ := tb_and h4
      cases of_decide_eq_true h5
      cases beq_iff_eq.mp h6
      obtain ⟨d, u, v, e0, e1, e2, e3⟩ := o.glob _ hq
      exact s_g (pe_glob (pos := pos) (o.gl h1) e1 e2 (ok_debug h3)) fun dd hd Z => by
        rw [e0] at hd
        cases hd
        exact e3 Z
    · cases h
  | .bin op a b, k, X, o, e, h => by
    unfold chE at h
    split at h
    · rename_i ea op' eb pos
      obtain ⟨h1, h2⟩ := tb_and h
      obtain ⟨h1, h3⟩ := tb_and h1
      cases of_decide_eq_true h1
      exact s_bin o.K (chE_ok o h3) (chE_ok o h2)
    · cases h
  | .un op a, k, X, o, e, h => by
    unfold chE at h
    split at h
    · rename_i op' ea pos
      obtain ⟨h1, h2⟩ := tb_and h
      cases of_decide_eq_true h1
      exact s_un (chE_ok o h2)
    · cases h
  | .cmp op a b, k, X, o, e, h => by
    unfold chE at h
    split at h
    · split at h
      · obtain ⟨h1, h2⟩ := tb_and h
        obtain ⟨h1, h3⟩ := tb_and h1
        obtain ⟨h1, h4⟩ := tb_and h1
        cases of_decide_eq_true h1
        exact s_cmp o.K o.hu (chE_ok o h3) (chE_ok o h2) (mark_ok h4)
      · cases h
    · cases h
  | .chain o1 o2 a b d, k, X, o, e, h => by
    unfold chE at h
    split at h
    · split at h
      · obtain ⟨h1, h2⟩ := tb_and h
        obtain ⟨h1, h3⟩ := tb_and h1
        obtain ⟨h1, h4⟩ := tb_and h1
        obtain ⟨h1, h5⟩ := tb_and h1
        obtain ⟨h1, h6⟩ := tb_and h1
        cases of_decide_eq_true h1
        cases of_decide_eq_true h6
        exact s_chain o.K o.hu (chE_ok o h4) (chE_ok o h3) (chE_ok o h2) (by unfold lastMarks; unfold lastMarks; exact mark_ok h5)
      · cases h
    · cases h
  | .and a b, k, X, o, e, h => by
    unfold chE at h
    split at h
    · split at h
      · obtain ⟨h1, h2⟩ := tb_and h
        exact s_and (chE_ok o h1) (pe_one (chE_ok o h2))
      · obtain ⟨h1, h2⟩ := tb_and h
        exact s_and (chE_ok o h1) (chE_ok o h2)
      · cases h
    · cases h
  | .or a b, k, X, o, e, h => by
    unfold chE at h
    split at h
    · split at h
      · obtain ⟨h1, h2⟩ := tb_and h
        exact s_or (chE_ok o h1) (pe_one (chE_ok o h2))
      · obtain ⟨h1, h2⟩ := tb_and h
        exact s_or (chE_ok o h1) (chE_ok o h2)
      · cases h
    · cases h
  | .not a, k, X, o, e, h => by
    unfold chE at h
    split at h
    · obtain ⟨h1, h2⟩ := tb_and h
      cases of_decide_eq_true h1
      exact s_not (chE_ok o h2)
    · cases h
  | .ife t a b, k, X, o, e, h => by
    unfold chE at h
    split at h
    · obtain ⟨h1, h2⟩ := tb_and h
      obtain ⟨h1, h3⟩ := tb_and h1
      exact s_ife (chT_ok o h1) (chE_ok o h3) (chE_ok o h2)
    · cases h
  | .tup es, k, X, o, e, h => by
    unfold chE at h
    split at h
    · exact s_tup (chX_ok o h)
    · cases h
  | .lst es, k, X, o, e, h => by
    unfold chE at h
    split at h
    · exact s_lst (chX_ok o h)
    · cases h
  | .call f es, k, X, o, e, h => by
    unfold chE at h
    split at h
    · rename_i x p xs pos
      obtain ⟨h1, h2⟩ := tb_and h
      obtain ⟨h1, h3⟩ := tb_and h1
      obtain ⟨h1, h4⟩ := tb_and h1
      obtain ⟨hf, h4⟩ := o.gf h4
      obtain ⟨fa, fd, ps, kk, F, hr, hm, hk, hb⟩ := o.call hf f x (of_decide_eq_true h1)
      have F := cr_fn F (o.full hf) hr hb pass0
      have pa := chL_ok o h2
      have st := chL_star h2
      refine s_call ?_
      cases xs with
      | nil => 
        have en : es = .nil := by
          cases es with
          | nil => rfl
          | cons _ _ => unfold chL at h2; cases h2
        subst en
        exact pe_imp (pe_nameU0 F (o.gl h4) hm hk (ok_debug h3)) fun σ H Q q => tL_nil q
      | cons y xs =>
        rw [List.all_cons] at st
        obtain ⟨s1, s2⟩ := tb_and st
        exact pe_imp (pe_nameU F (o.gl h4) hm hk pa (ok_debug h3) (star_cons s1) (back_any s2)) fun σ H Q q => callU q
    · cases h
  | .pcall f es, k, X, o, e, h => by
    unfold chE at h
    split at h
    · rename_i x p xs pos
      obtain ⟨h1, h2⟩ := tb_and h
      obtain ⟨h1, h3⟩ := tb_and h1
      obtain ⟨h1, h4⟩ := tb_and h1
      obtain ⟨hf, h4⟩ := o.gf h4
      obtain ⟨fa, fd, ps, kk, F, hr, hm, hk, hb⟩ := o.call hf f x (of_decide_eq_true h1)
      have F := cr_fn F (o.full hf) hr hb pass0
      have pa := chL_ok o h2
      have st := chL_star h2
      refine s_pcall ?_
      cases xs with
      | nil => 
        have en : es = .nil := by
          cases es with
          | nil => rfl
          | cons _ _ => unfold chL at h2; cases h2
        subst en
        exact pe_imp (pe_nameU0 F (o.gl h4) hm hk (ok_debug h3)) fun σ H Q q => tL_nil q
      | cons y xs =>
        rw [List.all_cons] at st
        obtain ⟨s1, s2⟩ := tb_and st
        exact pe_imp (pe_nameU F (o.gl h4) hm hk pa (ok_debug h3) (star_cons s1) (back_any s2)) fun σ H Q q => callU q
    · cases h
  | .frz a, k, X, o, e, h => by
    unfold chE at h
    exact s_frz (chE_ok o h)
  | .callM f a es, k, X, o, e, h => by
    unfold chE at h
    split at h
    · rename_i x p y xs pos
      obtain ⟨h1, h5⟩ := tb_and h
      obtain ⟨h1, h2⟩ := tb_and h1
      obtain ⟨h1, s2⟩ := tb_and h1
      obtain ⟨h1, s1⟩ := tb_and h1
      obtain ⟨h1, h3⟩ := tb_and h1
      obtain ⟨h1, h4⟩ := tb_and h1
      obtain ⟨hf, h4⟩ := o.gf h4
      obtain ⟨fa, fd, ps, kk, F, hr, hm, hk, hb⟩ := o.call hf f x (of_decide_eq_true h1)
      have F := cr_fn F (o.full hf) hr hb pass0
      exact s_callM (pe_imp (pe_nameU F (o.gl h4) hm hk (pa_cons (chE_ok o h2) (chL_ok o h5) (star_cons s1)) (ok_debug h3) (star_cons s1) (back_any s2)) fun σ H Q q => callU q)
    · cases h
  | .call1 f a, k, X, o, e, h => by
    unfold chE at h
    split at h
    · rename_i x p y pos
      obtain ⟨h1, h2⟩ := tb_and h
      obtain ⟨h1, s1⟩ := tb_and h1
      obtain ⟨h1, h3⟩ := tb_and h1
      obtain ⟨h1, h4⟩ := tb_and h1
      obtain ⟨hf, h4⟩ := o.gf h4
      obtain ⟨fa, fd, ps, kk, F, hr, hm, hk, hb⟩ := o.call hf f x (of_decide_eq_true h1)
      have F := cr_fn F (o.full hf) hr hb pass0
      exact s_call1 (pe_imp (pe_nameU F (o.gl h4) hm hk (pa_cons (chE_ok o h2) pa_nil (star_cons s1)) (ok_debug h3) (star_cons s1) (back_any (es := []) rfl)) fun σ H Q q => callU q)
    · cases h
  | .mk ci es, k, X, o, e, h => by
    unfold chE at h
    split at h
    · rename_i x p xs pos
      obtain ⟨h1, h2⟩ := tb_and h
      obtain ⟨h1, h3⟩ := tb_and h1
      obtain ⟨h1, h4⟩ := tb_and h1
      obtain ⟨h1, h5⟩ := tb_and h1
      obtain ⟨kc, ek⟩ := Option.isSome_iff_exists.mp h5
      obtain ⟨hf, h4⟩ := o.gf h4
      obtain ⟨C, fI, fd, ps, j, hC, M, F, hr, hm, hb⟩ := o.make ci x kc (of_decide_eq_true h1) ek
      have F := cr_mk M (F hf) (o.full hf) hr hb pass0
      have pa := chL_ok o h2
      have st := chL_star h2
      refine s_mk hC ek ?_
      cases xs with
      | nil => 
        have en : es = .nil := by
          cases es with
          | nil => rfl
          | cons _ _ => unfold chL at h2; cases h2
        subst en
        exact pe_imp (pe_nameU0 F (o.gl h4) hm M.kp (ok_debug h3)) fun σ H Q q => tL_nil q
      | cons y xs =>
        rw [List.all_cons] at st
        obtain ⟨s1, s2⟩ := tb_and st
        exact pe_imp (pe_nameU F (o.gl h4) hm M.kp pa (ok_debug h3) (star_cons s1) (back_any s2)) fun σ H Q q => makeU q
    · cases h
  | .blt f es, k, X, o, e, h => by
    unfold chE at h
    split at h
    · rename_i x p y xs pos
      obtain ⟨h1, h2⟩ := tb_and h
      obtain ⟨h1, h3⟩ := tb_and h1
      obtain ⟨h1, h4⟩ := tb_and h1
      cases of_decide_eq_true h1
      have pa := chL_ok o h2
      have st := chL_star h2
      rw [List.all_cons] at st
      obtain ⟨s1, s2⟩ := tb_and st
      have h5 : isGl k f.name = true ∧ (f = .repr → X.A.guards = some []) := by
        by_cases z : f = .repr
        · rw [if_pos z] at h4
          exact ⟨(o.gf h4).2, fun _ => o.full (o.gf h4).1⟩
        · rw [if_neg z] at h4
          exact ⟨h4, fun y => absurd y z⟩
      exact s_blt (t := tL c tb.G cl es) (pe_blt (blt_ok o.K o.calm o.hu f h5.2) (o.gl h5.1) (o.blt _ (blt_in f)) pa s1 s2)
    · cases h
  | .um m ob es, k, X, o, e, h => by
    unfold chE at h
    split at h
    · rename_i eo x apos xs pos
      obtain ⟨h1, h2⟩ := tb_and h
      obtain ⟨h1, h3⟩ := tb_and h1
      obtain ⟨h1, h4⟩ := tb_and h1
      obtain ⟨h1, h5⟩ := tb_and h1
      obtain ⟨h1, h6⟩ := tb_and h1
      obtain ⟨hfu, h6⟩ := tb_and h6
      have ex := of_decide_eq_true h1
      have pa := chL_ok o h2
      have st := chL_star h2
      have po := chE_ok o h3
      have ml := meth_form (m := x) (apos := apos) (pos := pos) (env := X.env) h6 st (of_decide_eq_true h5) h4
      refine s_um (by rw [o.attrs]; exact ex) fun ci kc f hk hf => ?_
      obtain ⟨C, fa, fd, ps, j, hC, hcl, hme, F, hr, hb⟩ := o.meth hfu ci kc m x f hk hf ex
      have F := cr_fn F (o.full hfu) hr hb pass0
      refine ⟨C, hC, ?_⟩
      cases xs with
      | nil => 
        have en : es = .nil := by
          cases es with
          | nil => rfl
          | cons _ _ => unfold chL at h2; cases h2
        subst en
        refine pe_imp (pe_attrU0 po hcl hme F ml) fun σ H Q q => ?_
        refine tE_mono q fun x H1 q1 => ?_
        obtain ⟨a, dx, fs, e1, e2, e3, q2⟩ := q1
        exact ⟨a, dx, fs, e1, e2, e3, tL_nil q2⟩
      | cons y xs =>
        rw [List.all_cons] at st
        obtain ⟨s1, s2⟩ := tb_and st
        exact pe_imp (pe_attrU po hcl hme F pa (star_cons s1) (back_any s2) ml) fun σ H Q q => methU q
    · cases h
  | .bm m ob es, k, X, o, e, h => by
    unfold chE at h
    split at h
    · rename_i eo x apos xs pos
      obtain ⟨h1, h2⟩ := tb_and h
      obtain ⟨h1, h3⟩ := tb_and h1
      obtain ⟨h1, h4⟩ := tb_and h1
      obtain ⟨h1, h5⟩ := tb_and h1
      obtain ⟨h1, h6⟩ := tb_and h1
      obtain ⟨h1, h7⟩ := tb_and h1
      cases of_decide_eq_true h1
      have pa := chX_ok o h3
      have st := chX_star h3
      have po := chE_ok o h4
      cases xs with
      | nil =>
        cases m with
        | pop0 =>
          have en : es = .nil := by
            cases es with
            | nil => rfl
            | cons _ _ => unfold chX at h3; cases h3
          subst en
          exact s_bm0 (pe_bm0 PySem.F.plainAttrs_list (bm_ty .pop0) (bm_des .pop0) (bm_ok .pop0) po (base_ok h7) h5)
        | _ => cases h2
      | cons y xs =>
        have st' := st
        rw [List.all_cons] at st
        obtain ⟨s1, s2⟩ := tb_and st
        exact s_bm (pe_bm PySem.F.plainAttrs_list (bm_ty m) (bm_des m) (bm_ok m) po pa (base_ok h7) (back_few st' (of_decide_eq_true h6)) h5 (star_cons s1) (back_any s2))
    · cases h
  | .bits ob, k, X, o, e, h => by
    unfold chE at h
    split at h
    · obtain ⟨h1, h2⟩ := tb_and h
      obtain ⟨h1, h3⟩ := tb_and h1
      obtain ⟨h1, h4⟩ := tb_and h1
      cases of_decide_eq_true h1
      exact s_bits (pe_bits (chE_ok o h2) (base_ok h4) h3)
    · cases h
  | .idx a b, k, X, o, e, h => by
    unfold chE at h
    split at h
    · obtain ⟨h1, h2⟩ := tb_and h
      obtain ⟨h1, h3⟩ := tb_and h1
      exact s_idx o.K o.hu (chE_ok o h3) (chE_ok o h2) (ix_ok h1)
    · cases h
  | .slc a lo hi, k, X, o, e, h => by
    unfold chE at h
    split at h
    · obtain ⟨h1, h2⟩ := tb_and h
      obtain ⟨h1, h3⟩ := tb_and h1
      refine s_slc o.K (chE_ok o h1) ?_ ?_
      · split at h3
        · exact po_non h3
        · obtain ⟨h4, h5⟩ := tb_and h3
          exact po_ce (by simpa using h4) (chE_ok o h5)
      · split at h2
        · exact po_non h2
        · obtain ⟨h4, h5⟩ := tb_and h2
          exact po_ce (by simpa using h4) (chE_ok o h5)
    · cases h
  | .fld a f, k, X, o, e, h => by
    unfold chE at h
    split at h
    · obtain ⟨h1, h2⟩ := tb_and h
      obtain ⟨h1, h3⟩ := tb_and h1
      have ex := of_decide_eq_true h1
      exact s_fld o.K (by rw [o.attrs]; exact ex) (o.fld _ _ ex) (chE_ok o h2) (base_ok h3)
    · cases h
  | .lc own tg it t elt, k, X, o, e, h => by
    unfold chE at h
    split at h
    · rename_i ee tgt iter ifs az scope pos
      obtain ⟨h, h8⟩ := tb_and h
      obtain ⟨h, h7⟩ := tb_and h
      obtain ⟨h, h6⟩ := tb_and h
      obtain ⟨h, h5⟩ := tb_and h
      obtain ⟨h, h4⟩ := tb_and h
      obtain ⟨h, h3⟩ := tb_and h
      obtain ⟨h1, h2⟩ := tb_and h
      cases of_decide_eq_true h1
      have hb := blk_ok o h2
      have ob : ∀ (s : Shared) (H : Hp) (C : Addr) (cc : List (Str × Addr)) (fp : List Addr), OkX c tb cl (blk1 k scope) (X.blk s H scope (compEnvC scope cc C X.env) fp) := fun s H C cc fp => o.blk hb.kind s H C cc fp
      have hi := chI_ok o (tg := tgt) h5
      have := s_lc (own := ownOf k own) (tgt := tg) (it := it) (t := t) (ce := elt) (G := tb.G) (cl := cl) (c := c) (fun i hi => by
          rw [own_snd]
          have := List.all_eq_true.mp h3 i hi
          simpa using this)
        (pe_lc (X := X) (pos := pos) o.calm (by rw [o.N]; exact o.nd) hi hb (fun s H C cc fp => tgE_ok (ob s H C cc fp) h6) (fun s H C cc fp => chIf_ok h7 (fun x hx => chT_ok (ob s H C cc fp) hx)) (fun s H C cc fp => chE_ok (ob s H C cc fp) h8) (folded_ok h4))
      rw [own_snd] at this
      exact this
    · cases h
  | .lc2 own own1 tg it tg1 it1 t elt, k, X, o, e, h => by
    unfold chE at h
    split at h
    · rename_i ee tgt iter az tgt1 iter1 ifs az1 scope pos
      obtain ⟨h, h14⟩ := tb_and h
      obtain ⟨h, h13⟩ := tb_and h
      obtain ⟨h, h12⟩ := tb_and h
      obtain ⟨h, h11⟩ := tb_and h
      obtain ⟨h, h10⟩ := tb_and h
      obtain ⟨h, h9⟩ := tb_and h
      obtain ⟨h, h8⟩ := tb_and h
      obtain ⟨h, h7⟩ := tb_and h
      obtain ⟨h, h6⟩ := tb_and h
      obtain ⟨h, h5⟩ := tb_and h
      obtain ⟨h, h4⟩ := tb_and h
      obtain ⟨h, h3⟩ := tb_and h
      obtain ⟨h1, h2⟩ := tb_and h
      cases of_decide_eq_true h1
      cases of_decide_eq_true h2
      have hb := blk_ok o h3
      have ob : ∀ (s : Shared) (H : Hp) (C : Addr) (cc : List (Str × Addr)) (fp : List Addr), OkX c tb cl (blk1 k scope) (X.blk s H scope (compEnvC scope cc C X.env) fp) := fun s H C cc fp => o.blk hb.kind s H C cc fp
      have hi := chI_ok o (tg := tgt) h9
      have := s_lc2 (own := ownOf k own) (own1 := own1) (tgt := tg) (tgt1 := tg1) (it := it) (it1 := it1) (t := t) (ce := elt) (G := tb.G) (cl := cl) (c := c) (fun i hi => by
          rw [own_snd]
          have := List.all_eq_true.mp h4 i hi
          simpa using this) (fun i hi => by
          have := List.all_eq_true.mp h5 i hi
          simpa using this) (fun i hi => by
          rw [own_snd]
          have := List.all_eq_true.mp h6 i hi
          simpa using this)
        (pe_lc2 (X := X) (pos := pos) (vs1 := own1) o.calm (by rw [o.N]; exact o.nd) hi hb (fun i hi => by
          rw [own_snd]
          have := List.all_eq_true.mp h6 i hi
          simpa using this) (fun s H C cc fp => tgE_ok (ob s H C cc fp) h10) (fun s H C cc fp => pts_imp pts_nil fun σ H Q q => tT_yes q) (fun s H C cc fp => chI_ok (ob s H C cc fp) (tg := tgt1) h11) (fun s H C cc fp => tgE_ok (ob s H C cc fp) h12) (fun s H C cc fp => chIf_ok h13 (fun x hx => chT_ok (ob s H C cc fp) hx)) (fun s H C cc fp => chE_ok (ob s H C cc fp) h14) (folded_ok h7) (fun env => folded_ok h8))
      rw [own_snd] at this
      exact this
    · cases h
  | .lrng it, k, X, o, e, h => by
    unfold chE at h
    split at h
    · rename_i x p y pos
      obtain ⟨h1, h2⟩ := tb_and h
      obtain ⟨h1, h3⟩ := tb_and h1
      obtain ⟨h1, h4⟩ := tb_and h1
      cases of_decide_eq_true h1
      obtain ⟨hit, pr, sy⟩ := chR_ok o h3 h2
      exact s_lrng hit (pe_listRg o.calm (o.gl h4) (o.blt _ (by decide +kernel)) pr (star_cons sy))
    · cases h
  | .trng it, k, X, o, e, h => by
    unfold chE at h
    split at h
    · rename_i x p y pos
      obtain ⟨h1, h2⟩ := tb_and h
      obtain ⟨h1, h3⟩ := tb_and h1
      obtain ⟨h1, h4⟩ := tb_and h1
      cases of_decide_eq_true h1
      obtain ⟨hit, pr, sy⟩ := chR_ok o h3 h2
      exact s_trng hit (pe_tupRg o.calm (o.gl h4) (o.blt _ (by decide +kernel)) pr (star_cons sy))
    · cases h
  | .rev a, k, X, o, e, h => by
    unfold chE at h
    split at h
    · obtain ⟨h1, h2⟩ := tb_and h
      split at h2
      · cases of_decide_eq_true h2
        exact s_rev o.K (chE_ok o h1) (po_ce rfl (s_un (s_k pe_int fun Z => rfl)))
      · cases h2
    · cases h
  | .sset b a, k, X, o, e, h => by
    unfold chE at h
    split at h
    · obtain ⟨g1, h2⟩ := tb_and h
      obtain ⟨g2, h3⟩ := tb_and g1
      obtain ⟨g3, h4⟩ := tb_and g2
      obtain ⟨g4, h5⟩ := tb_and g3
      obtain ⟨g5, h6⟩ := tb_and g4
      cases of_decide_eq_true h6
      have ex := of_decide_eq_true g5
      have hu : X.A.units + 64 < cLine := by have := o.hu; omega
      cases b with
      | true =>
        cases ex
        exact s_sset o.K (pe_sset o.calm hu (o.gl h5) (o.blt _ (by decide +kernel)) (o.gl h4) (o.blt _ (by decide +kernel)) (chE_ok o h2) (star_cons h3))
      | false =>
        cases ex
        exact s_sset o.K (pe_nset o.calm hu (o.gl h5) (o.blt _ (by decide +kernel)) (o.gl h4) (o.blt _ (by decide +kernel)) (chE_ok o h2) (star_cons h3))
    · cases h
  | .oeq ne (.cons ca (.cons cb .nil)), k, X, o, e, h => by
    unfold chE at h
    split at h
    · obtain ⟨g1, h2⟩ := tb_and h
      obtain ⟨g2, h3⟩ := tb_and g1
      cases of_decide_eq_true g2
      unfold chX at h2
      obtain ⟨h4, h5⟩ := tb_and h2
      obtain ⟨h6, h7⟩ := tb_and h4
      unfold chX at h5
      obtain ⟨h8, h9⟩ := tb_and h5
      obtain ⟨h10, h11⟩ := tb_and h8
      exact s_oeq o.K o.hu o.eqs ne (chE_ok o h7) (chE_ok o h11) (mark_ok h3)
    · cases h
  | .oeq ne .nil, k, X, o, e, h => by
    unfold chE at h
    split at h
    · obtain ⟨g1, h2⟩ := tb_and h
      unfold chX at h2
      cases h2
    · cases h
  | .oeq ne (.cons ca .nil), k, X, o, e, h => by
    unfold chE at h
    split at h
    · obtain ⟨g1, h2⟩ := tb_and h
      unfold chX at h2
      obtain ⟨h4, h5⟩ := tb_and h2
      unfold chX at h5
      cases h5
    · cases h
  | .oeq ne (.cons ca (.cons cb (.cons cd r))), k, X, o, e, h => by
    unfold chE at h
    split at h
    · obtain ⟨g1, h2⟩ := tb_and h
      unfold chX at h2
      obtain ⟨h4, h5⟩ := tb_and h2
      unfold chX at h5
      obtain ⟨h6, h7⟩ := tb_and h5
      unfold chX at h7
      cases h7
    · cases h
  | .teq ne ci (.cons ca (.cons cb .nil)), k, X, o, e, h => by
    unfold chE at h
    split at h
    · obtain ⟨g1, h2⟩ := tb_and h
      obtain ⟨g2, h3⟩ := tb_and g1
      cases of_decide_eq_true g2
      unfold chX at h2
      obtain ⟨h4, h5⟩ := tb_and h2
      obtain ⟨h6, h7⟩ := tb_and h4
      unfold chX at h5
      obtain ⟨h8, h9⟩ := tb_and h5
      obtain ⟨h10, h11⟩ := tb_and h8
      exact s_teq o.K o.hu o.eqs ci ne (chE_ok o h7) (chE_ok o h11) (mark_ok h3)
    · cases h
  | .teq ne ci .nil, k, X, o, e, h => by
    unfold chE at h
    split at h
    · obtain ⟨g1, h2⟩ := tb_and h
      unfold chX at h2
      cases h2
    · cases h
  | .teq ne ci (.cons ca .nil), k, X, o, e, h => by
    unfold chE at h
    split at h
    · obtain ⟨g1, h2⟩ := tb_and h
      unfold chX at h2
      obtain ⟨h4, h5⟩ := tb_and h2
      unfold chX at h5
      cases h5
    · cases h
  | .teq ne ci (.cons ca (.cons cb (.cons cd r))), k, X, o, e, h => by
    unfold chE at h
    split at h
    · obtain ⟨g1, h2⟩ := tb_and h
      unfold chX at h2
      obtain ⟨h4, h5⟩ := tb_and h2
      unfold chX at h5
      obtain ⟨h6, h7⟩ := tb_and h5
      unfold chX at h7
      cases h7
    · cases h
  | .dct t, k, X, o, e, h => by
    unfold chE at h
    split at h
    · cases t with
      | true => exact s_dct true pe_dnewT
      | false => exact s_dct false pe_dnewK
    · cases h
  | .dct1 t a b, k, X, o, e, h => by
    unfold chE at h
    split at h
    · obtain ⟨h1, h2⟩ := tb_and h
      exact s_dct1 o.hu t (chE_ok o h1) (chE_ok o h2)
    · cases h
  | .kidx a es, k, X, o, e, h => by
    unfold chE at h
    split at h
    · obtain ⟨h1, h2⟩ := tb_and h
      exact s_kidx o.hu (chE_ok o h1) (chX_ok o h2) nosl_tup
    · cases h
  | .kin neg es a, k, X, o, e, h => by
    unfold chE at h
    split at h
    · obtain ⟨h1, h2⟩ := tb_and h
      obtain ⟨h1, h3⟩ := tb_and h1
      obtain ⟨h1, h4⟩ := tb_and h1
      cases of_decide_eq_true h1
      exact s_kin o.hu (mark_ok h4) (chE_ok o h2) (chX_ok o h3)
    · cases h
  | .dget a b d, k, X, o, e, h => by
    unfold chE at h
    split at h
    · rename_i eo xn apos ek ex pos
      obtain ⟨h, h8⟩ := tb_and h
      obtain ⟨h, h7⟩ := tb_and h
      obtain ⟨h, h6⟩ := tb_and h
      obtain ⟨h, h5⟩ := tb_and h
      obtain ⟨h, h4⟩ := tb_and h
      obtain ⟨h, h3⟩ := tb_and h
      obtain ⟨h1, h2⟩ := tb_and h
      cases of_decide_eq_true h1
      have st : ([ek, ex] : List Expr).all noStar = true := by simp [h3, h4]
      exact s_dget o.hu (pe_dget2 (by have := o.hu; omega) (chE_ok o h6) (chE_ok o h7) (chE_ok o h8) ⟨base_ok h2, back_few st (by simp), h5, by rw [star_cons h3, star_cons h4]; rfl⟩)
    · cases h
  | .ixof a b, k, X, o, e, h => by
    unfold chE at h
    split at h
    · rename_i eo xn apos ex pos
      obtain ⟨h, h6⟩ := tb_and h
      obtain ⟨h, h5⟩ := tb_and h
      obtain ⟨h, h4⟩ := tb_and h
      obtain ⟨h, h3⟩ := tb_and h
      obtain ⟨h1, h2⟩ := tb_and h
      cases of_decide_eq_true h1
      have st : ([ex] : List Expr).all noStar = true := by simp [h3]
      exact s_ixof o.K (pe_bm PySem.F.plainAttrs_list PySem.F.slot_list_index PySem.F.type_list_index (L2.mt_indexD o.hu) (chE_ok o h5) (pa_cons (chE_ok o h6) pa_nil (star_cons h3)) (base_ok h2) (back_few st (by simp)) h4 (star_cons h3) (back_any (by simpa using st)))
    · cases h
theorem chX_ok : ∀ {es : CEs} {k : Bk} {X : Cx} (o : OkX c tb cl k X) {xs : List Expr}, chX tb k es xs = true → PA X xs (tX c tb.G cl es)
  | .nil, k, X, o, xs, h => by
    unfold chX at h
    cases xs with
    | nil => exact x_nil
    | cons _ _ => cases h
  | .cons e r, k, X, o, xs, h => by
    unfold chX at h
    cases xs with
    | nil => cases h
    | cons x xs =>
      obtain ⟨h1, h2⟩ := tb_and h
      obtain ⟨h1, h3⟩ := tb_and h1
      exact x_cons (chE_ok o h3) (chX_ok o h2) (star_cons h1)
theorem chL_ok : ∀ {es : CEs} {k : Bk} {X : Cx} (o : OkX c tb cl k X) {xs : List Expr}, chL tb k es xs = true → PA X xs (tL c tb.G cl es)
  | .nil, k, X, o, xs, h => by
    unfold chL at h
    cases xs with
    | nil => exact l_nil
    | cons _ _ => cases h
  | .cons e r, k, X, o, xs, h => by
    unfold chL at h
    cases xs with
    | nil => cases h
    | cons x xs =>
      obtain ⟨h1, h2⟩ := tb_and h
      obtain ⟨h1, h3⟩ := tb_and h1
      exact l_cons (chE_ok o h3) (chL_ok o h2) (star_cons h1)
theorem chT_ok : ∀ {t : CT} {k : Bk} {X : Cx} (o : OkX c tb cl k X) {e : Expr}, chT tb k t e = true → PT X e (tT c tb.G cl t)
  | .yes, k, X, o, e, h => by unfold chT at h; cases h
  | .e ce, k, X, o, e, h => by
    unfold chT at h
    split at h
    · obtain ⟨h1, h2⟩ := tb_and h
      split at h2
      · obtain ⟨eb, rfl, rfl, h3, h4, h5⟩ := ch_cmp h1
        exact t_cmp o.K o.hu (chE_ok o h4) (chE_ok o h5) (mark_ok h3)
      · obtain ⟨eb, ec, rfl, rfl, h3, h4, h5, h6⟩ := ch_chain h1
        exact t_chain o.K o.hu (chE_ok o h4) (chE_ok o h5) (chE_ok o h6) (by unfold lastMarks; unfold lastMarks; exact mark_ok h3)
      · obtain ⟨xs, n, pt, eb, rfl, rfl, rfl, h3, h4, h5⟩ := ch_kin h1
        exact t_kin o.hu (mark_ok h3) (chE_ok o h5) (chX_ok o h4)
      · obtain ⟨eb, rfl, rfl, h3, h4, h5⟩ := ch_oeq h1
        exact t_oeq o.K o.hu o.eqs _ (chE_ok o h4) (chE_ok o h5) (mark_ok h3)
      · obtain ⟨eb, rfl, rfl, h3, h4, h5⟩ := ch_teq h1
        exact t_teq o.K o.hu o.eqs _ _ (chE_ok o h4) (chE_ok o h5) (mark_ok h3)
      · cases h2
    · obtain ⟨h1, h2⟩ := tb_and h
      exact t_e (chE_ok o h2) (test_ok h1)
  | .and a b, k, X, o, e, h => by
    unfold chT at h
    split at h
    · split at h
      · obtain ⟨h1, h2⟩ := tb_and h
        exact (t_and (chT_ok o h1) (pw_and1 (chT_ok o h2))).pt
      · obtain ⟨h1, h2⟩ := tb_and h
        exact (t_and (chT_ok o h1) (pw_bool (chT_ok o h2))).pt
      · cases h
    · cases h
  | .or a b, k, X, o, e, h => by
    unfold chT at h
    split at h
    · split at h
      · obtain ⟨h1, h2⟩ := tb_and h
        exact (t_or (chT_ok o h1) (pw_or1 (chT_ok o h2))).pt
      · obtain ⟨h1, h2⟩ := tb_and h
        exact (t_or (chT_ok o h1) (pw_bool (chT_ok o h2))).pt
      · cases h
    · cases h
  | .not a, k, X, o, e, h => by
    unfold chT at h
    split at h
    · obtain ⟨h1, h2⟩ := tb_and h
      cases of_decide_eq_true h1
      exact t_not (chT_ok o h2)
    · cases h
theorem chI_ok : ∀ {it : CI} {k : Bk} {X : Cx} (o : OkX c tb cl k X) {tg e : Expr}, chI tb k it tg e = true → PI X tg e (tI c tb.G cl it)
  | .e ce, k, X, o, tg, e, h => by
    unfold chI at h
    exact i_e o.K (chE_ok o h)
  | .rng1 a, k, X, o, tg, e, h => by
    unfold chI at h
    split at h
    · obtain ⟨h1, h2⟩ := tb_and h
      obtain ⟨h1, h3⟩ := tb_and h1
      obtain ⟨h1, h4⟩ := tb_and h1
      cases of_decide_eq_true h1
      exact i_rng1 (pi_range1 (o.gl h4) (o.blt _ (by decide +kernel)) (pa_cons (chE_ok o h2) pa_nil (star_cons h3)) (star_cons h3))
    · cases h
  | .rng2 a b, k, X, o, tg, e, h => by
    unfold chI at h
    split at h
    · obtain ⟨h1, h2⟩ := tb_and h
      obtain ⟨h1, h3⟩ := tb_and h1
      obtain ⟨h1, h4⟩ := tb_and h1
      obtain ⟨h1, h5⟩ := tb_and h1
      obtain ⟨h1, h6⟩ := tb_and h1
      cases of_decide_eq_true h1
      exact i_rng2 (pi_range2 (o.gl h6) (o.blt _ (by decide +kernel)) (pa_cons (chE_ok o h3) (pa_cons (chE_ok o h2) pa_nil (star_cons h4)) (star_cons h5)) (by rw [star_cons h5, star_cons h4]; rfl) (star_cons h4))
    · cases h
  | .enum a, k, X, o, tg, e, h => by
    unfold chI at h
    split at h
    · obtain ⟨h1, h2⟩ := tb_and h
      obtain ⟨h1, h3⟩ := tb_and h1
      obtain ⟨h1, h4⟩ := tb_and h1
      cases of_decide_eq_true h1
      exact i_enum o.K (pi_enumA (o.gl h4) (o.blt _ (by decide +kernel)) (pa_cons (chE_ok o h2) pa_nil (star_cons h3)) (star_cons h3))
    · cases h
  | .zip a b, k, X, o, tg, e, h => by
    unfold chI at h
    split at h
    · obtain ⟨h1, h2⟩ := tb_and h
      obtain ⟨h1, h3⟩ := tb_and h1
      obtain ⟨h1, h4⟩ := tb_and h1
      obtain ⟨h1, h5⟩ := tb_and h1
      obtain ⟨h1, h6⟩ := tb_and h1
      cases of_decide_eq_true h1
      exact i_zip o.K (RZ.pi_zipA (o.gl h6) (o.blt _ (by decide +kernel)) (pa_cons (chE_ok o h3) (pa_cons (chE_ok o h2) pa_nil (star_cons h4)) (star_cons h5)) (star_cons h5) (back_any (by rw [List.all_cons, h4]; rfl)))
    · cases h
theorem chR_ok : ∀ {it : CI} {k : Bk} {X : Cx} (o : OkX c tb cl k X) {tg e : Expr}, tagRng it = true → chI tb k it tg e = true → ((∃ a, it = .rng1 a) ∨ ∃ a b, it = .rng2 a b) ∧ PRg X e (tR c tb.G cl it) ∧ noStar e = true
  | .rng1 a, k, X, o, tg, e, hr, h => by
    unfold chI at h
    split at h
    · obtain ⟨h1, h2⟩ := tb_and h
      obtain ⟨h1, h3⟩ := tb_and h1
      obtain ⟨h1, h4⟩ := tb_and h1
      cases of_decide_eq_true h1
      exact ⟨.inl ⟨a, rfl⟩, prg_1 (o.gl h4) (o.blt _ (by decide +kernel)) (chE_ok o h2) (star_cons h3), rfl⟩
    · cases h
  | .rng2 a b, k, X, o, tg, e, hr, h => by
    unfold chI at h
    split at h
    · obtain ⟨h1, h2⟩ := tb_and h
      obtain ⟨h1, h3⟩ := tb_and h1
      obtain ⟨h1, h4⟩ := tb_and h1
      obtain ⟨h1, h5⟩ := tb_and h1
      obtain ⟨h1, h6⟩ := tb_and h1
      cases of_decide_eq_true h1
      exact ⟨.inr ⟨a, b, rfl⟩, prg_2 (o.gl h6) (o.blt _ (by decide +kernel)) (chE_ok o h3) (chE_ok o h2) (star_cons h5) (star_cons h4) (back_any (by rw [List.all_cons, h4]; rfl)), rfl⟩
    · cases h
  | .e _, k, X, o, tg, e, hr, h => by cases hr
  | .enum _, k, X, o, tg, e, hr, h => by cases hr
  | .zip _ _, k, X, o, tg, e, hr, h => by cases hr
end
end
end Ev

/-! Ev, part N: a text is held against its evaluation's code: statements. -/
namespace Ev
open PySem L2 PyProof.Rows
def noComp : Expr → Bool
  | .ListComp _ _ _ _ => false
  | .SetComp _ _ _ _ => false
  | .DictComp _ _ _ _ _ => false
  | _ => true
theorem swaps_no {v : Expr} {t : Option Expr} {line : Nat} {env : Env} (h : noComp v = true) : swapsWith v t line env = pure false := by
  cases v <;> first | rfl | (cases h)
/-- whether a comprehension stores straight into its name -/
def swC (k : Bk) (x : Str) (py : Pos) (scope : Scope) (pos : Pos) : Bool := k.nm.lookup x == some NameKind.local && py.line == pos.line && !(scope.names.any fun (n, kd) => n == x && (kd == .local || kd == .cell))
theorem swaps_lc {k : Bk} {X : Cx} {c : Cn} {tb : Tb} {cl : Caller} (o : OkX c tb cl k X) {ee : Expr} {gs : List Comprehension} {scope : Scope} {pos py : Pos} {x : Str} {line : Nat} : swapsWith (.ListComp ee gs scope pos) (some (.Name x py)) line X.env = pure (swC k x py scope pos) := by
  have hb : X.env.blockKind = .function := by unfold Env.blockKind; rw [o.kind]; rfl
  have e : (ScopeKind.function == ScopeKind.function) = true := rfl
  have hk : X.env.kindOf x = k.nm.lookup x := by rw [← o.nm]; rfl
  unfold swapsWith swC
  simp only [hb, hk, e, Bool.true_and, Expr.pos]
def isTup : Expr → Bool
  | .Tuple _ _ _ => true
  | .List _ _ => true
  | _ => false
/-- whether stores of a tuple of displays come in order -/
def inOrder (k : Bk) (t v : Expr) : Bool := match t, v with
  | .Tuple ts _ _, .Tuple vs _ _ => vs.all (foldedForSure 8) || !(ts.all fun | .Name x _ => k.nm.lookup x == some NameKind.local | _ => false)
  | .Tuple _ _ _, _ => true
  | _, _ => false
theorem filterMap_lt {α β : Type} {f : α → Option β} {p : α → Bool} (h : ∀ a b, f a = some b → p a = true) : ∀ {l : List α}, l.all p = false → (l.filterMap f).length < l.length
  | [], e => by cases e
  | a :: l, e => by
    rw [List.all_cons] at e
    cases q : f a with
    | none =>
      rw [List.filterMap_cons_none q, List.length_cons]
      exact Nat.lt_succ_of_le (List.length_filterMap_le _ _)
    | some b =>
      rw [List.filterMap_cons_some q, List.length_cons, List.length_cons]
      rw [h a b q, Bool.true_and] at e
      exact Nat.succ_lt_succ (filterMap_lt h e)
theorem stores_in {k : Bk} {X : Cx} {c : Cn} {tb : Tb} {cl : Caller} (o : OkX c tb cl k X) {t v : Expr} (h : inOrder k t v = true) : swappedStores [t] v X.env = pure none := by
  unfold inOrder at h
  split at h
  · rename_i ts n1 p1 vs n2 p2
    unfold swappedStores
    dsimp only
    split
    · rfl
    · split
      · rfl
      · split
        · rfl
        · rename_i a1 a2 a3
          split
          · rfl
          · rename_i a4
            rcases Bool.or_eq_true_iff.mp h with z | z
            · exact absurd z a4
            · exfalso
              apply a3
              have hl := filterMap_lt (f := fun (e : Expr) => match e with
                | .Name id pos => if (X.env.kindOf id == some NameKind.local && pos.line == (ts.head?.map (·.pos.line)).getD 0) = true then some id else none
                | _ => none) (p := fun | .Name x _ => k.nm.lookup x == some NameKind.local | _ => false) (fun a b e => by
                  split at e
                  · rename_i id pos
                    split at e
                    · rename_i hc
                      have := (tb_and hc).1
                      have hk : X.env.kindOf id = k.nm.lookup id := by rw [← o.nm]; rfl
                      rw [hk] at this
                      exact this
                    · cases e
                  · cases e) (l := ts) (by simpa using z)
              have ne : ((ts.filterMap fun (e : Expr) => match e with
                | .Name id pos => if (X.env.kindOf id == some NameKind.local && pos.line == (ts.head?.map (·.pos.line)).getD 0) = true then some id else none
                | _ => none).length != ts.length) = true := by
                rw [bne_iff_ne]
                omega
              exact Bool.or_eq_true_iff.mpr (.inl ne)
  · rename_i ts n1 p1 hv
    cases v with
    | Tuple vs n p => exact absurd rfl (hv vs n p)
    | _ => rfl
  · cases h
def plainT : Expr → Bool
  | .Tuple _ _ _ => false
  | _ => true
/-- a comprehension's parts, held -/
theorem ch_lc {tb : Tb} {k : Bk} {own : List Nat} {tg : Tg} {it : CI} {t : CT} {elt : CE} {ee : Expr} {gs : List Comprehension} {scope : Scope} {pos : Pos} (h : chE tb k (.lc own tg it t elt) (.ListComp ee gs scope pos) = true) :
    ∃ tgt iter ifs, gs = [⟨tgt, iter, ifs, 0⟩] ∧ blkC k.N ⟨.function, k.nm, false, false, []⟩ scope (ownOf k own) = true ∧ (∀ i ∈ tg.slots, i ∈ own) ∧ noMark iter = true ∧ chI tb k it tgt iter = true ∧ tgE (blk1 k scope) tg tgt = true ∧
      (match ifs with
          | [] => isYes t
          | [x] => !isYes t && chT tb (blk1 k scope) t x
          | _ => false) = true ∧ chE tb (blk1 k scope) elt ee = true := by
  unfold chE at h
  split at h
  · rename_i heq
    cases heq
    obtain ⟨h, h8⟩ := tb_and h
    obtain ⟨h, h7⟩ := tb_and h
    obtain ⟨h, h6⟩ := tb_and h
    obtain ⟨h, h5⟩ := tb_and h
    obtain ⟨h, h4⟩ := tb_and h
    obtain ⟨h, h3⟩ := tb_and h
    obtain ⟨h1, h2⟩ := tb_and h
    cases of_decide_eq_true h1
    exact ⟨_, _, _, rfl, h2, fun i hi => by simpa using List.all_eq_true.mp h3 i hi, h4, h5, h6, h7, h8⟩
  · cases h
def lcE : CE → Bool
  | .lc _ _ _ _ _ => true
  | .frz (.lc _ _ _ _ _) => true
  | _ => false
def chM (tb : Tb) (k : Bk) : CEs → List Expr → Bool
  | .nil, xs => xs.isEmpty
  | .cons e r, xs => match xs with
    | x :: xs' => noStar x && chE tb k e x && chM tb k r xs'
    | [] => false
mutual
def chS (tb : Tb) (k : Bk) : CS → Stmt → Bool
  | .set i e, s => match s with
    | .Assign [.Name x py] v _ => decide (k.N[i]? = some x) && isLoc k x && chE tb k e v && (match v with
      | .ListComp _ _ sc pv => lcE e || !swC k x py sc pv
      | _ => noComp v)
    | _ => false
  | .setT tg e, s => match s with
    | .Assign [t] v _ => (match t with | .Tuple _ _ _ => true | _ => false) && inOrder k t v && tgE k tg t && chE tb k e v
    | _ => false
  | .setM is es, s => match s with
    | .Assign [.Tuple ts n1 p1] (.Tuple vs n2 p2) _ => decide (is.length ≤ 30) && chM tb k es vs && ((inOrder k (.Tuple ts n1 p1) (.Tuple vs n2 p2) && tgL k (tgsN is) ts) || (match is, ts, vs with
      | [i, j, l], [.Name x px, .Name y py, .Name z pz], [ea, eb, ec] => decide (i ≠ j) && decide (i ≠ l) && decide (j ≠ l) && decide (x ≠ y) && decide (x ≠ z) && decide (y ≠ z) && decide (k.N[i]? = some x) && decide (k.N[j]? = some y) && decide (k.N[l]? = some z) && decide (k.nm.lookup x = some .local) && decide (k.nm.lookup y = some .local) && decide (k.nm.lookup z = some .local) && (px.line == py.line) && (px.line == pz.line)
        && noStar ea && noStar eb && noStar ec && !([ea, eb, ec].all (foldedForSure 8)) && !([ea, eb, ec].all (constantsAlone 8))
      | _, _, _ => false))
    | _ => false
  | .par i j a b, s => match s with
    | .Assign [.Tuple [.Name x px, .Name y py] _ _] (.Tuple [ea, eb] _ _) _ => decide (i ≠ j) && decide (x ≠ y) && decide (k.N[i]? = some x) && decide (k.N[j]? = some y) && decide (k.nm.lookup x = some .local) && decide (k.nm.lookup y = some .local) && (px.line == py.line)
        && noStar ea && noStar eb && !([ea, eb].all (foldedForSure 8)) && !([ea, eb].all (constantsAlone 8)) && chE tb k a ea && chE tb k b eb
    | _ => false
  | .aug i op e, s => match s with
    | .AugAssign (.Name x _) op' v _ => decide (op = op') && decide (k.N[i]? = some x) && isLoc k x && chE tb k e v
    | _ => false
  | .fset i f e, s => match s with
    | .Assign [.Attribute (.Name x _) y _] v _ => decide (k.N[i]? = some x) && isVis k x && okName x && decide (tb.attrs[f]? = some y) && noComp v && chE tb k e v
    | _ => false
  | .iset i kx e, s => match s with
    | .Assign [.Subscript (.Name x px) sl _] v _ => decide (k.N[i]? = some x) && isVis k x && okName x && plainIx sl && noComp v && chE tb k kx sl && chE tb k e v
    | _ => false
  | .fiset i f kx e, s => match s with
    | .Assign [.Subscript (.Attribute (.Name x px) y py) sl _] v _ => decide (k.N[i]? = some x) && isVis k x && okName x && decide (tb.attrs[f]? = some y) && plainIx sl && noComp v && chE tb k kx sl && chE tb k e v
    | _ => false
  | .kset i fo es e, s => match fo, s with
    | none, .Assign [.Subscript (.Name x px) (.Tuple xs _ _) _] v _ => decide (k.N[i]? = some x) && isVis k x && okName x && noComp v && chX tb k es xs && chE tb k e v
    | some f, .Assign [.Subscript (.Attribute (.Name x px) y py) (.Tuple xs _ _) _] v _ => decide (k.N[i]? = some x) && isVis k x && okName x && decide (tb.attrs[f]? = some y) && noComp v && chX tb k es xs && chE tb k e v
    | _, _ => false
  | .bad, _ => true
  | .ex e, s => match s with
    | .Expr v _ => noComp v && chE tb k e v
    | _ => false
  | .ret e, s => match s with
    | .Return (some v) _ => chE tb k e v
    | _ => false
  | .retN, s => match s with
    | .Return none _ => true
    | _ => false
  | .pass, s => match s with
    | .Pass _ => true
    | _ => false
  | .brk, s => match s with
    | .Break _ => true
    | _ => false
  | .cont, s => match s with
    | .Continue _ => true
    | _ => false
  | .ite t a b, s => match s with
    | .If x xs ys _ => chT tb k t x && chSs tb k a xs && chSs tb k b ys
    | _ => false
  | .whl t b, s => match s with
    | .While x xs [] _ => chT tb k t x && chSs tb k b xs
    | _ => false
  | .loop tg it b, s => match s with
    | .For t iter xs [] _ => noMark iter && tgE k tg t && chI tb k it t iter && chSs tb k b xs
    | _ => false
def chSs (tb : Tb) (k : Bk) : CSs → List Stmt → Bool
  | .nil, ss => ss.isEmpty
  | .cons s r, ss => match ss with
    | x :: xs => chS tb k s x && chSs tb k r xs
    | [] => false
end
section
variable {c : Cn} {tb : Tb} {cl : Caller} {io : List Nat}
theorem assign_ix {o i : Expr} {pos : Pos} {env : Env} (h : plainIx i = true) : ∀ v, assign (.Subscript o i pos) env v = (do
      let ov ← holding [v] (eval o env)
      let iv ← holding [v, ov] (eval i env)
      standAt pos
      holding [v, ov, iv] (setItem ov iv v)
      release [v, ov, iv] []) := by
  intro v
  cases i <;> first | rfl | (cases h)
theorem one_asg {tg : Expr} {env : Env} (h : noStar tg = true) : (assignEach [tg] env).map (·.2) = [assign tg env] := by
  rw [asg_cons h]; rfl
theorem sole_no {t v : Expr} {line : Nat} {env : Env} (h : noComp v = true) : swapsWithSole [t] v line env = pure false := swaps_no h
theorem sole_tup {t v : Expr} {line : Nat} {env : Env} (h : (match t with | .Tuple _ _ _ => true | _ => false) = true) : swapsWithSole [t] v line env = pure false := by
  cases t <;> first | (cases h; done) | (cases v <;> rfl)
theorem stores_no {t v : Expr} {env : Env} (h : (match t with | .Tuple _ _ _ => false | .List _ _ => false | _ => true) = true) : swappedStores [t] v env = pure none := by
  cases t <;> first | rfl | (cases h)
theorem pv_k {k : Bk} {X : Cx} (o : OkX c tb cl k X) {i : Nat} {x : Str} {pos : Pos} (h1 : k.N[i]? = some x) (h2 : isVis k x = true) (h3 : okName x = true) : PE X (.Name x pos) (tVar i) := pe_var (by rw [o.N]; exact h1) (o.vis h2) (ok_debug h3) (ok_cd h3)
theorem not_eq {b : Bool} (h : (!b) = true) : b = false := by simpa using h
theorem par_stores {k : Bk} {X : Cx} (o : OkX c tb cl k X) {x y : Str} {px py pt pt2 : Pos} {ea eb : Expr} {k1 k2 : Nat} (h1 : k.nm.lookup x = some .local) (h2 : k.nm.lookup y = some .local) (hl : (px.line == py.line) = true) (ne : x ≠ y) (s1 : noStar ea = true) (s2 : noStar eb = true)
    (hf : [ea, eb].all (foldedForSure 8) = false) (hc : [ea, eb].all (constantsAlone 8) = false) : swappedStores [.Tuple [.Name x px, .Name y py] k1 pt] (.Tuple [ea, eb] k2 pt2) X.env = pure (some [x, y]) := by
  have kx : X.env.kindOf x = some .local := by rw [← h1, ← o.nm]; rfl
  have ky : X.env.kindOf y = some .local := by rw [← h2, ← o.nm]; rfl
  have hb : X.env.blockKind = .function := by unfold Env.blockKind; rw [o.kind]; rfl
  have hl' : py.line = px.line := (beq_iff_eq.mp hl).symm
  have nq : (y == x) = false := by simpa using fun z => ne z.symm
  unfold swappedStores
  dsimp only
  split
  · rename_i a
    simp [hb] at a
  · split
    · rename_i a
      obtain ⟨e, he, z⟩ := List.any_eq_true.mp a
      rcases List.mem_cons.mp he with rfl | he
      · cases e <;> first | (cases s1; done) | (cases z; done)
      · rcases List.mem_cons.mp he with rfl | he
        · cases e <;> first | (cases s2; done) | (cases z; done)
        · cases he
    · split
      · rename_i a
        simp [List.filterMap_cons, kx, ky, Expr.pos, hl', List.eraseDups_cons, nq] at a
      · split
        · rename_i a
          rw [hf] at a; cases a
        · split
          · rename_i a
            rw [hc] at a; cases a
          · simp [List.filterMap_cons, kx, ky, Expr.pos, hl']
theorem par3_stores {k : Bk} {X : Cx} (o : OkX c tb cl k X) {x y z : Str} {px py pz pt pt2 : Pos} {ea eb ec : Expr} {k1 k2 : Nat} (h1 : k.nm.lookup x = some .local) (h2 : k.nm.lookup y = some .local) (h3 : k.nm.lookup z = some .local) (hl : (px.line == py.line) = true) (hl2 : (px.line == pz.line) = true) (ne : x ≠ y) (ne2 : x ≠ z) (ne3 : y ≠ z) (s1 : noStar ea = true) (s2 : noStar eb = true) (s3 : noStar ec = true)
    (hf : [ea, eb, ec].all (foldedForSure 8) = false) (hc : [ea, eb, ec].all (constantsAlone 8) = false) : swappedStores [.Tuple [.Name x px, .Name y py, .Name z pz] k1 pt] (.Tuple [ea, eb, ec] k2 pt2) X.env = pure (some [x, y, z]) := by
  have kx : X.env.kindOf x = some .local := by rw [← h1, ← o.nm]; rfl
  have ky : X.env.kindOf y = some .local := by rw [← h2, ← o.nm]; rfl
  have kz : X.env.kindOf z = some .local := by rw [← h3, ← o.nm]; rfl
  have hb : X.env.blockKind = .function := by unfold Env.blockKind; rw [o.kind]; rfl
  have hl' : py.line = px.line := (beq_iff_eq.mp hl).symm
  have hl2' : pz.line = px.line := (beq_iff_eq.mp hl2).symm
  have nq : (y == x) = false := by simpa using fun z => ne z.symm
  have nq2 : (z == x) = false := by simpa using fun z => ne2 z.symm
  have nq3 : (z == y) = false := by simpa using fun z => ne3 z.symm
  unfold swappedStores
  dsimp only
  split
  · rename_i a
    simp [hb] at a
  · split
    · rename_i a
      obtain ⟨e, he, z⟩ := List.any_eq_true.mp a
      rcases List.mem_cons.mp he with rfl | he
      · cases e <;> first | (cases s1; done) | (cases z; done)
      · rcases List.mem_cons.mp he with rfl | he
        · cases e <;> first | (cases s2; done) | (cases z; done)
        · rcases List.mem_cons.mp he with rfl | he
          · cases e <;> first | (cases s3; done) | (cases z; done)
          · cases he
    · split
      · rename_i a
        simp [List.filterMap_cons, kx, ky, kz, Expr.pos, hl', hl2', List.eraseDups_cons, nq, nq2, nq3] at a
      · split
        · rename_i a
          rw [hf] at a; cases a
        · split
          · rename_i a
            rw [hc] at a; cases a
          · simp [List.filterMap_cons, kx, ky, kz, Expr.pos, hl', hl2']
theorem chM_ok : ∀ {es : CEs} {k : Bk} {X : Cx} (o : OkX c tb cl k X) {xs : List Expr}, chM tb k es xs = true → PA X xs (tMs c tb.G cl es)
  | .nil, k, X, o, xs, h => by
    unfold chM at h
    cases xs with
    | nil => exact m_nil
    | cons _ _ => cases h
  | .cons e r, k, X, o, xs, h => by
    unfold chM at h
    cases xs with
    | nil => cases h
    | cons x xs =>
      obtain ⟨h, h2⟩ := tb_and h
      obtain ⟨h1, h3⟩ := tb_and h
      exact m_cons (chE_ok o h3) (chM_ok o h2) (star_cons h1)
theorem k_setF {c : Cn} {G : GS} {cl : Caller} {X : Cx} {io : List Nat} {i : Nat} {a : CE} {st : Stmt} (h : PS X st (tS c G cl io (.set i a))) : PS X st (tS c G cl io (.set i (.frz a))) := ps_imp h fun D σ H q => by
  obtain ⟨F, Z, τ, A, fl, s, e, g⟩ := q
  unfold evS at e
  split at e
  · cases e
  rename_i nio
  split at e
  · cases e
  rename_i r τ1 e1
  unfold evE at e1
  split at e1
  · cases e1
  rename_i r0 τ0 e0
  cases e1
  have same : setl r0 = r0 → tS c G cl io (.set i a) D σ H := fun hr => by
    refine ⟨F, Z, τ, A, fl, s, ?_, g⟩
    unfold evS
    rw [if_neg nio, e0]
    rw [hr] at e
    exact e
  cases r0 with
  | d d => exact same rfl
  | pl j f => exact same rfl
  | m m0 =>
    have e' : some (Fl.nx (τ1.set i (some (.v (frz m0))))) = some fl := e
    cases e'
    refine ⟨F, Z, τ, A, .nx (τ1.set i (some m0)), s, ?_, fun σ' H' Z' A' zz st kp => ?_⟩
    · unfold evS
      rw [if_neg nio, e0]
      rfl
    · by_cases hi : i < τ1.length
      · have hs : slotM (τ1.set i (some m0)) i = some m0 := by
          unfold slotM
          rw [List.getElem?_set_self hi]
        obtain ⟨v, hv, _⟩ := st.own i m0 (List.getElem?_set_self hi)
        have he : esc false (τ1.set i (some m0)) (.pl i none) = some (frz m0, τ1.set i (some (.v (frz m0)))) := by
          unfold esc
          simp only [Bool.false_eq_true, if_false]
          unfold getP
          rw [hs]
          simp only [setP, List.set_set]
        obtain ⟨Z2, A2, po, _⟩ := esc_op st (o := .pl i none) hv he
        exact g σ' H' Z2 A2 (zz.trans po.zz) po.st kp
      · rw [List.set_eq_of_length_le (by omega)] at st g
        exact g σ' H' Z' A' zz st kp
mutual
theorem chS_ok : ∀ {s : CS} {k : Bk} {X : Cx} (o : OkX c tb cl k X) (np : PassesOwn (model X.prog X.w) X.A X.env X.xe) {st : Stmt}, chS tb k s st = true → PS X st (tS c tb.G cl io s)
  | .set i e, k, X, o, np, st, h => by
    unfold chS at h
    split at h
    · rename_i x py v pos
      obtain ⟨h, h4⟩ := tb_and h
      obtain ⟨h, h3⟩ := tb_and h
      obtain ⟨h1, h2⟩ := tb_and h
      have h1 := of_decide_eq_true h1
      obtain ⟨l1, l2⟩ := o.loc h2
      have plain : swapsWith v (some (.Name x py)) pos.line X.env = pure false → PS X (.Assign [.Name x py] v pos) (tS c tb.G cl io (.set i e)) := fun hs =>
        k_set (ps_set (by rw [o.N]; exact o.nd) (by rw [o.N]; exact h1) l1 (chE_ok o h3) hs l2)
      split at h4
      · rename_i ee gs scope pv _
        by_cases sw : swC k x py scope pv = true
        · have hlc : lcE e = true := by
            rcases Bool.or_eq_true_iff.mp h4 with z | z
            · exact z
            · rw [sw] at z; cases z
          have key : ∀ {own : List Nat} {tg : Tg} {it : CI} {t : CT} {elt : CE}, chE tb k (.lc own tg it t elt) (.ListComp ee gs scope pv) = true → PS X (.Assign [.Name x py] (.ListComp ee gs scope pv) pos) (tS c tb.G cl io (.set i (.lc own tg it t elt))) := by
            intro own tg it t elt h3
            obtain ⟨tgt, iter, ifs, rfl, h2', h3', h4', h5, h6, h7, h8⟩ := ch_lc h3
            have hb := blk_ok o h2'
            have ob : ∀ (s : Shared) (H : Hp) (C : Addr) (cc : List (Str × Addr)) (fp : List Addr), OkX c tb cl (blk1 k scope) (X.blk s H scope (compEnvC scope cc C X.env) fp) := fun s H C cc fp => o.blk hb.kind s H C cc fp
            have hyl : X.env.scope.names.lookup x = some .local := by
              rw [o.nm]
              unfold swC at sw
              exact beq_iff_eq.mp (tb_and (tb_and sw).1).1
            have hi := chI_ok o (tg := tgt) h5
            refine k_set (ps_imp (ps_setLc (X := X) (py := py) (pos := pv) (spos := pos) (i := i) o.calm (by rw [o.N]; exact o.nd) (by rw [o.N]; exact h1) hyl (by rw [swaps_lc o, sw]) hi hb (fun s H C cc fp => tgE_ok (ob s H C cc fp) h6) (fun s H C cc fp => chIf_ok h7 (fun x hx => chT_ok (ob s H C cc fp) hx)) (fun s H C cc fp => chE_ok (ob s H C cc fp) h8) (folded_ok h4')) fun D σ H q => ?_)
            obtain ⟨p, F, Z, τ, A, r, τ', s, e, kk⟩ := q
            have := lc_use (own := own) s h3' e kk
            rw [← own_snd k own] at this
            exact this
          cases e with
          | lc own tg it t elt => exact key h3
          | frz a =>
            cases a with
            | lc own tg it t elt => exact k_setF (key h3)
            | _ => cases hlc
          | _ => cases hlc
        · exact plain (by rw [swaps_lc o]; rw [Bool.not_eq_true] at sw; rw [sw])
      · exact plain (swaps_no h4)
    · cases h
  | .setT tg e, k, X, o, np, st, h => by
    unfold chS at h
    split at h
    · rename_i t v pos
      obtain ⟨h, h5⟩ := tb_and h
      obtain ⟨h, h4⟩ := tb_and h
      obtain ⟨h1, h2⟩ := tb_and h
      have ns : noStar t = true := by cases t <;> first | rfl | (cases h1)
      exact k_setT (ps_asg (chE_ok o h5) (tgE_ok o h4) (sole_tup h1) (stores_in o h2) (one_asg ns))
    · cases h
  | .setM is es, k, X, o, np, st, h => by
    unfold chS at h
    split at h
    · rename_i ts n1 p1 vs n2 p2 pos
      obtain ⟨h, h3⟩ := tb_and h
      obtain ⟨h1, h2⟩ := tb_and h
      have h1 := of_decide_eq_true h1
      rcases Bool.or_eq_true_iff.mp h3 with h3 | h3
      · obtain ⟨h4, h5⟩ := tb_and h3
        exact k_setM h1 (ps_asg (pe_tup (chM_ok o h2)) (tgE_ok o (t := .tup (tgsN is)) (e := .Tuple ts n1 p1) (by unfold tgE; exact h5)) (sole_no rfl) (stores_in o h4) (one_asg rfl))
      · split at h3
        · obtain ⟨h, g19⟩ := tb_and h3
          obtain ⟨h, g18⟩ := tb_and h
          obtain ⟨h, g17⟩ := tb_and h
          obtain ⟨h, g16⟩ := tb_and h
          obtain ⟨h, g15⟩ := tb_and h
          obtain ⟨h, g14⟩ := tb_and h
          obtain ⟨h, g13⟩ := tb_and h
          obtain ⟨h, g12⟩ := tb_and h
          obtain ⟨h, g11⟩ := tb_and h
          obtain ⟨h, g10⟩ := tb_and h
          obtain ⟨h, g9⟩ := tb_and h
          obtain ⟨h, g8⟩ := tb_and h
          obtain ⟨h, g7⟩ := tb_and h
          obtain ⟨h, g6⟩ := tb_and h
          obtain ⟨h, g5⟩ := tb_and h
          obtain ⟨h, g4⟩ := tb_and h
          obtain ⟨h, g3⟩ := tb_and h
          obtain ⟨g1, g2⟩ := tb_and h
          have g10 := of_decide_eq_true g10
          have g11 := of_decide_eq_true g11
          have g12 := of_decide_eq_true g12
          exact k_setM3 (ps_par3 o.calm (by rw [o.N]; exact o.nd) (by rw [o.N]; exact of_decide_eq_true g7) (by rw [o.N]; exact of_decide_eq_true g8) (by rw [o.N]; exact of_decide_eq_true g9) (of_decide_eq_true g1) (of_decide_eq_true g2) (of_decide_eq_true g3) (by rw [o.nm]; exact g10) (by rw [o.nm]; exact g11) (by rw [o.nm]; exact g12)
            (chM_ok o h2) (par3_stores o g10 g11 g12 g13 g14 (of_decide_eq_true g4) (of_decide_eq_true g5) (of_decide_eq_true g6) g15 g16 g17 (not_eq g18) (not_eq g19)))
        · cases h3
    · cases h
  | .par i j a b, k, X, o, np, st, h => by
    unfold chS at h
    split at h
    · obtain ⟨h, h13⟩ := tb_and h
      obtain ⟨h, h12⟩ := tb_and h
      obtain ⟨h, h11⟩ := tb_and h
      obtain ⟨h, h10⟩ := tb_and h
      obtain ⟨h, h9⟩ := tb_and h
      obtain ⟨h, h8⟩ := tb_and h
      obtain ⟨h, h7⟩ := tb_and h
      obtain ⟨h, h6⟩ := tb_and h
      obtain ⟨h, h5⟩ := tb_and h
      obtain ⟨h, h4⟩ := tb_and h
      obtain ⟨h, h3⟩ := tb_and h
      obtain ⟨h1, h2⟩ := tb_and h
      have h5 := of_decide_eq_true h5
      have h6 := of_decide_eq_true h6
      exact k_par (ps_par o.calm (by rw [o.N]; exact o.nd) (by rw [o.N]; exact of_decide_eq_true h3) (by rw [o.N]; exact of_decide_eq_true h4) (of_decide_eq_true h1) (by rw [o.nm]; exact h5) (by rw [o.nm]; exact h6)
        (x_cons (chE_ok o h12) (x_cons (chE_ok o h13) x_nil (star_cons h9)) (star_cons h8)) (par_stores o h5 h6 h7 (of_decide_eq_true h2) h8 h9 (not_eq h10) (not_eq h11)))
    · cases h
  | .aug i op e, k, X, o, np, st, h => by
    unfold chS at h
    split at h
    · obtain ⟨h, h4⟩ := tb_and h
      obtain ⟨h, h3⟩ := tb_and h
      obtain ⟨h1, h2⟩ := tb_and h
      cases of_decide_eq_true h1
      obtain ⟨l1, l2⟩ := o.loc h3
      exact k_aug (ps_aug (by rw [o.N]; exact o.nd) (by rw [o.N]; exact of_decide_eq_true h2) l1 (chE_ok o h4) (ip_aug _) l2)
    · cases h
  | .fset i f e, k, X, o, np, st, h => by
    unfold chS at h
    split at h
    · obtain ⟨h, h6⟩ := tb_and h
      obtain ⟨h, h5⟩ := tb_and h
      obtain ⟨h, h4⟩ := tb_and h
      obtain ⟨h, h3⟩ := tb_and h
      obtain ⟨h1, h2⟩ := tb_and h
      have ex := of_decide_eq_true h4
      exact k_fset o.K (by rw [o.attrs]; exact ex) (fun ci kk hk hf => o.fok _ ci kk hk hf) (o.fld _ _ ex) (ps_fld (pv_k o (of_decide_eq_true h1) h2 h3) (chE_ok o h6) (swaps_no h5))
    · cases h
  | .iset i kx e, k, X, o, np, st, h => by
    unfold chS at h
    split at h
    · obtain ⟨h, h7⟩ := tb_and h
      obtain ⟨h, h6⟩ := tb_and h
      obtain ⟨h, h5⟩ := tb_and h
      obtain ⟨h, h4⟩ := tb_and h
      obtain ⟨h, h3⟩ := tb_and h
      obtain ⟨h1, h2⟩ := tb_and h
      exact k_iset (ps_asg (chE_ok o h7) (pg_sub (s_s (pv_k o (of_decide_eq_true h1) h2 h3)) (chE_ok o h6) (set_st o.hu) (assign_ix h4)) (sole_no h5) (stores_no rfl) (one_asg rfl))
    · cases h
  | .fiset i f kx e, k, X, o, np, st, h => by
    unfold chS at h
    split at h
    · obtain ⟨h, h8⟩ := tb_and h
      obtain ⟨h, h7⟩ := tb_and h
      obtain ⟨h, h6⟩ := tb_and h
      obtain ⟨h, h5⟩ := tb_and h
      obtain ⟨h, h4⟩ := tb_and h
      obtain ⟨h, h3⟩ := tb_and h
      obtain ⟨h1, h2⟩ := tb_and h
      have ex := of_decide_eq_true h4
      exact k_fiset (ps_asg (chE_ok o h8) (pg_sub (s_fld o.K (by rw [o.attrs]; exact ex) (o.fld _ _ ex) (s_s (pv_k o (of_decide_eq_true h1) h2 h3)) (base_ok rfl)) (chE_ok o h7) (set_st o.hu) (assign_ix h5)) (sole_no h6) (stores_no rfl) (one_asg rfl))
    · cases h
  | .kset i fo es e, k, X, o, np, st, h => by
    unfold chS at h
    split at h
    · obtain ⟨h, h6⟩ := tb_and h
      obtain ⟨h, h5⟩ := tb_and h
      obtain ⟨h, h4⟩ := tb_and h
      obtain ⟨h, h3⟩ := tb_and h
      obtain ⟨h1, h2⟩ := tb_and h
      exact k_kset (f := none) (ps_asg (chE_ok o h6) (pg_sub (s_s (pv_k o (of_decide_eq_true h1) h2 h3)) (pe_tup (chX_ok o h5)) (set_st o.hu) (assign_ix rfl)) (sole_no h4) (stores_no rfl) (one_asg rfl))
    · obtain ⟨h, h7⟩ := tb_and h
      obtain ⟨h, h6⟩ := tb_and h
      obtain ⟨h, h5⟩ := tb_and h
      obtain ⟨h, h4⟩ := tb_and h
      obtain ⟨h, h3⟩ := tb_and h
      obtain ⟨h1, h2⟩ := tb_and h
      have ex := of_decide_eq_true h4
      exact k_kset (f := some _) (ps_asg (chE_ok o h7) (pg_sub (s_fld o.K (by rw [o.attrs]; exact ex) (o.fld _ _ ex) (s_s (pv_k o (of_decide_eq_true h1) h2 h3)) (base_ok rfl)) (pe_tup (chX_ok o h6)) (set_st o.hu) (assign_ix rfl)) (sole_no h5) (stores_no rfl) (one_asg rfl))
    · cases h
  | .bad, k, X, o, np, st, h => k_bad
  | .ex e, k, X, o, np, st, h => by
    unfold chS at h
    split at h
    · obtain ⟨h1, h2⟩ := tb_and h
      exact k_ex (ps_expr (chE_ok o h2) (swaps_no h1))
    · cases h
  | .ret e, k, X, o, np, st, h => by
    unfold chS at h
    split at h
    · exact k_ret (ps_ret (chE_ok o h))
    · cases h
  | .retN, k, X, o, np, st, h => by
    unfold chS at h
    split at h
    · exact k_retN ps_retN
    · cases h
  | .pass, k, X, o, np, st, h => by
    unfold chS at h
    split at h
    · exact k_pass ps_pass
    · cases h
  | .brk, k, X, o, np, st, h => by
    unfold chS at h
    split at h
    · exact k_brk ps_break
    · cases h
  | .cont, k, X, o, np, st, h => by
    unfold chS at h
    split at h
    · exact k_cont ps_continue
    · cases h
  | .ite t a b, k, X, o, np, st, h => by
    unfold chS at h
    split at h
    · obtain ⟨h, h3⟩ := tb_and h
      obtain ⟨h1, h2⟩ := tb_and h
      exact k_ite (ps_if (chT_ok o h1) (chSs_ok o np h2) (chSs_ok o np h3))
    · cases h
  | .whl t b, k, X, o, np, st, h => by
    unfold chS at h
    split at h
    · obtain ⟨h1, h2⟩ := tb_and h
      exact k_whl (ps_while np (chT_ok o h1) (chSs_ok o np h2))
    · cases h
  | .loop tg it b, k, X, o, np, st, h => by
    unfold chS at h
    split at h
    · obtain ⟨h, h4⟩ := tb_and h
      obtain ⟨h, h3⟩ := tb_and h
      obtain ⟨h1, h2⟩ := tb_and h
      exact k_loop (ps_for np o.calm (chI_ok o h3) (tgE_ok o h2) (chSs_ok o np h4) (folded_ok h1))
    · cases h
theorem chSs_ok : ∀ {s : CSs} {k : Bk} {X : Cx} (o : OkX c tb cl k X) (np : PassesOwn (model X.prog X.w) X.A X.env X.xe) {ss : List Stmt}, chSs tb k s ss = true → PSs X ss (tSs c tb.G cl io s)
  | .nil, k, X, o, np, ss, h => by
    unfold chSs at h
    cases ss with
    | nil => exact k_nil
    | cons _ _ => cases h
  | .cons s r, k, X, o, np, ss, h => by
    unfold chSs at h
    cases ss with
    | nil => cases h
    | cons x xs =>
      obtain ⟨h1, h2⟩ := tb_and h
      exact k_cons (chS_ok o np h1) (chSs_ok o np h2)
end
end
end Ev

/-! Ev, part O: defs, by induction on how deep they call. -/
namespace Ev
open PySem L2 PyProof.Rows
theorem bt_false (t : Ty) (C : Addr) : (PySem.fastBuiltinMro t.nm).map (·.contains (Value.ref C)) = some false := by
  have go : ∀ {T : String} {l : List Value}, PySem.fastBuiltinMro T = some l → (l.all fun v => match v with | .type _ => true | _ => false) = true → (PySem.fastBuiltinMro T).map (·.contains (Value.ref C)) = some false := fun {T l} e h => by
    rw [e, Option.map_some]
    congr 1
    rw [Bool.eq_false_iff]
    intro hc
    have hm := List.contains_iff_mem.mp hc
    have := List.all_eq_true.mp h _ hm
    cases this
  cases t
  · exact go (l := [.type "NoneType", .type "object"]) (by decide +kernel) rfl
  · exact go (l := [.type "bool", .type "int", .type "object"]) (by decide +kernel) rfl
  · exact go (l := [.type "int", .type "object"]) (by decide +kernel) rfl
  · exact go (l := [.type "str", .type "object"]) (by decide +kernel) rfl
  · exact go (l := [.type "list", .type "object"]) (by decide +kernel) rfl
  · exact go (l := [.type "tuple", .type "object"]) (by decide +kernel) rfl
  · exact go (l := [.type "dict", .type "object"]) (by decide +kernel) rfl
theorem kit_ref {K : PySem.W.Frag} {C : Addr} {t : Value} {r b : Bool} (ht : PySem.W.typeIn K (.ref C) = some (.type "type")) (hm : PySem.W.mroIn K C (.type "object") = some b) (hne : (t == Value.ref C) = false) (hs : PySem.W.subIn K t (.ref C) = some r) : PySem.W.kitOne K t (.ref C) = some r := by
  have hc : (PySem.W.clsIn K C).isSome = true := by
    obtain ⟨cd, a, _⟩ := Option.bind_eq_some_iff.mp hm
    rw [a]; rfl
  unfold PySem.W.kitOne
  rw [hne]
  simp only [Bool.false_eq_true, if_false]
  unfold PySem.W.kitCls
  simp only
  rw [hc, ht]
  simp only [Bool.true_and, beq_self_eq_true, if_true]
  exact hs
theorem isC_mk {K : PySem.W.Frag} {cls : List (Nat × Addr)} {ci : Nat} {C : Addr} (cl : Cls K C) (at_ : PySem.W.findIn K (.ref C) "__class__" = some (some (.builtin "object.__class__"))) (gt : PySem.W.specialIn K (.builtin "object.__class__") "__get__" = some (some (.builtin "getset_descriptor.__get__")))
    (tk : PySem.W.takesIn K (.builtin "object.__class__") = some true) (mr : PySem.W.mroIn K C (.type "object") = some true) (ty : PySem.W.typeIn K (.ref C) = some (.type "type")) (tb : ∀ t : Ty, PySem.W.mroIn K C (.type t.nm) = some false) (self : PySem.W.mroIn K C (.ref C) = some true)
    (cc : ∀ q ∈ cls, (q.1 = ci ∧ q.2 = C) ∨ ((q.1 == ci) = false ∧ PySem.W.mroIn K C (.ref q.2) = some false ∧ PySem.W.typeIn K (.ref q.2) = some (.type "type") ∧ PySem.W.mroIn K q.2 (.type "object") = some true)) : IsC K cls ci C where
  cl := cl
  at_ := at_
  gt := gt
  tk := tk
  mr := mr
  bt := fun t => kit_ref ty mr rfl (bt_false t C)
  tb := fun t => by
    unfold PySem.W.kitOne
    have e : (Value.ref C == Value.type t.nm) = false := rfl
    rw [e]
    simp only [Bool.false_eq_true, if_false]
    have m : PySem.W.kitMeta t.nm = true := by cases t <;> decide +kernel
    unfold PySem.W.kitCls
    simp only
    rw [m]
    simp only [if_true]
    exact tb t
  cc := fun q hq => by
    rcases cc q hq with ⟨h1, h2⟩ | ⟨h1, h2, h3, h4⟩
    · rw [h1, h2]
      have e : (ci == ci) = true := by simp
      rw [e]
      unfold PySem.W.kitOne
      rw [beq_self_eq_true]
      simp only [if_true]
    · rw [h1]
      refine kit_ref h3 h4 ?_ h2
      by_cases z : C = q.2
      · rw [← z, self] at h2; cases h2
      · simpa using z
theorem outs_spec {io : List Nat} : ∀ {k : Nat} {as : List M} {τ : T} {os : List M}, outs io k as τ = some os → os.length = as.length ∧ ∀ (j : Nat) (a : M), as[j]? = some a → (∃ d, a = .v d ∧ os[j]? = some (.v d)) ∨ (isV a = false ∧ io.contains (k + j) = true ∧ ∃ m, τ[j]? = some (some m) ∧ os[j]? = some m)
  | k, [], τ, os, h => by
    simp only [outs] at h
    cases h
    exact ⟨rfl, fun j a e => by simp at e⟩
  | k, a :: as, [], os, h => by
    cases a <;> simp [outs] at h
  | k, a :: as, t :: τ, os, h => by
    have tail : ∀ {x : M} {os' : List M}, outs io (k + 1) as τ = some os' → os = x :: os' → ((∃ d, a = .v d ∧ x = .v d) ∨ (isV a = false ∧ io.contains k = true ∧ t = some x)) → os.length = (a :: as).length ∧ ∀ (j : Nat) (b : M), (a :: as)[j]? = some b → (∃ d, b = .v d ∧ os[j]? = some (.v d)) ∨ (isV b = false ∧ io.contains (k + j) = true ∧ ∃ m, (t :: τ)[j]? = some (some m) ∧ os[j]? = some m) := by
      intro x os' e1 e2 e3
      subst e2
      obtain ⟨l, sp⟩ := outs_spec e1
      refine ⟨by simp [l], fun j b e => ?_⟩
      cases j with
      | zero =>
        have : a = b := by simpa using e
        subst this
        rcases e3 with ⟨d, q1, q2⟩ | ⟨q1, q2, q3⟩
        · exact .inl ⟨d, q1, by rw [q2]; rfl⟩
        · exact .inr ⟨q1, q2, x, by rw [q3]; rfl, rfl⟩
      | succ j =>
        rcases sp j b (by simpa using e) with ⟨d, q1, q2⟩ | ⟨q1, q2, m, q3, q4⟩
        · exact .inl ⟨d, q1, by simpa using q2⟩
        · exact .inr ⟨q1, by rw [show k + (j + 1) = k + 1 + j by omega]; exact q2, m, by simpa using q3, by simpa using q4⟩
    cases a with
    | v d =>
      simp only [outs] at h
      cases e1 : outs io (k + 1) as τ with
      | none => rw [e1] at h; cases h
      | some os' =>
        rw [e1] at h
        cases h
        exact tail e1 rfl (.inl ⟨d, rfl, rfl⟩)
    | lst xs =>
      cases t with
      | none => simp [outs] at h
      | some m =>
        simp only [outs] at h
        split at h
        · rename_i hc
          cases e1 : outs io (k + 1) as τ with
          | none => rw [e1] at h; cases h
          | some os' =>
            rw [e1] at h
            cases h
            exact tail e1 rfl (.inr ⟨rfl, hc, rfl⟩)
        · cases h
    | dK ks xs =>
      cases t with
      | none => simp [outs] at h
      | some m =>
        simp only [outs] at h
        split at h
        · rename_i hc
          cases e1 : outs io (k + 1) as τ with
          | none => rw [e1] at h; cases h
          | some os' =>
            rw [e1] at h
            cases h
            exact tail e1 rfl (.inr ⟨rfl, hc, rfl⟩)
        · cases h
    | dT ks xs =>
      cases t with
      | none => simp [outs] at h
      | some m =>
        simp only [outs] at h
        split at h
        · rename_i hc
          cases e1 : outs io (k + 1) as τ with
          | none => rw [e1] at h; cases h
          | some os' =>
            rw [e1] at h
            cases h
            exact tail e1 rfl (.inr ⟨rfl, hc, rfl⟩)
        · cases h
    | ins cc fs =>
      cases t with
      | none => simp [outs] at h
      | some m =>
        simp only [outs] at h
        split at h
        · rename_i hc
          cases e1 : outs io (k + 1) as τ with
          | none => rw [e1] at h; cases h
          | some os' =>
            rw [e1] at h
            cases h
            exact tail e1 rfl (.inr ⟨rfl, hc, rfl⟩)
        · cases h
section
variable {c : Cn} {F Z H : Hp} {σ : L2.St} {τ : T} {A : Nat → List Addr}
theorem Sta.ext (s : Sta c F Z H σ τ A) (n : Nat) : Sta c F Z H (σ ++ List.replicate n none) (τ ++ List.replicate n none) A := by
  refine ⟨s.fh, s.zh, s.fz, by simp [s.len], fun i m e => ?_, s.nd, s.dj, s.fr, s.tz⟩
  by_cases l : i < τ.length
  · rw [List.getElem?_append_left l] at e
    obtain ⟨v, e1, q⟩ := s.own i m e
    exact ⟨v, by rw [List.getElem?_append_left (by rw [← s.len]; exact l)]; exact e1, q⟩
  · rw [List.getElem?_append_right (by omega), List.getElem?_replicate] at e
    split at e <;> cases e
/-- the body's way, from what the def promises -/
theorem spC_body {G : GS} {n f : Nat} {fn : Fn} {N : List Str} {vs : List V} {Q : VK} {E : XK} (hf : G.fns.lookup f = some fn) (hn : fn.ns = N.length) (h : spC c (callN G (n + 1)) f vs H Q E) :
    tSs c G (callN G n) fn.io fn.body { nx := fun _ H' => Q .non H', rt := Q } (L2.start N vs) H := by
  obtain ⟨F, Z, args, A, out, os, s, e, k⟩ := h
  unfold callN at e
  rw [hf] at e
  simp only at e
  split at e
  · rename_i hl
    have la : args.length = vs.length := by have := s.len; simpa using this
    have s0 := s.ext (fn.ns - fn.np)
    have es : (vs.map some ++ List.replicate (fn.ns - fn.np) none : L2.St) = L2.start N vs := by
      unfold L2.start
      rw [hn, ← hl.1, la]
    rw [es] at s0
    have fin : ∀ {x : V} {σ' : L2.St} {H' Z' : Hp} {A' : Nat → List Addr} {B : List Addr} {τ' : T} {m : M}, Same Z Z' → Sta c F Z' H' σ' τ' A' → Kp fn.io (L2.start N vs) σ' → Res c F Z' H' σ' τ' A' (.m m) x B → outs fn.io 0 args τ' = some os → m = out → Q x H' := by
      intro x σ' H' Z' A' B τ' m zz s' kp re eo em
      subst em
      obtain ⟨lo, sp⟩ := outs_spec eo
      let A2 : Nat → List Addr := fun j => if (args[j]?).any (fun a => !isV a) = true then A' j else []
      have sub : ∀ j a, a ∈ A2 j → a ∈ A' j := fun j a ha => by
        have ha' : a ∈ (if (args[j]?).any (fun a => !isV a) = true then A' j else []) := ha
        by_cases z : (args[j]?).any (fun a => !isV a) = true
        · rw [if_pos z] at ha'; exact ha'
        · rw [if_neg z] at ha'; cases ha'
      refine k x H' Z' A2 B zz ⟨s'.fh, s'.zh, s'.fz, by simp [lo, la], fun j m' e => ?_, fun j => ?_, fun i j a h1 h2 => s'.dj i j a (sub i a h1) (sub j a h2), fun j a ha => s'.fr j a (sub j a ha), s'.tz⟩ ⟨re.rr, re.nd, fun i a ha => re.dj i a (sub i a ha), re.fr⟩
      · obtain ⟨mo, e1, e2⟩ := getMap e
        cases e2
        have lj : j < args.length := by rw [← lo]; exact (List.getElem?_eq_some_iff.mp e1).1
        obtain ⟨a, ea⟩ : ∃ a, args[j]? = some a := ⟨args[j], by simp⟩
        obtain ⟨v, hv, o⟩ := s.own j a (by rw [List.getElem?_map, ea]; rfl)
        rcases sp j a ea with ⟨d, rfl, q2⟩ | ⟨q1, q2, m2, q3, q4⟩
        · rw [e1] at q2
          cases q2
          refine ⟨v, hv, ?_⟩
          have : A2 j = [] := by show (if _ then _ else _) = _; rw [ea]; rfl
          rw [this]
          exact ⟨rfl, Rep.mono zz _ _ o.2⟩
        · rw [e1] at q4
          cases q4
          obtain ⟨v', hv', o'⟩ := s'.own j _ q3
          have : σ'[j]? = (L2.start N vs)[j]? := kp j (by simpa using q2)
          rw [this] at hv'
          have hst : (L2.start N vs)[j]? = (vs.map some)[j]? := by
            unfold L2.start
            rw [List.getElem?_append_left (by rw [List.length_map, ← la]; exact lj)]
          rw [hst, hv] at hv'
          cases hv'
          refine ⟨v, hv, ?_⟩
          have : A2 j = A' j := by show (if _ then _ else _) = _; rw [ea]; simp [q1]
          rw [this]
          exact o'
      · show (if (args[j]?).any (fun a => !isV a) = true then A' j else []).Nodup
        by_cases z : (args[j]?).any (fun a => !isV a) = true
        · rw [if_pos z]; exact s'.nd j
        · rw [if_neg z]; exact List.nodup_nil
    split at e
    · rename_i m τ' e1
      cases eo : outs fn.io 0 args τ' with
      | none => rw [eo] at e; cases e
      | some os' =>
        rw [eo] at e
        cases e
        exact ⟨F, Z, _, A, .ret _ τ', s0, e1, fun x σ' H' Z' A' B zz s' kp re => fin zz s' kp re eo rfl⟩
    · rename_i τ' e1
      cases eo : outs fn.io 0 args τ' with
      | none => rw [eo] at e; cases e
      | some os' =>
        rw [eo] at e
        cases e
        exact ⟨F, Z, _, A, .nx τ', s0, e1, fun σ' H' Z' A' zz s' kp => fin (B := []) (m := .v .non) zz s' kp ⟨⟨rfl, rfl⟩, List.nodup_nil, fun _ _ _ h => (by cases h), fun _ h => by cases h⟩ eo rfl⟩
    · cases e
  · cases e
end
/-- whether a def may call and tell a repr: all but the classes' own == -/
def Tb.full (tb : Tb) (f : Nat) : Bool := !(tb.G.cls.any fun p => p.2.eq == some f)
theorem Tb.leaf (tb : Tb) {ci : Nat} {kk : Cl} {f : Nat} (h : tb.G.cls.lookup ci = some kk) (e : kk.eq = some f) : tb.full f = false := by
  unfold Tb.full
  rw [Bool.not_eq_false', List.any_eq_true]
  exact ⟨(ci, kk), mem_of_lookup h, by rw [e]; exact beq_self_eq_true _⟩
/-- what the written part says of the text's defs and classes -/
structure Txt (K : PySem.W.Frag) (mg : Str → Option Value) (c : Cn) (tb : Tb) (fa : Nat → Addr) (fd : Nat → FuncData) (ps : Nat → List Str) : Prop where
  cK : c.K = K
  attrs : c.attrs = tb.attrs
  call : ∀ (f : Nat) (x : Str), tb.fn.lookup f = some x → (tb.G.fns.lookup f).isSome = true ∧ mg x = some (.ref (fa f))
  bind : ∀ (f : Nat) (fn : Fn), tb.G.fns.lookup f = some fn → PySem.W.keepIn K (.ref (fa f)) = true ∧ Binds K (fd f) (ps f) []
  make : ∀ (ci : Nat) (x : Str) (kk : Cl), tb.cls.lookup ci = some x → tb.G.cls.lookup ci = some kk → ∃ C, c.cls.lookup ci = some C ∧ Mk K C (fa kk.init) ∧ mg x = some (.ref C) ∧ (tb.G.fns.lookup kk.init).isSome = true
  meth : ∀ (ci : Nat) (kk : Cl) (m : Nat) (x : Str) (f : Nat), tb.G.cls.lookup ci = some kk → kk.ms.lookup m = some f → tb.attrs[m]? = some x → ∃ C, c.cls.lookup ci = some C ∧ Cls K C ∧ Meth K C x (fa f) ∧ (tb.G.fns.lookup f).isSome = true
  blt : ∀ x ∈ bltNames, mg x = none
  eqs : ∀ (ci : Nat) (kk : Cl) (f : Nat), tb.G.cls.lookup ci = some kk → kk.eq = some f → ∃ C, c.cls.lookup ci = some C ∧ OwnE K C (fa f) ∧ (tb.G.fns.lookup f).isSome = true
  glob : ∀ p ∈ tb.cons, ∃ d u v, tb.G.consts[p.2]? = some d ∧ mg p.1 = some u ∧ RelV v u ∧ ∀ Z, Rep c Z d v
  fld : ∀ (f : Nat) (x : Str), tb.attrs[f]? = some x → ∀ (ci : Nat) (C : Addr), c.cls.lookup ci = some C → Cls K C ∧ (c.fok ci f = true → NoAttr K C x)
  fok : ∀ (f ci : Nat) (kk : Cl), tb.G.cls.lookup ci = some kk → kk.fl.contains f = true → c.fok ci f = true
/-- a def of the text -/
structure DefAt (K : PySem.W.Frag) (tb : Tb) (full : Bool) (fn : Fn) (fa : Addr) (fd : FuncData) (ps : List Str) : Prop where
  ex : ∃ (name qual : Str) (st : Stmt) (N : List Str), Fun K name qual st fa fd ∧ FnScope N ps (defScope st) ∧ fn.ns = N.length ∧ fn.np = ps.length ∧ chSs tb ⟨N, (defScope st).names, true, [], full⟩ fn.body (defBody st) = true
theorem fns_ok {P : Program} {w : World} {K : PySem.W.Frag} {mg : Str → Option Value} {base : Heap} {c : Cn} {tb : Tb} {fa : Nat → Addr} {fd : Nat → FuncData} {ps : Nat → List Str} (T : Txt K mg c tb fa fd ps)
    (D : ∀ (f : Nat) (fn : Fn), tb.G.fns.lookup f = some fn → DefAt K tb (tb.full f) fn (fa f) (fd f) (ps f)) :
    ∀ (n f : Nat) (fn : Fn), tb.G.fns.lookup f = some fn → FnR (tb.full f) P w K mg base CX0 (2 * n + 1) (fa f) (fd f) (ps f) (spC c (callN tb.G n) f)
  | 0, f, fn, hf => by
    refine ⟨fun vs H Q E h => ?_, fun A outer s H args us vs Q E hg hr he hb hv h => ?_⟩
    · obtain ⟨_, _, _, _, _, _, _, e, _⟩ := h
      unfold callN at e
      cases e
    · obtain ⟨_, _, _, _, _, _, _, e, _⟩ := h
      unfold callN at e
      cases e
  | n + 1, f, fn, hf => by
    have ih := fns_ok (P := P) (w := w) (base := base) T D n
    obtain ⟨name, qual, st, N, Fu, S, hns, hnp, hch⟩ := (D f fn hf).ex
    refine funR Fu S (fun vs H Q E h => ?_) (k := 2 * n + 2) (fun cdv A outer s H vs Q E hg hr h => ?_)
    · obtain ⟨F, Z, args, A, out, os, s, e, k⟩ := h
      unfold callN at e
      rw [hf] at e
      simp only at e
      split at e
      · rename_i hl
        have := s.len
        simp only [List.length_map] at this
        omega
      · cases e
    · have room : ∀ {j : Nat}, j ≤ 2 * n + 2 → Room j (A.deeper (envOfC qual (defScope st) s.heap.objs.size (fa f) cdv)) := fun hj => hr.mono hj
      have code : ∀ {f' : Nat}, (tb.G.fns.lookup f').isSome = true → ∃ fn', tb.G.fns.lookup f' = some fn' := fun h => Option.isSome_iff_exists.mp h
      have o : OkX c tb (callN tb.G n) ⟨N, (defScope st).names, true, [], tb.full f⟩ (cxOf CX0 P w K mg base N qual (defScope st) (fa f) cdv A outer s H E).nox :=
        { K := T.cK.symm, full := hg, calm := rfl, hu := by
            have := hr.un
            show (A.deeper _).units + 65 < cLine
            omega
          N := rfl, nd := S.nd, nm := rfl, kind := S.kind, top := fun _ _ => rfl, raw := fun _ h => (by cases h)
          call := fun hfu f' x hx => by
            obtain ⟨h1, h2⟩ := T.call f' x hx
            obtain ⟨fn', h3⟩ := code h1
            obtain ⟨h4, h5⟩ := T.bind f' fn' h3
            exact ⟨fa f', fd f', ps f', 2 * n + 1, (ih f' fn' h3).weak, room (by omega), h2, h4, h5⟩
          make := fun ci x kk h1 h2 => by
            obtain ⟨C, h3, h4, h5, h6⟩ := T.make ci x kk h1 h2
            obtain ⟨fn', h7⟩ := code h6
            exact ⟨C, fa kk.init, fd kk.init, ps kk.init, 2 * n + 1, h3, h4, fun _ => (ih _ fn' h7).weak, room (by omega), h5, (T.bind _ fn' h7).2⟩
          meth := fun hfu ci kk m x f' h1 h2 h3 => by
            obtain ⟨C, h4, h5, h6, h7⟩ := T.meth ci kk m x f' h1 h2 h3
            obtain ⟨fn', h8⟩ := code h7
            exact ⟨C, fa f', fd f', ps f', 2 * n + 1, h4, h5, h6, (ih _ fn' h8).weak, room (by omega), (T.bind _ fn' h8).2⟩
          eqs := fun ci kk f' h1 h2 => by
            obtain ⟨C, h3, h4, h5⟩ := T.eqs ci kk f' h1 h2
            obtain ⟨fn', h6⟩ := code h5
            have F := ih _ fn' h6
            rw [tb.leaf h1 h2] at F
            exact ⟨C, fa f', fd f', ps f', 2 * n + 1, h3, h4, F.ok, room (by omega), (T.bind _ fn' h6).2⟩
          blt := T.blt, glob := T.glob, attrs := T.attrs, fld := T.fld, fok := T.fok }
      exact ⟨_, chSs_ok o PassesOwn.never hch, spC_body hf hns h⟩
end Ev

/-! Ev, part P: the end: a law's call over every script. -/
namespace Ev
open PySem L2 PyProof.Rows
/-- law's promise: a list of at most 63 ints is handed in, True comes out -/
def spLaw (K : PySem.W.Frag) : Sp := fun vs H Q _ => ∃ (a : Addr) (ns : List Int), vs = [.ref a] ∧ SqL K H a (ns.map V.int) ∧ ns.length ≤ 63 ∧ ∀ H', Q (.bl true) H'
theorem spLaw_of {K : PySem.W.Frag} {c : Cn} {G : GS} {n f : Nat} (hK : c.K = K) (L : ∀ ns : List Int, ns.length ≤ 63 → callN G n f [.v (.scr ns)] = some (.v (.bl true), [.v (.scr ns)])) : ∀ vs H Q E, spLaw K vs H Q E → spC c (callN G n) f vs H Q E := by
  intro vs H Q E h
  obtain ⟨a, ns, rfl, hs, hl, k⟩ := h
  refine ⟨fun _ => none, H, [.v (.scr ns)], fun _ => [], .v (.bl true), [.v (.scr ns)], ⟨fun _ _ e => (by cases e), Same.refl _, fun _ _ _ => rfl, rfl, fun i m e => ?_, fun _ => List.nodup_nil, fun _ _ _ h _ => (by cases h), fun _ _ h => (by cases h), fun _ _ e => e⟩, L ns hl, fun x H' Z' A' B zz s re => ?_⟩
  · cases i with
    | zero =>
      cases (show some (M.v (.scr ns)) = some m from by simpa using e)
      exact ⟨.ref a, rfl, rfl, a, rfl, by rw [hK]; exact hs⟩
    | succ i => simp at e
  · rw [show x = .bl true from re.rr.2]
    exact k H'
theorem walk {l : PySem.W.OpenLaw} {q : Program} {loose : List Str} {XP : (Str → Option Value) → Heap → Prop} {YP : World → Heap → Prop} {d : DefRec} {K : Params → PySem.W.Frag} {G : GS} {n f : Nat} {x : Str} (hn : l.most = some 63) (hdf : d.params.defaults = [])
    (hY : ∀ (w : World) (h : Heap), YP w h → (K w.params).In h) (room : L2.Room (2 * n + 1) callerA)
    (L : ∀ ns : List Int, ns.length ≤ 63 → callN G n f [.v (.scr ns)] = some (.v (.bl true), [.v (.scr ns)]))
    (F : ∀ (w : World) (mg : Str → Option Value) (fa : Addr) (h : Heap), (K w.params).In h → h.Ns mainGlobals mg → mg d.name = some (.ref fa) →
      ∃ fd : FuncData, (∀ (s : Shared) (u : Value), BindsTo s fd ⟨[u], []⟩ [(x, u)]) ∧ ∃ c : Cn, c.K = K w.params ∧ ∀ base : Heap, ∀ n : Nat, FnR true l.prog w (K w.params) mg base CX0 (2 * n + 1) fa fd [x] (spC c (callN G n) f)) :
    PySem.W.WalkO q loose XP YP l.row.toRowW d [] (fun f vs => PySem.call f vs) := by
  refine Att.attach_call (n := 63) hn hdf fun w s₀ s₁ mg mb fa o pm cd doc a vs ns g Y ho hd hcd hmg hobj hints hlen hg => ?_
  obtain ⟨fd, hb, c, hc, hF⟩ := F w mg fa _ (hY w _ Y) g.T.g hmg
  exact lawR (hY w _ Y) g.T.g g.T.b g.T.builtins g.T.nolimit hg hobj hints (Nat.le_trans hlen (by decide)) room (fun base _ _ => (hF base n).imp (spLaw_of hc L)) hb (fun H _ hS => ⟨a, ns, rfl, hS, hlen, fun _ => rfl⟩) fun _ _ _ z => z
end Ev

/-! Ev, part V: evaluations read from the outside in, as wishes (wp): what must hold so that an evaluation ends and Q holds behind it. -/
namespace Ev
open PySem L2
class HasF (G : GS) (i : Nat) (F : outParam Fn) : Prop where
  ok : G.fns.lookup i = some F
class HasC (G : GS) (i : Nat) (C : outParam Cl) : Prop where
  ok : G.cls.lookup i = some C
def WO {α : Type} (o : Option α) (Q : α → Prop) : Prop := match o with
  | some a => Q a
  | none => False
theorem WO.use {α : Type} {o : Option α} {Q : α → Prop} (h : WO o Q) : ∃ a, o = some a ∧ Q a := by
  cases o with
  | none => exact h.elim
  | some a => exact ⟨a, rfl, h⟩
theorem WO.mk {α : Type} {o : Option α} {Q : α → Prop} {a : α} (e : o = some a) (h : Q a) : WO o Q := by rw [e]; exact h
theorem WO.mono {α : Type} {o : Option α} {Q R : α → Prop} (h : WO o Q) (k : ∀ a, Q a → R a) : WO o R := by
  cases o with
  | none => exact h
  | some a => exact k a h
theorem wo_some {α : Type} {a : α} {Q : α → Prop} : WO (some a) Q = Q a := rfl
theorem wo_none {α : Type} {Q : α → Prop} : WO (none : Option α) Q = False := rfl
theorem wo_ite {α : Type} {c : Prop} [Decidable c] {a : α} {Q : α → Prop} : WO (if c then some a else none) Q = (c ∧ Q a) := by
  by_cases h : c
  · rw [if_pos h, wo_some]; simp [h]
  · rw [if_neg h, wo_none]; simp [h]
theorem wo_map {α β : Type} {o : Option α} {f : α → β} {Q : β → Prop} : WO (o.map f) Q = WO o fun a => Q (f a) := by cases o <;> rfl
/-- an own equality, or none -/
def oeqW (o : Option Nat) (A : Nat → Prop) (B : Prop) : Prop := match o with
  | some f => A f
  | none => B
/-- a call -/
def WC (o : Option (M × List M)) (Q : M → List M → Prop) : Prop := match o with
  | some (m, os) => Q m os
  | none => False
theorem wc_some {m : M} {os : List M} {Q : M → List M → Prop} : WC (some (m, os)) Q = Q m os := rfl
theorem WC.use {o : Option (M × List M)} {Q : M → List M → Prop} (h : WC o Q) : ∃ m os, o = some (m, os) ∧ Q m os := by
  cases o with
  | none => exact h.elim
  | some a => exact ⟨a.1, a.2, rfl, h⟩
theorem WC.mono {o : Option (M × List M)} {Q R : M → List M → Prop} (h : WC o Q) (k : ∀ m os, Q m os → R m os) : WC o R := by
  cases o with
  | none => exact h
  | some a => exact k _ _ h
theorem WC.of {o : Option (M × List M)} {Q : M → List M → Prop} {m : M} {os : List M} (e : o = some (m, os)) (h : Q m os) : WC o Q := by rw [e]; exact h
theorem wc_eq {o : Option (M × List M)} {m : M} {os : List M} (h : WC o fun m' os' => m' = m ∧ os' = os) : o = some (m, os) := by
  obtain ⟨_, _, e, rfl, rfl⟩ := h.use
  exact e
/-- a statement: what is wanted behind it, of what is returned, of a break, of a continue -/
structure Wh where
  nx : T → Prop
  rt : M → T → Prop
  bk : T → Prop := fun _ => False
  ct : T → Prop := fun _ => False
def Wh.of (w : Wh) : Fl → Prop
  | .nx τ => w.nx τ
  | .bk τ => w.bk τ
  | .ct τ => w.ct τ
  | .ret m τ => w.rt m τ
def slR (i : Nat) : Option M → Option R
  | some (.v d) => some (.d d)
  | some _ => some (.pl i none)
  | none => none
def asB : R → Option Bool
  | .d (.bl b) => some b
  | _ => none
def asI : R → Option Int
  | .d (.int b) => some b
  | _ => none
def asD : R → Option D
  | .d d => some d
  | _ => none
def asM : R → Option M
  | .m m => some m
  | _ => none
def asSeq : D → Option (List D)
  | .lst xs => some xs
  | .tup xs => some xs
  | .scr ns => some (ns.map .int)
  | _ => none
def asMB : M → Option Bool
  | .v (.bl b) => some b
  | _ => none
def revD : D → Option R
  | .lst xs => some (.m (.lst xs.reverse))
  | .tup xs => some (.d (.tup xs.reverse))
  | _ => none
def setR (b : Bool) (xs : List D) : Option R := if b = true then (ssetD xs).map fun ys => .m (.lst ys) else (nsetD xs).map fun (n : Nat) => .d (.int (n : Int))
def asLT : D → Option (List D)
  | .lst xs => some xs
  | .tup xs => some xs
  | _ => none
def isDK : D → Option Unit
  | .dK _ _ => some ()
  | _ => none
def lstD : D → Option (List D)
  | .lst xs => some xs
  | _ => none
def zipLT : D → D → Option (List D)
  | .lst xs, .lst ys => some (zipD xs ys)
  | .tup xs, .tup ys => some (zipD xs ys)
  | _, _ => none
def fldR (f : Nat) (τ : T) : R → Option R
  | .d (.ins _ fs) => (getD' f fs).map .d
  | .pl i none => (match getP τ i (some f) with
    | some (.v d) => some (.d d)
    | some _ => some (.pl i (some f))
    | none => none)
  | _ => none
def WLc2 (g : D → T → Option T) (it : T → (List D → T → Prop) → Prop) (inner : List D → List D → T → (List D → T → Prop) → Prop) (own own1 : List Nat) : List D → List D → T → (List D → T → Prop) → Prop
  | [], acc, τ, Q => Q acc τ
  | x :: xs, acc, τ, Q => WO (g x τ) fun τ1 => it τ1 fun ys τ2 => WO (hideO own1 τ2) fun τ3 => inner ys acc τ3 fun acc' τ4 => WO (hideO own τ4) fun τ5 => WLc2 g it inner own own1 xs acc' τ5 Q
def WLc (g : D → T → Option T) (t : T → (Bool → T → Prop) → Prop) (e : T → (D → T → Prop) → Prop) (own : List Nat) : List D → List D → T → (List D → T → Prop) → Prop
  | [], acc, τ, Q => Q acc τ
  | x :: xs, acc, τ, Q => WO (g x τ) fun τ1 => t τ1 fun b τ2 => if b = true then e τ2 fun d τ3 => acc.length < SL ∧ WO (hideO own τ3) fun τ4 => WLc g t e own xs (acc ++ [d]) τ4 Q else WO (hideO own τ2) fun τ3 => WLc g t e own xs acc τ3 Q
section
variable (G : GS) (cl : Caller)
mutual
def wpE (p : Bool) : CE → T → (R → T → Prop) → Prop
  | .k d, τ, Q => Q (.d d) τ
  | .s i, τ, Q => WO (slR i (slotM τ i)) fun r => Q r τ
  | .g i, τ, Q => WO (G.consts[i]?) fun d => Q (.d d) τ
  | .bin op a b, τ, Q => wpE p a τ fun ra τ1 => wpE (p || ra.isF) b τ1 fun rb τ2 => WO (look τ2 (setl ra)) fun x => WO (look τ2 (setl rb)) fun y => WO (binD op x y) fun r => Q r τ2
  | .un op a, τ, Q => wpE p a τ fun ra τ1 => WO (look τ1 (setl ra)) fun x => WO (unD op x) fun d => Q (.d d) τ1
  | .cmp op a b, τ, Q => wpE p a τ fun ra τ1 => wpE (p || ra.isF) b τ1 fun rb τ2 => WO (look τ2 (setl ra)) fun x => WO (look τ2 (setl rb)) fun y => WO (cmpD op x y) fun k => Q (.d (.bl k)) τ2
  | .chain o1 o2 a b c, τ, Q => wpE p a τ fun ra τ1 => WO (asD ra) fun x => wpE p b τ1 fun rb τ2 => WO (asD rb) fun y => WO (cmpD o1 x y) fun k => if k = true then wpE p c τ2 fun rc τ3 => WO (asD rc) fun z => WO (cmpD o2 y z) fun k => Q (.d (.bl k)) τ3 else Q (.d (.bl false)) τ2
  | .and a b, τ, Q => wpE p a τ fun ra τ1 => WO (asB ra) fun k => if k = true then wpE p b τ1 Q else Q (.d (.bl false)) τ1
  | .or a b, τ, Q => wpE p a τ fun ra τ1 => WO (asB ra) fun k => if k = true then Q (.d (.bl true)) τ1 else wpE p b τ1 Q
  | .not a, τ, Q => wpE p a τ fun ra τ1 => WO (asB ra) fun k => Q (.d (.bl (!k))) τ1
  | .ife t a b, τ, Q => wpT p t τ fun k τ1 => if k = true then wpE p a τ1 Q else wpE p b τ1 Q
  | .tup es, τ, Q => wpX p es τ fun ds τ1 => ds.length ≤ SL ∧ Q (.d (.tup ds)) τ1
  | .lst es, τ, Q => wpX p es τ fun ds τ1 => ds.length ≤ SL ∧ Q (.m (.lst ds)) τ1
  | .call f es, τ, Q => wpL p es τ fun rs τ1 => WO (G.fns.lookup f) fun fn => WO (takeA p fn.io 0 rs τ1) fun t => WC (cl f t.1) fun m os => Q (resR m) (giveA t.2.1 os t.2.2)
  | .mk c es, τ, Q => wpL p es τ fun rs τ1 => WO (G.cls.lookup c) fun k => WO (G.fns.lookup k.init) fun fn => WO (takeA p fn.io 1 rs τ1) fun t => WC (cl k.init (.ins c [] :: t.1)) fun m os => (∃ s r, m = .v .non ∧ os = s :: r ∧ Q (.m s) (giveA t.2.1 r t.2.2))
  | .blt f es, τ, Q => wpL p es τ fun rs τ1 => WO (rs.mapM (look τ1)) fun vs => WO (bltD f vs) fun r => Q r τ1
  | .um m o es, τ, Q => wpE p o τ fun ro τ1 => WO (recvC τ1 m ro) fun c => WO (G.cls.lookup c) fun k => WO (k.ms.lookup m) fun f => WO (G.fns.lookup f) fun fn => wpL p es τ1 fun rs τ2 => match ro with
    | .d d => WO (takeA p fn.io 1 rs τ2) fun t => WC (cl f (.v d :: t.1)) fun r os => ∃ s os', os = s :: os' ∧ Q (resR r) (giveA t.2.1 os' t.2.2)
    | .m m' => p = false ∧ WO (takeA p fn.io 1 rs τ2) fun t => WC (cl f (m' :: t.1)) fun r os => ∃ s os', os = s :: os' ∧ Q (resR r) (giveA t.2.1 os' t.2.2)
    | .pl i none => WO (takeA p fn.io 0 (.pl i none :: rs) τ2) fun t => WC (cl f t.1) fun r os => Q (resR r) (giveA t.2.1 os t.2.2)
    | .pl _ (some _) => False
  | .bm m o es, τ, Q => wpE p o τ fun ro τ1 => match ro with
    | .pl i f => p = false ∧ (∃ ys, getP τ1 i f = some (.lst ys)) ∧ wpX f.isSome es τ1 fun ds τ2 => ∃ xs, getP τ2 i f = some (.lst xs) ∧ WO (bmD m xs ds) fun t => Q (.d t.1) (setP τ2 i (.lst t.2) f)
    | _ => False
  | .bits o, τ, Q => wpE p o τ fun r τ1 => WO (asI r) fun i => Q (.d (.int (Builtin.Int.intBits i : Nat))) τ1
  | .idx a b, τ, Q => wpE p a τ fun ra τ1 => wpE (p || ra.isF) b τ1 fun rb τ2 => WO (look τ2 (setl ra)) fun x => WO (look τ2 (setl rb)) fun y => WO (idxD x y) fun d => Q (.d d) τ2
  | .slc a lo hi, τ, Q => wpE p a τ fun ra τ1 => (fun (K : Option Int → T → Prop) => if isNonK lo = true then K none τ1 else wpE (p || ra.isF) lo τ1 fun rl τ2 => WO (asI rl) fun l => K (some l) τ2) fun l τ2 =>
      (fun (K : Option Int → T → Prop) => if isNonK hi = true then K none τ2 else wpE (p || ra.isF) hi τ2 fun rl τ3 => WO (asI rl) fun h => K (some h) τ3) fun h τ3 => WO (look τ3 (setl ra)) fun x => WO (slcP x l h) fun r => Q r τ3
  | .fld a f, τ, Q => wpE p a τ fun ra τ1 => WO (fldR f τ1 ra) fun r => Q r τ1
  | .lc own tg it t elt, τ, Q => p = false ∧ wpI p it τ fun xs τ1 => WO (hideO own τ1) fun τ2 => WLc (bindTg [] tg) (wpT p t) (fun τ K => wpE p elt τ fun r τ' => WO (esc p τ' r) fun u => K u.1 u.2) own xs [] τ2 fun ds τ3 => Q (.m (.lst ds)) (backO τ1 own τ3)
  | .lc2 own own1 tg it tg1 it1 t elt, τ, Q => p = false ∧ wpI p it τ fun xs τ1 => WO (hideO own τ1) fun τ2 => WLc2 (bindTg [] tg) (fun t' K => wpI p it1 t' K) (WLc (bindTg [] tg1) (wpT p t) (fun τ K => wpE p elt τ fun r τ' => WO (esc p τ' r) fun u => K u.1 u.2) own1) own own1 xs [] τ2 fun ds τ3 => Q (.m (.lst ds)) (backO τ1 own τ3)
  | .lrng it, τ, Q => wpI p it τ fun xs τ1 => xs.length ≤ SL ∧ Q (.m (.lst xs)) τ1
  | .trng it, τ, Q => wpI p it τ fun xs τ1 => xs.length ≤ SL ∧ Q (.d (.tup xs)) τ1
  | .rev a, τ, Q => wpE p a τ fun ra τ1 => WO (look τ1 (setl ra)) fun x => WO (revD x) fun r => Q r τ1
  | .sset b a, τ, Q => wpE p a τ fun ra τ1 => WO (seqLT (look τ1 (setl ra))) fun xs => WO (setR b xs) fun r => Q r τ1
  | .oeq ne es, τ, Q => wpX p es τ fun ds τ1 => oeqW (eqDef G ds) (fun f => WC (cl f (ds.map .v)) fun m os => WO (asMB m) fun r => Q (.d (.bl (if ne then !r else r))) τ1) (WO (eqPl ne ds) fun b => Q (.d (.bl b)) τ1)
  | .teq ne ci es, τ, Q => wpX p es τ fun ds τ1 => if teqD G cl ci ds = true then Q (.d (.bl (!ne))) τ1 else WO (eqPl ne ds) fun b => Q (.d (.bl b)) τ1
  | .dct t, τ, Q => Q (.m (if t then .dT [] [] else .dK [] [])) τ
  | .dct1 t a b, τ, Q => wpE p a τ fun ra τ1 => WO (esc p τ1 ra) fun u => wpE p b u.2 fun rb τ3 => WO (esc p τ3 rb) fun v => WO (dctR t u.1 v.1) fun r => Q r v.2
  | .kidx a es, τ, Q => wpE p a τ fun ra τ1 => wpX (p || ra.isF) es τ1 fun ds τ2 => ds.length ≤ SL ∧ ∃ ks vs, look τ2 (setl ra) = some (.dT ks vs) ∧ WO (keysD ds) fun q => WO (dLook ks vs q) fun d => Q (.d d) τ2
  | .kin neg es a, τ, Q => wpX p es τ fun ds τ1 => wpE p a τ1 fun ra τ2 => ds.length ≤ SL ∧ ∃ ks vs, look τ2 (setl ra) = some (.dT ks vs) ∧ WO (keysD ds) fun q => Q (.d (.bl (if neg then !(dLook ks vs q).isSome else (dLook ks vs q).isSome))) τ2
  | .dget o k x, τ, Q => wpE p o τ fun ro τ1 => WO (look τ1 (setl ro)) fun u0 => WO (isDK u0) fun _ => wpE (p || ro.isF) k τ1 fun rk τ2 => wpE ((p || ro.isF) || rk.isF) x τ2 fun rx τ3 => WO (look τ3 (setl ro)) fun u => ∃ ks vs, u = .dK ks vs ∧ WO (look τ3 (setl rk)) fun y => WO (asD (setl rx)) fun d => WO (keyD y) fun q => Q (.d ((dLook ks vs q).getD d)) τ3
  | .ixof o x, τ, Q => wpE p o τ fun ro τ1 => WO (look τ1 (setl ro)) fun u0 => WO (lstD u0) fun _ => wpE (p || ro.isF) x τ1 fun rx τ2 => WO (look τ2 (setl ro)) fun u => WO (lstD u) fun ys => WO (look τ2 (setl rx)) fun y => WO (ixOfD y ys) fun j => Q (.d (.int (j : Nat))) τ2
  | .pcall f es, τ, Q => wpL p es τ fun rs τ1 => WO (rs.mapM (lookZ τ1)) fun ds => WC (cl f (ds.map .v)) fun m _ => WO (sclM m) fun d => Q (.d d) τ1
  | .frz a, τ, Q => wpE p a τ fun r τ1 => Q (setl r) τ1
  | .callM f a es, τ, Q => p = false ∧ wpE p a τ fun r τ1 => WO (asM r) fun m => wpL p es τ1 fun rs τ2 => WO (G.fns.lookup f) fun fn => WO (takeA p fn.io 1 rs τ2) fun t => WC (cl f (m :: t.1)) fun r os => ∃ s os', os = s :: os' ∧ Q (resR r) (giveA t.2.1 os' t.2.2)
  | .call1 f a, τ, Q => p = false ∧ wpE p a τ fun r τ1 => WO (asM r) fun m => WC (cl f [m]) fun m' _ => Q (resR m') τ1
def wpX (p : Bool) : CEs → T → (List D → T → Prop) → Prop
  | .nil, τ, Q => Q [] τ
  | .cons e r, τ, Q => wpE p e τ fun x τ1 => WO (esc p τ1 x) fun u => wpX p r u.2 fun ds τ3 => Q (u.1 :: ds) τ3
def wpL (p : Bool) : CEs → T → (List R → T → Prop) → Prop
  | .nil, τ, Q => Q [] τ
  | .cons e r, τ, Q => wpE p e τ fun x τ1 => wpL (p || x.isF) r τ1 fun xs τ2 => Q (setl x :: xs) τ2
def wpT (p : Bool) : CT → T → (Bool → T → Prop) → Prop
  | .yes, τ, Q => Q true τ
  | .and a b, τ, Q => wpT p a τ fun k τ1 => if k = true then wpT p b τ1 Q else Q false τ1
  | .or a b, τ, Q => wpT p a τ fun k τ1 => if k = true then Q true τ1 else wpT p b τ1 Q
  | .not a, τ, Q => wpT p a τ fun k τ1 => Q (!k) τ1
  | .e e, τ, Q => wpE p e τ fun r τ1 => WO (asB r) fun k => Q k τ1
def wpI (p : Bool) : CI → T → (List D → T → Prop) → Prop
  | .e e, τ, Q => wpE p e τ fun r τ1 => WO (esc p τ1 r) fun u => WO (asSeq u.1) fun xs => Q xs u.2
  | .rng1 a, τ, Q => wpE p a τ fun r τ1 => WO (asI r) fun i => rngOk 0 i = true ∧ Q (rngD 0 i) τ1
  | .rng2 a b, τ, Q => wpE p a τ fun r τ1 => WO (asI r) fun i => wpE p b τ1 fun r2 τ2 => WO (asI r2) fun j => rngOk i j = true ∧ Q (rngD i j) τ2
  | .enum a, τ, Q => wpE p a τ fun r τ1 => WO (esc p τ1 r) fun u => WO (asLT u.1) fun xs => Q (enumD 0 xs) u.2
  | .zip a b, τ, Q => wpE p a τ fun ra τ1 => WO (esc p τ1 ra) fun u => wpE p b u.2 fun rb τ3 => WO (esc p τ3 rb) fun v => WO (zipLT u.1 v.1) fun zs => Q zs v.2
end
def WFor (g : D → T → Option T) (b : T → Wh → Prop) : List D → T → Wh → Prop
  | [], τ, w => w.nx τ
  | x :: xs, τ, w => WO (g x τ) fun τ1 => b τ1 { nx := fun τ2 => WFor g b xs τ2 w, ct := fun τ2 => WFor g b xs τ2 w, bk := w.nx, rt := w.rt }
def WWhl (t : T → (Bool → T → Prop) → Prop) (b : T → Wh → Prop) : Nat → T → Wh → Prop
  | 0, _, _ => False
  | n + 1, τ, w => t τ fun k τ1 => if k = true then b τ1 { nx := fun τ2 => WWhl t b n τ2 w, ct := fun τ2 => WWhl t b n τ2 w, bk := w.nx, rt := w.rt } else w.nx τ1
def wpM : CEs → T → (List M → T → Prop) → Prop
  | .nil, τ, Q => Q [] τ
  | .cons e r, τ, Q => wpE G cl false e τ fun x τ1 => WO (give τ1 x) fun u => wpM r u.2 fun ms τ3 => Q (u.1 :: ms) τ3
mutual
def wpS (io : List Nat) : CS → T → Wh → Prop
  | .set i e, τ, w => io.contains i = false ∧ wpE G cl false e τ fun r τ1 => WO (give τ1 r) fun u => w.nx (u.2.set i (some u.1))
  | .setM is es, τ, w => (is.any fun i => io.contains i) = false ∧ wpM G cl es τ fun ms τ1 => WO (setMs is ms τ1) w.nx
  | .setT tg e, τ, w => wpE G cl false e τ fun r τ1 => WO (esc false τ1 r) fun u => WO (bindTg io tg u.1 u.2) w.nx
  | .par i j a b, τ, w => (io.contains i || io.contains j) = false ∧ wpX G cl false (.cons a (.cons b .nil)) τ fun ds τ1 => ∃ x y, ds = [x, y] ∧ w.nx ((τ1.set i (some (.v x))).set j (some (.v y)))
  | .aug i op e, τ, w => io.contains i = false ∧ ∃ x, slotM τ i = some (.v (.int x)) ∧ wpE G cl false e τ fun r τ1 => WO (asI r) fun y => WO (augD op x y) fun z => w.nx (τ1.set i (some (.v (.int z))))
  | .fset i f e, τ, w => wpE G cl false e τ fun r τ1 => WO (give τ1 r) fun u => ∃ c fs, slotM u.2 i = some (.ins c fs) ∧ fs.length < 900 ∧ ((G.cls.lookup c).map fun k => k.fl.contains f) = some true ∧ w.nx (u.2.set i (some (.ins c (putA f u.1 fs))))
  | .iset i k e, τ, w => wpE G cl false e τ fun r τ1 => WO (esc false τ1 r) fun u => wpE G cl true k u.2 fun rk _ => WO (asD rk) fun kd => WO (slotM u.2 i) fun m => WO (setIx m kd u.1) fun m' => w.nx (u.2.set i (some m'))
  | .fiset i f k e, τ, w => wpE G cl false e τ fun r τ1 => WO (esc false τ1 r) fun u => wpE G cl true k u.2 fun rk _ => WO (asD rk) fun kd => WO (getP u.2 i (some f)) fun m => WO (setIx m kd u.1) fun m' => w.nx (setP u.2 i m' (some f))
  | .kset i f es e, τ, w => wpE G cl false e τ fun r τ1 => WO (esc false τ1 r) fun u => wpX G cl true es u.2 fun ds _ => ∃ ks vs, getP u.2 i f = some (.dT ks vs) ∧ WO (keysD ds) fun q => (vs.length < SL ∧ ds.length ≤ SL) ∧ w.nx (setP u.2 i (.dT (dPut ks vs q u.1).1 (dPut ks vs q u.1).2) f)
  | .bad, _, _ => False
  | .ex e, τ, w => wpE G cl false e τ fun _ τ1 => w.nx τ1
  | .ret e, τ, w => wpE G cl false e τ fun r τ1 => match r with
    | .m m => w.rt m τ1
    | .pl i none => if io.contains i = true then WO (esc false τ1 r) fun u => w.rt (.v u.1) u.2 else WO (slotM τ1 i) fun m => w.rt m (τ1.set i none)
    | r => WO (esc false τ1 r) fun u => w.rt (.v u.1) u.2
  | .retN, τ, w => w.rt (.v .non) τ
  | .pass, τ, w => w.nx τ
  | .brk, τ, w => w.bk τ
  | .cont, τ, w => w.ct τ
  | .ite t a b, τ, w => wpT G cl false t τ fun k τ1 => if k = true then wpSs io a τ1 w else wpSs io b τ1 w
  | .whl t b, τ, w => WWhl (wpT G cl false t) (wpSs io b) WF τ w
  | .loop tg it b, τ, w => wpI G cl false it τ fun xs τ1 => WFor (bindTg io tg) (wpSs io b) xs τ1 w
def wpSs (io : List Nat) : CSs → T → Wh → Prop
  | .nil, τ, w => w.nx τ
  | .cons s r, τ, w => wpS io s τ { w with nx := fun τ1 => wpSs io r τ1 w }
end
end
end Ev

/-! Ev, part W: the wishes are right. -/
namespace Ev
open PySem L2
section
variable {G : GS} {cl : Caller}
theorem wlc_eq {g : D → T → Option T} {t : T → (Bool → T → Prop) → Prop} {t' : T → Option (Bool × T)} {e : T → (D → T → Prop) → Prop} {e' : T → Option (D × T)} {own : List Nat}
    (ht : ∀ τ Q, t τ Q = WO (t' τ) fun u => Q u.1 u.2) (he : ∀ τ Q, e τ Q = WO (e' τ) fun u => Q u.1 u.2) :
    ∀ xs acc τ Q, WLc g t e own xs acc τ Q = WO (compL g t' e' own xs acc τ) fun u => Q u.1 u.2 := by
  intro xs
  induction xs with
  | nil => intro acc τ Q; rfl
  | cons x xs ih =>
    intro acc τ Q
    rw [WLc, compL]
    cases g x τ with
    | none => rfl
    | some τ1 =>
      simp only [wo_some, ht]
      rcases t' τ1 with _ | ⟨_ | _, τ2⟩
      · rfl
      · simp only [wo_some, Bool.false_eq_true, if_false]
        cases hideO own τ2 with
        | none => rfl
        | some τ3 => simp only [wo_some, ih]
      · simp only [wo_some, if_true, he]
        rcases e' τ2 with _ | ⟨d, τ3⟩
        · rfl
        · simp only [wo_some]
          by_cases hl : acc.length < SL
          · simp only [hl, true_and, if_true]
            cases hideO own τ3 with
            | none => rfl
            | some τ4 => simp only [wo_some, ih]
          · simp only [hl, false_and, if_false, wo_none]
theorem wlc2_eq {g : D → T → Option T} {it : T → (List D → T → Prop) → Prop} {it' : T → Option (List D × T)} {inner : List D → List D → T → (List D → T → Prop) → Prop} {inner' : List D → List D → T → Option (List D × T)} {own own1 : List Nat}
    (hi : ∀ τ Q, it τ Q = WO (it' τ) fun u => Q u.1 u.2) (hn : ∀ ys acc τ Q, inner ys acc τ Q = WO (inner' ys acc τ) fun u => Q u.1 u.2) :
    ∀ xs acc τ Q, WLc2 g it inner own own1 xs acc τ Q = WO (compL2 g it' inner' own own1 xs acc τ) fun u => Q u.1 u.2 := by
  intro xs
  induction xs with
  | nil => intro acc τ Q; rfl
  | cons x xs ih =>
    intro acc τ Q
    rw [WLc2, compL2]
    cases g x τ with
    | none => rfl
    | some τ1 =>
      simp only [wo_some, hi]
      rcases it' τ1 with _ | ⟨ys, τ2⟩
      · rfl
      simp only [wo_some]
      rcases hideO own1 τ2 with _ | τ3
      · rfl
      simp only [wo_some, hn]
      rcases inner' ys acc τ3 with _ | ⟨acc', τ4⟩
      · rfl
      simp only [wo_some]
      rcases hideO own τ4 with _ | τ5
      · rfl
      simp only [wo_some, ih]
mutual
theorem we_eq (p : Bool) : ∀ (e : CE) (τ : T) (Q : R → T → Prop), wpE G cl p e τ Q = WO (evE G cl p e τ) fun u => Q u.1 u.2
  | .k d, τ, Q => rfl
  | .s i, τ, Q => by
    rw [wpE, evE]
    rcases slotM τ i with _ | m
    · rfl
    · cases m <;> rfl
  | .g i, τ, Q => by
    rw [wpE, evE]
    cases G.consts[i]? <;> rfl
  | .bin op a b, τ, Q => by
    rw [wpE, evE, we_eq p a]
    rcases evE G cl p a τ with _ | ⟨ra, τ1⟩
    · rfl
    simp only [wo_some, we_eq (p || ra.isF) b]
    rcases evE G cl (p || ra.isF) b τ1 with _ | ⟨rb, τ2⟩
    · rfl
    simp only [wo_some]
    rcases look τ2 (setl ra) with _ | x
    · rfl
    rcases look τ2 (setl rb) with _ | y
    · rfl
    simp only [wo_some, wo_map]
  | .un op a, τ, Q => by
    rw [wpE, evE, we_eq p a]
    rcases evE G cl p a τ with _ | ⟨ra, τ1⟩
    · rfl
    simp only [wo_some]
    rcases look τ1 (setl ra) with _ | x
    · rfl
    simp only [wo_some, wo_map]
  | .cmp op a b, τ, Q => by
    rw [wpE, evE, we_eq p a]
    rcases evE G cl p a τ with _ | ⟨ra, τ1⟩
    · rfl
    simp only [wo_some, we_eq (p || ra.isF) b]
    rcases evE G cl (p || ra.isF) b τ1 with _ | ⟨rb, τ2⟩
    · rfl
    simp only [wo_some]
    rcases look τ2 (setl ra) with _ | x
    · rfl
    rcases look τ2 (setl rb) with _ | y
    · rfl
    simp only [wo_some, wo_map]
  | .chain o1 o2 a b c, τ, Q => by
    rw [wpE, evE, we_eq p a]
    rcases evE G cl p a τ with _ | ⟨_ | _ | _, τ1⟩ <;> try rfl
    rename_i x
    simp only [wo_some, asD, we_eq p b]
    rcases evE G cl p b τ1 with _ | ⟨_ | _ | _, τ2⟩ <;> try rfl
    rename_i y
    simp only [wo_some]
    rcases cmpD o1 x y with _ | _ | _ <;> try rfl
    simp only [wo_some, if_true, we_eq p c]
    rcases evE G cl p c τ2 with _ | ⟨_ | _ | _, τ3⟩ <;> try rfl
    simp only [wo_some, wo_map]
  | .and a b, τ, Q => by
    rw [wpE, evE, we_eq p a]
    rcases evE G cl p a τ with _ | ⟨ra, τ1⟩
    · rfl
    rcases ra with d | _ | _ <;> try rfl
    cases d <;> try rfl
    rename_i k
    cases k <;> simp only [wo_some, asB, we_eq p b, Bool.false_eq_true, if_false, if_true]
  | .or a b, τ, Q => by
    rw [wpE, evE, we_eq p a]
    rcases evE G cl p a τ with _ | ⟨ra, τ1⟩
    · rfl
    rcases ra with d | _ | _ <;> try rfl
    cases d <;> try rfl
    rename_i k
    cases k <;> simp only [wo_some, asB, we_eq p b, Bool.false_eq_true, if_false, if_true]
  | .not a, τ, Q => by
    rw [wpE, evE, we_eq p a]
    rcases evE G cl p a τ with _ | ⟨ra, τ1⟩
    · rfl
    rcases ra with d | _ | _ <;> try rfl
    cases d <;> rfl
  | .ife t a b, τ, Q => by
    rw [wpE, evE, wt_eq p t]
    rcases evT G cl p t τ with _ | ⟨_ | _, τ1⟩
    · rfl
    · simp only [wo_some, we_eq p b, Bool.false_eq_true, if_false]
    · simp only [wo_some, we_eq p a, if_true]
  | .tup es, τ, Q => by
    rw [wpE, evE, wx_eq p es]
    rcases evX G cl p es τ with _ | ⟨ds, τ1⟩
    · rfl
    simp only [wo_some, wo_ite]
  | .lst es, τ, Q => by
    rw [wpE, evE, wx_eq p es]
    rcases evX G cl p es τ with _ | ⟨ds, τ1⟩
    · rfl
    simp only [wo_some, wo_ite]
  | .call f es, τ, Q => by
    rw [wpE, evE, wl_eq p es]
    rcases evL G cl p es τ with _ | ⟨rs, τ1⟩
    · rfl
    simp only [wo_some]
    rcases G.fns.lookup f with _ | fn
    · rfl
    simp only [wo_some]
    rcases takeA p fn.io 0 rs τ1 with _ | ⟨ms, is, τ2⟩
    · rfl
    simp only [wo_some]
    rcases cl f ms with _ | ⟨m, os⟩ <;> rfl
  | .pcall f es, τ, Q => by
    rw [wpE, evE, wl_eq p es]
    rcases evL G cl p es τ with _ | ⟨rs, τ1⟩
    · rfl
    simp only [wo_some]
    rcases rs.mapM (lookZ τ1) with _ | ds
    · rfl
    simp only [wo_some]
    rcases cl f (ds.map .v) with _ | ⟨m, os⟩
    · rfl
    simp only [wc_some, wo_map]
  | .frz a, τ, Q => by
    rw [wpE, evE, we_eq p a]
    rcases evE G cl p a τ with _ | ⟨r, τ1⟩ <;> rfl
  | .callM f a es, τ, Q => by
    rw [wpE, evE]
    cases p with
    | true => simp [wo_none]
    | false =>
      rw [if_neg Bool.false_ne_true]
      simp only [true_and]
      rw [we_eq false a]
      rcases evE G cl false a τ with _ | ⟨_ | m | _, τ1⟩ <;> try rfl
      simp only [wo_some, asM, wl_eq false es]
      rcases evL G cl false es τ1 with _ | ⟨rs, τ2⟩
      · rfl
      simp only [wo_some]
      rcases G.fns.lookup f with _ | fn
      · rfl
      simp only [wo_some]
      rcases takeA false fn.io 1 rs τ2 with _ | ⟨ms, is, τ3⟩
      · rfl
      simp only [wo_some]
      rcases cl f (m :: ms) with _ | ⟨r, _ | ⟨o0, os⟩⟩
      · rfl
      · simp only [wc_some, wo_none]
        exact propext ⟨fun ⟨_, _, e, _⟩ => (nomatch e), fun h => h.elim⟩
      · simp only [wc_some, wo_some]
        exact propext ⟨fun ⟨_, _, e, h⟩ => by cases e; exact h, fun h => ⟨_, _, rfl, h⟩⟩
  | .call1 f a, τ, Q => by
    rw [wpE, evE]
    cases p with
    | true => simp [wo_none]
    | false =>
      rw [if_neg Bool.false_ne_true]
      simp only [true_and]
      rw [we_eq false a]
      rcases evE G cl false a τ with _ | ⟨_ | m | _, τ1⟩ <;> try rfl
      simp only [wo_some, asM]
      rcases cl f [m] with _ | ⟨r, os⟩ <;> rfl
  | .mk c es, τ, Q => by
    rw [wpE, evE, wl_eq p es]
    rcases evL G cl p es τ with _ | ⟨rs, τ1⟩
    · rfl
    simp only [wo_some]
    rcases G.cls.lookup c with _ | k
    · rfl
    simp only [wo_some]
    rcases G.fns.lookup k.init with _ | fn
    · rfl
    simp only [wo_some]
    rcases takeA p fn.io 1 rs τ1 with _ | ⟨ms, is, τ2⟩
    · rfl
    simp only [wo_some]
    rcases cl k.init (.ins c [] :: ms) with _ | ⟨m, os⟩
    · rfl
    refine propext ⟨?_, ?_⟩
    · rintro ⟨s, r, rfl, rfl, h⟩
      exact h
    · intro h
      split at h
      · rename_i e; cases e; exact ⟨_, _, rfl, rfl, h⟩
      · exact h.elim
  | .blt f es, τ, Q => by
    rw [wpE, evE, wl_eq p es]
    rcases evL G cl p es τ with _ | ⟨rs, τ1⟩
    · rfl
    simp only [wo_some]
    rcases rs.mapM (look τ1) with _ | vs
    · rfl
    simp only [wo_some, wo_map]
  | .um m o es, τ, Q => by
    rw [wpE, evE, we_eq p o]
    rcases evE G cl p o τ with _ | ⟨ro, τ1⟩
    · rfl
    simp only [wo_some]
    rcases recvC τ1 m ro with _ | c
    · rfl
    simp only [wo_some]
    rcases G.cls.lookup c with _ | k
    · rfl
    simp only [wo_some]
    rcases k.ms.lookup m with _ | f
    · rfl
    simp only [wo_some]
    rcases G.fns.lookup f with _ | fn
    · rfl
    simp only [wo_some, wl_eq p es]
    rcases evL G cl p es τ1 with _ | ⟨rs, τ2⟩
    · rfl
    simp only [wo_some]
    rcases ro with d | m' | ⟨i, _ | f'⟩
    · simp only
      rcases takeA p fn.io 1 rs τ2 with _ | ⟨ms, is, τ3⟩
      · rfl
      simp only [wo_some]
      rcases cl f (.v d :: ms) with _ | ⟨r, _ | ⟨s, os⟩⟩
      · rfl
      · exact propext ⟨fun ⟨_, _, e, _⟩ => (nomatch e), fun h => h.elim⟩
      · exact propext ⟨fun ⟨_, _, e, h⟩ => by cases e; exact h, fun h => ⟨_, _, rfl, h⟩⟩
    · cases p with
      | true => exact propext ⟨fun h => (nomatch h.1), fun h => h.elim⟩
      | false =>
        simp only [true_and, Bool.false_eq_true, if_false]
        rcases takeA false fn.io 1 rs τ2 with _ | ⟨ms, is, τ3⟩
        · rfl
        simp only [wo_some]
        rcases cl f (m' :: ms) with _ | ⟨r, _ | ⟨s, os⟩⟩
        · rfl
        · exact propext ⟨fun ⟨_, _, e, _⟩ => (nomatch e), fun h => h.elim⟩
        · exact propext ⟨fun ⟨_, _, e, h⟩ => by cases e; exact h, fun h => ⟨_, _, rfl, h⟩⟩
    · simp only
      rcases takeA p fn.io 0 (.pl i none :: rs) τ2 with _ | ⟨ms, is, τ3⟩
      · rfl
      simp only [wo_some]
      rcases cl f ms with _ | ⟨r, os⟩ <;> rfl
    · rfl
  | .bm m o es, τ, Q => by
    rw [wpE, evE, we_eq p o]
    rcases evE G cl p o τ with _ | ⟨ro, τ1⟩
    · rfl
    simp only [wo_some]
    rcases ro with d | m' | ⟨i, f⟩
    · rfl
    · rfl
    cases p with
    | true => exact propext ⟨fun h => (nomatch h.1), fun h => h.elim⟩
    | false =>
      simp only [true_and, Bool.false_eq_true, if_false]
      rcases hg : getP τ1 i f with _ | m1
      · exact propext ⟨fun h => (by obtain ⟨⟨_, e⟩, _⟩ := h; cases e), fun h => h.elim⟩
      rcases m1 with _ | ys | _ | _ | _
      · exact propext ⟨fun h => (by obtain ⟨⟨_, e⟩, _⟩ := h; cases e), fun h => h.elim⟩
      · have : (∃ zs, some (M.lst ys) = some (M.lst zs)) = True := eq_true ⟨_, rfl⟩
        simp only [this, true_and, wx_eq f.isSome es]
        rcases evX G cl f.isSome es τ1 with _ | ⟨ds, τ2⟩
        · rfl
        simp only [wo_some]
        rcases hh : getP τ2 i f with _ | m2
        · exact propext ⟨fun h => (by obtain ⟨_, e, _⟩ := h; cases e), fun h => h.elim⟩
        rcases m2 with _ | zs | _ | _ | _
        · exact propext ⟨fun h => (by obtain ⟨_, e, _⟩ := h; cases e), fun h => h.elim⟩
        · simp only
          rcases hb : bmD m zs ds with _ | ⟨d, us⟩
          · exact propext ⟨fun h => (by obtain ⟨_, e, h⟩ := h; cases e; rw [hb] at h; exact h), fun h => h.elim⟩
          · exact propext ⟨fun h => (by obtain ⟨_, e, h⟩ := h; cases e; rw [hb] at h; exact h), fun h => ⟨_, rfl, by rw [hb]; exact h⟩⟩
        · exact propext ⟨fun h => (by obtain ⟨_, e, _⟩ := h; cases e), fun h => h.elim⟩
        · exact propext ⟨fun h => (by obtain ⟨_, e, _⟩ := h; cases e), fun h => h.elim⟩
        · exact propext ⟨fun h => (by obtain ⟨_, e, _⟩ := h; cases e), fun h => h.elim⟩
      · exact propext ⟨fun h => (by obtain ⟨⟨_, e⟩, _⟩ := h; cases e), fun h => h.elim⟩
      · exact propext ⟨fun h => (by obtain ⟨⟨_, e⟩, _⟩ := h; cases e), fun h => h.elim⟩
      · exact propext ⟨fun h => (by obtain ⟨⟨_, e⟩, _⟩ := h; cases e), fun h => h.elim⟩
  | .bits o, τ, Q => by
    rw [wpE, evE, we_eq p o]
    rcases evE G cl p o τ with _ | ⟨ra, τ1⟩
    · rfl
    rcases ra with d | _ | _ <;> try rfl
    cases d <;> rfl
  | .ixof o x, τ, Q => by
    rw [wpE, evE, we_eq p o]
    rcases evE G cl p o τ with _ | ⟨ra, τ1⟩
    · rfl
    simp only [wo_some]
    rcases look τ1 (setl ra) with _ | u0
    · rfl
    rcases u0 with _ | _ | _ | _ | _ | _ | _ | _ | _ | _ | _ | _ <;> try rfl
    simp only [wo_some, lstD, we_eq (p || ra.isF) x]
    rcases evE G cl (p || ra.isF) x τ1 with _ | ⟨rb, τ2⟩
    · rfl
    simp only [wo_some]
    rcases look τ2 (setl ra) with _ | u
    · rfl
    rcases u with _ | _ | _ | _ | _ | _ | _ | ys | _ | _ | _ | _ <;> try rfl
    rcases look τ2 (setl rb) with _ | y
    · rfl
    simp only [wo_some, wo_map, lstD]
  | .idx a b, τ, Q => by
    rw [wpE, evE, we_eq p a]
    rcases evE G cl p a τ with _ | ⟨ra, τ1⟩
    · rfl
    simp only [wo_some, we_eq (p || ra.isF) b]
    rcases evE G cl (p || ra.isF) b τ1 with _ | ⟨rb, τ2⟩
    · rfl
    simp only [wo_some]
    rcases look τ2 (setl ra) with _ | x
    · rfl
    rcases look τ2 (setl rb) with _ | y
    · rfl
    simp only [wo_some, wo_map]
  | .slc a lo hi, τ, Q => by
    rw [wpE, evE, we_eq p a]
    rcases evE G cl p a τ with _ | ⟨ra, τ1⟩
    · rfl
    simp only [wo_some]
    have hh : ∀ (l : Option Int) (τ2 : T), (if isNonK hi = true then WO (look τ2 (setl ra)) fun x => WO (slcP x l none) fun r => Q r τ2 else wpE G cl (p || ra.isF) hi τ2 fun rl τ3 => WO (asI rl) fun h => WO (look τ3 (setl ra)) fun x => WO (slcP x l (some h)) fun r => Q r τ3) =
        WO (match (if isNonK hi then some (none, τ2) else (match evE G cl (p || ra.isF) hi τ2 with
          | some (.d (.int h), τ3) => some (some h, τ3)
          | _ => none)) with
        | none => none
        | some (h, τ3) => match look τ3 (setl ra) with
          | some x => (slcP x l h).map fun r => (r, τ3)
          | none => none) fun u => Q u.1 u.2 := by
      intro l τ2
      by_cases hk : isNonK hi = true
      · simp only [hk, if_true]
        rcases look τ2 (setl ra) with _ | x
        · rfl
        simp only [wo_some, wo_map]
      · simp only [hk, Bool.false_eq_true, if_false, we_eq (p || ra.isF) hi]
        rcases evE G cl (p || ra.isF) hi τ2 with _ | ⟨rh, τ3⟩
        · rfl
        rcases rh with d | _ | _ <;> try rfl
        cases d <;> try rfl
        simp only [wo_some, asI]
        rcases look τ3 (setl ra) with _ | x
        · rfl
        simp only [wo_some, wo_map]
    by_cases hk : isNonK lo = true
    · simp only [hk, if_true]
      exact hh none τ1
    · simp only [hk, Bool.false_eq_true, if_false, we_eq (p || ra.isF) lo]
      rcases evE G cl (p || ra.isF) lo τ1 with _ | ⟨rl, τ2⟩
      · rfl
      rcases rl with d | _ | _ <;> try rfl
      cases d <;> try rfl
      simp only [wo_some, asI]
      exact hh _ τ2
  | .fld a f, τ, Q => by
    rw [wpE, evE, we_eq p a]
    rcases evE G cl p a τ with _ | ⟨ra, τ1⟩
    · rfl
    simp only [wo_some]
    rcases ra with d | _ | ⟨i, _ | _⟩ <;> try rfl
    · cases d <;> try rfl
      simp only [fldR, wo_map]
    · simp only [fldR]
      rcases getP τ1 i (some f) with _ | m
      · rfl
      cases m <;> rfl
  | .lc own tg it t elt, τ, Q => by
    rw [wpE, evE]
    cases p with
    | true => exact propext ⟨fun h => (nomatch h.1), fun h => h.elim⟩
    | false =>
      simp only [true_and, Bool.false_eq_true, if_false, wi_eq false it]
      rcases evI G cl false it τ with _ | ⟨xs, τ1⟩
      · rfl
      simp only [wo_some]
      rcases hideO own τ1 with _ | τ2
      · rfl
      simp only [wo_some]
      rw [wlc_eq (t' := evT G cl false t) (e' := fun t => match evE G cl false elt t with
          | some (r, t') => esc false t' r
          | none => none) (fun τ Q => wt_eq false t τ Q) fun τ Q => by
        rw [we_eq false elt]
        rcases evE G cl false elt τ with _ | ⟨r, τ'⟩ <;> rfl]
      rcases compL (bindTg [] tg) (evT G cl false t) (fun t => match evE G cl false elt t with
          | some (r, t') => esc false t' r
          | none => none) own xs [] τ2 with _ | ⟨ds, τ3⟩ <;> rfl
  | .lc2 own own1 tg it tg1 it1 t elt, τ, Q => by
    rw [wpE, evE]
    cases p with
    | true => exact propext ⟨fun h => (nomatch h.1), fun h => h.elim⟩
    | false =>
      simp only [true_and, Bool.false_eq_true, if_false, wi_eq false it]
      rcases evI G cl false it τ with _ | ⟨xs, τ1⟩
      · rfl
      simp only [wo_some]
      rcases hideO own τ1 with _ | τ2
      · rfl
      simp only [wo_some]
      rw [wlc2_eq (it' := fun t => evI G cl false it1 t) (inner' := compL (bindTg [] tg1) (evT G cl false t) (fun t => match evE G cl false elt t with
          | some (r, t') => esc false t' r
          | none => none) own1) (fun τ Q => wi_eq false it1 τ Q) fun ys acc τ Q => wlc_eq (t' := evT G cl false t) (e' := fun t => match evE G cl false elt t with
          | some (r, t') => esc false t' r
          | none => none) (fun τ Q => wt_eq false t τ Q) (fun τ Q => by
        rw [we_eq false elt]
        rcases evE G cl false elt τ with _ | ⟨r, τ'⟩ <;> rfl) ys acc τ Q]
      rcases compL2 (bindTg [] tg) (fun t => evI G cl false it1 t) (compL (bindTg [] tg1) (evT G cl false t) (fun t => match evE G cl false elt t with
          | some (r, t') => esc false t' r
          | none => none) own1) own own1 xs [] τ2 with _ | ⟨ds, τ3⟩ <;> rfl
  | .lrng it, τ, Q => by
    rw [wpE, evE, wi_eq p it]
    rcases evI G cl p it τ with _ | ⟨xs, τ1⟩
    · rfl
    simp only [wo_some, wo_ite]
  | .trng it, τ, Q => by
    rw [wpE, evE, wi_eq p it]
    rcases evI G cl p it τ with _ | ⟨xs, τ1⟩
    · rfl
    simp only [wo_some, wo_ite]
  | .rev a, τ, Q => by
    rw [wpE, evE, we_eq p a]
    rcases evE G cl p a τ with _ | ⟨ra, τ1⟩
    · rfl
    simp only [wo_some]
    rcases look τ1 (setl ra) with _ | x
    · rfl
    cases x <;> rfl
  | .sset b a, τ, Q => by
    rw [wpE, evE, we_eq p a]
    rcases evE G cl p a τ with _ | ⟨ra, τ1⟩
    · rfl
    simp only [wo_some]
    rcases seqLT (look τ1 (setl ra)) with _ | xs
    · rfl
    simp only [wo_some, setR]
    cases b
    · simp only [Bool.false_eq_true, if_false]
      rcases nsetD xs with _ | n <;> rfl
    · simp only [if_true]
      rcases ssetD xs with _ | n <;> rfl
  | .oeq ne es, τ, Q => by
    rw [wpE, evE, wx_eq p es]
    rcases evX G cl p es τ with _ | ⟨ds, τ1⟩
    · rfl
    simp only [wo_some]
    rcases eqDef G ds with _ | f
    · simp only [oeqW]
      rcases eqPl ne ds with _ | b <;> rfl
    simp only [oeqW]
    rcases cl f (ds.map .v) with _ | ⟨m, os⟩
    · rfl
    cases m with
    | v d => cases d <;> rfl
    | _ => rfl
  | .teq ne ci es, τ, Q => by
    rw [wpE, evE, wx_eq p es]
    rcases evX G cl p es τ with _ | ⟨ds, τ1⟩
    · rfl
    simp only [wo_some]
    by_cases h : teqD G cl ci ds = true
    · rw [if_pos h, if_pos h]
      rfl
    · rw [if_neg h, if_neg h]
      rcases eqPl ne ds with _ | b <;> rfl
  | .dct t, τ, Q => rfl
  | .dct1 t a b, τ, Q => by
    rw [wpE, evE, we_eq p a]
    rcases evE G cl p a τ with _ | ⟨ra, τ1⟩
    · rfl
    simp only [wo_some]
    rcases esc p τ1 ra with _ | ⟨x, τ2⟩
    · rfl
    simp only [wo_some, we_eq p b]
    rcases evE G cl p b τ2 with _ | ⟨rb, τ3⟩
    · rfl
    simp only [wo_some]
    rcases esc p τ3 rb with _ | ⟨y, τ4⟩
    · rfl
    simp only [wo_some, wo_map]
  | .kidx a es, τ, Q => by
    rw [wpE, evE, we_eq p a]
    rcases evE G cl p a τ with _ | ⟨ra, τ1⟩
    · rfl
    simp only [wo_some, wx_eq (p || ra.isF) es]
    rcases evX G cl (p || ra.isF) es τ1 with _ | ⟨ds, τ2⟩
    · rfl
    simp only [wo_some]
    rcases look τ2 (setl ra) with _ | x
    · exact propext ⟨fun ⟨_, _, _, e, _⟩ => (nomatch e), fun h => h.elim⟩
    cases x <;> try exact propext ⟨fun ⟨_, _, _, e, _⟩ => (nomatch e), fun h => h.elim⟩
    rcases keysD ds with _ | q
    · exact propext ⟨fun ⟨_, _, _, e, h⟩ => h, fun h => h.elim⟩
    simp only
    by_cases hl : ds.length ≤ SL
    · simp only [hl, true_and, if_true, wo_map]
      exact propext ⟨fun ⟨_, _, e, h⟩ => by cases e; exact h, fun h => ⟨_, _, rfl, h⟩⟩
    · simp only [hl, false_and, if_false, wo_none]
  | .kin neg es a, τ, Q => by
    rw [wpE, evE, wx_eq p es]
    rcases evX G cl p es τ with _ | ⟨ds, τ1⟩
    · rfl
    simp only [wo_some, we_eq p a]
    rcases evE G cl p a τ1 with _ | ⟨ra, τ2⟩
    · rfl
    simp only [wo_some]
    rcases look τ2 (setl ra) with _ | x
    · exact propext ⟨fun ⟨_, _, _, e, _⟩ => (nomatch e), fun h => h.elim⟩
    cases x <;> try exact propext ⟨fun ⟨_, _, _, e, _⟩ => (nomatch e), fun h => h.elim⟩
    rcases keysD ds with _ | q
    · exact propext ⟨fun ⟨_, _, _, e, h⟩ => h, fun h => h.elim⟩
    simp only
    by_cases hl : ds.length ≤ SL
    · simp only [hl, true_and, if_true]
      exact propext ⟨fun ⟨_, _, e, h⟩ => by cases e; exact h, fun h => ⟨_, _, rfl, h⟩⟩
    · simp only [hl, false_and, if_false, wo_none]
  | .dget o k x, τ, Q => by
    rw [wpE, evE, we_eq p o]
    rcases evE G cl p o τ with _ | ⟨ro, τ1⟩
    · rfl
    simp only [wo_some]
    rcases look τ1 (setl ro) with _ | u0
    · rfl
    rcases u0 with _ | _ | _ | _ | _ | _ | _ | _ | _ | _ | _ | _ <;> try rfl
    simp only [wo_some, isDK, we_eq (p || ro.isF) k]
    rcases evE G cl (p || ro.isF) k τ1 with _ | ⟨rk, τ2⟩
    · rfl
    simp only [wo_some, we_eq ((p || ro.isF) || rk.isF) x]
    rcases evE G cl ((p || ro.isF) || rk.isF) x τ2 with _ | ⟨rx, τ3⟩
    · rfl
    simp only [wo_some]
    rcases look τ3 (setl ro) with _ | u
    · rfl
    cases u <;> try exact propext ⟨fun ⟨_, _, e, _⟩ => (nomatch e), fun h => h.elim⟩
    rcases look τ3 (setl rk) with _ | y
    · exact propext ⟨fun ⟨_, _, e, h⟩ => h, fun h => h.elim⟩
    rcases setl rx with d | _ | _
    · simp only [wo_some]
      rcases keyD y with _ | q
      · exact propext ⟨fun ⟨_, _, e, h⟩ => h, fun h => h.elim⟩
      · exact propext ⟨fun ⟨_, _, e, h⟩ => by cases e; exact h, fun h => ⟨_, _, rfl, h⟩⟩
    · exact propext ⟨fun ⟨_, _, e, h⟩ => h, fun h => h.elim⟩
    · exact propext ⟨fun ⟨_, _, e, h⟩ => h, fun h => h.elim⟩
theorem wx_eq (p : Bool) : ∀ (es : CEs) (τ : T) (Q : List D → T → Prop), wpX G cl p es τ Q = WO (evX G cl p es τ) fun u => Q u.1 u.2
  | .nil, τ, Q => rfl
  | .cons e r, τ, Q => by
    rw [wpX, evX, we_eq p e]
    rcases evE G cl p e τ with _ | ⟨x, τ1⟩
    · rfl
    simp only [wo_some]
    rcases esc p τ1 x with _ | ⟨d, τ2⟩
    · rfl
    simp only [wo_some, wx_eq p r, wo_map]
theorem wl_eq (p : Bool) : ∀ (es : CEs) (τ : T) (Q : List R → T → Prop), wpL G cl p es τ Q = WO (evL G cl p es τ) fun u => Q u.1 u.2
  | .nil, τ, Q => rfl
  | .cons e r, τ, Q => by
    rw [wpL, evL, we_eq p e]
    rcases evE G cl p e τ with _ | ⟨x, τ1⟩
    · rfl
    simp only [wo_some, wl_eq (p || x.isF) r, wo_map]
theorem wt_eq (p : Bool) : ∀ (e : CT) (τ : T) (Q : Bool → T → Prop), wpT G cl p e τ Q = WO (evT G cl p e τ) fun u => Q u.1 u.2
  | .yes, τ, Q => rfl
  | .e e, τ, Q => by
    rw [wpT, evT, we_eq p e]
    rcases evE G cl p e τ with _ | ⟨ra, τ1⟩
    · rfl
    rcases ra with d | _ | _ <;> try rfl
    cases d <;> rfl
  | .not a, τ, Q => by
    rw [wpT, evT, wt_eq p a]
    rcases evT G cl p a τ with _ | ⟨_, τ1⟩ <;> rfl
  | .and a b, τ, Q => by
    rw [wpT, evT, wt_eq p a]
    rcases evT G cl p a τ with _ | ⟨_ | _, τ1⟩
    · rfl
    · rfl
    · simp only [wo_some, wt_eq p b, if_true]
  | .or a b, τ, Q => by
    rw [wpT, evT, wt_eq p a]
    rcases evT G cl p a τ with _ | ⟨_ | _, τ1⟩
    · rfl
    · simp only [wo_some, wt_eq p b, Bool.false_eq_true, if_false]
    · rfl
theorem wi_eq (p : Bool) : ∀ (e : CI) (τ : T) (Q : List D → T → Prop), wpI G cl p e τ Q = WO (evI G cl p e τ) fun u => Q u.1 u.2
  | .e e, τ, Q => by
    rw [wpI, evI, we_eq p e]
    rcases evE G cl p e τ with _ | ⟨r, τ1⟩
    · rfl
    simp only [wo_some]
    rcases esc p τ1 r with _ | ⟨d, τ2⟩
    · rfl
    cases d <;> rfl
  | .rng1 a, τ, Q => by
    rw [wpI, evI, we_eq p a]
    rcases evE G cl p a τ with _ | ⟨ra, τ1⟩
    · rfl
    rcases ra with d | _ | _ <;> try rfl
    cases d <;> try rfl
    simp only [wo_some, asI, wo_ite]
  | .rng2 a b, τ, Q => by
    rw [wpI, evI, we_eq p a]
    rcases evE G cl p a τ with _ | ⟨ra, τ1⟩
    · rfl
    rcases ra with d | _ | _ <;> try rfl
    cases d <;> try rfl
    simp only [wo_some, asI, we_eq p b]
    rcases evE G cl p b τ1 with _ | ⟨rb, τ2⟩
    · rfl
    rcases rb with d | _ | _ <;> try rfl
    cases d <;> try rfl
    simp only [wo_some, wo_ite]
  | .enum a, τ, Q => by
    rw [wpI, evI, we_eq p a]
    rcases evE G cl p a τ with _ | ⟨r, τ1⟩
    · rfl
    simp only [wo_some]
    rcases esc p τ1 r with _ | ⟨d, τ2⟩
    · rfl
    cases d <;> rfl
  | .zip a b, τ, Q => by
    rw [wpI, evI, we_eq p a]
    rcases evE G cl p a τ with _ | ⟨ra, τ1⟩
    · rfl
    simp only [wo_some]
    rcases esc p τ1 ra with _ | ⟨x, τ2⟩
    · rfl
    simp only [wo_some, we_eq p b]
    rcases evE G cl p b τ2 with _ | ⟨rb, τ3⟩
    · rfl
    simp only [wo_some]
    rcases esc p τ3 rb with _ | ⟨y, τ4⟩
    · rfl
    cases x <;> cases y <;> rfl
end
end
end Ev

/-! Ev, part X: statements, loops, calls. -/
namespace Ev
open PySem L2
theorem wfor_eq {g : D → T → Option T} {b : T → Wh → Prop} {b' : T → Option Fl} (hb : ∀ τ w, b τ w = WO (b' τ) w.of) : ∀ xs τ w, WFor g b xs τ w = WO (forL g b' xs τ) w.of := by
  intro xs
  induction xs with
  | nil => intro τ w; rfl
  | cons x xs ih =>
    intro τ w
    rw [WFor, forL]
    rcases g x τ with _ | τ1
    · rfl
    simp only [wo_some, hb]
    rcases b' τ1 with _ | fl
    · rfl
    cases fl <;> simp only [wo_some, Wh.of, ih]
theorem wwhl_eq {t : T → (Bool → T → Prop) → Prop} {t' : T → Option (Bool × T)} {b : T → Wh → Prop} {b' : T → Option Fl} (ht : ∀ τ Q, t τ Q = WO (t' τ) fun u => Q u.1 u.2) (hb : ∀ τ w, b τ w = WO (b' τ) w.of) : ∀ n τ w, WWhl t b n τ w = WO (whileL t' b' n τ) w.of := by
  intro n
  induction n with
  | zero => intro τ w; rfl
  | succ n ih =>
    intro τ w
    rw [WWhl, whileL, ht]
    rcases t' τ with _ | ⟨_ | _, τ1⟩
    · rfl
    · rfl
    simp only [wo_some, if_true, hb]
    rcases b' τ1 with _ | fl
    · rfl
    cases fl <;> simp only [wo_some, Wh.of, ih]
section
variable {G : GS} {cl : Caller}
theorem wm_eq : ∀ (es : CEs) (τ : T) (Q : List M → T → Prop), wpM G cl es τ Q = WO (evM G cl es τ) fun u => Q u.1 u.2
  | .nil, τ, Q => by rw [wpM, evM]; rfl
  | .cons e r, τ, Q => by
    rw [wpM, evM, we_eq false e]
    rcases evE G cl false e τ with _ | ⟨x, τ1⟩
    · rfl
    simp only [wo_some]
    rcases give τ1 x with _ | ⟨m, τ2⟩
    · rfl
    simp only [wo_some, wm_eq r, wo_map]
mutual
theorem ws_eq (io : List Nat) : ∀ (s : CS) (τ : T) (w : Wh), wpS G cl io s τ w = WO (evS G cl io s τ) w.of
  | .set i e, τ, w => by
    rw [wpS, evS]
    by_cases hi : io.contains i = true
    · rw [if_pos hi]; exact propext ⟨fun h => (by rw [hi] at h; exact nomatch h.1), fun h => h.elim⟩
    · rw [if_neg hi]
      have hf : (io.contains i = false) = True := eq_true (by simpa using hi)
      simp only [hf, true_and, we_eq false e]
      rcases evE G cl false e τ with _ | ⟨r, τ1⟩
      · rfl
      simp only [wo_some]
      rcases give τ1 r with _ | ⟨m, τ2⟩ <;> rfl
  | .setM is es, τ, w => by
    rw [wpS, evS]
    by_cases hi : (is.any fun i => io.contains i) = true
    · rw [if_pos hi]; exact propext ⟨fun h => (by rw [hi] at h; exact nomatch h.1), fun h => h.elim⟩
    · rw [if_neg hi]
      have hf : ((is.any fun i => io.contains i) = false) = True := eq_true (Bool.eq_false_iff.mpr hi)
      simp only [hf, true_and, wm_eq es]
      rcases evM G cl es τ with _ | ⟨ms, τ1⟩
      · rfl
      simp only [wo_some, wo_map]
      rfl
  | .setT tg e, τ, w => by
    rw [wpS, evS, we_eq false e]
    rcases evE G cl false e τ with _ | ⟨r, τ1⟩
    · rfl
    simp only [wo_some]
    rcases esc false τ1 r with _ | ⟨d, τ2⟩
    · rfl
    simp only [wo_some, wo_map]
    rfl
  | .par i j a b, τ, w => by
    rw [wpS, evS]
    by_cases hi : (io.contains i || io.contains j) = true
    · rw [if_pos hi]; exact propext ⟨fun h => (by rw [hi] at h; exact nomatch h.1), fun h => h.elim⟩
    · rw [if_neg hi]
      have hf : ((io.contains i || io.contains j) = false) = True := eq_true (Bool.eq_false_iff.mpr hi)
      simp only [hf, true_and, wx_eq false (.cons a (.cons b .nil))]
      rcases evX G cl false (.cons a (.cons b .nil)) τ with _ | ⟨_ | ⟨x, _ | ⟨y, _ | _⟩⟩, τ1⟩
      · rfl
      · exact propext ⟨fun ⟨_, _, e, _⟩ => (nomatch e), fun h => h.elim⟩
      · exact propext ⟨fun ⟨_, _, e, _⟩ => (nomatch e), fun h => h.elim⟩
      · exact propext ⟨fun ⟨_, _, e, h⟩ => by cases e; exact h, fun h => ⟨_, _, rfl, h⟩⟩
      · exact propext ⟨fun ⟨_, _, e, _⟩ => (nomatch e), fun h => h.elim⟩
  | .aug i op e, τ, w => by
    rw [wpS, evS]
    by_cases hi : io.contains i = true
    · rw [if_pos hi]; exact propext ⟨fun h => (by rw [hi] at h; exact nomatch h.1), fun h => h.elim⟩
    · rw [if_neg hi]
      have hf : (io.contains i = false) = True := eq_true (by simpa using hi)
      simp only [hf, true_and]
      rcases slotM τ i with _ | m
      · exact propext ⟨fun ⟨_, e, _⟩ => (nomatch e), fun h => h.elim⟩
      rcases m with d | _ | _ | _ | _ <;> try exact propext ⟨fun ⟨_, e, _⟩ => (nomatch e), fun h => h.elim⟩
      cases d <;> try exact propext ⟨fun ⟨_, e, _⟩ => (nomatch e), fun h => h.elim⟩
      rename_i x
      have : ∀ P : Int → Prop, (∃ x', some (M.v (.int x)) = some (M.v (.int x')) ∧ P x') = P x := fun P => propext ⟨fun ⟨_, e, h⟩ => by cases e; exact h, fun h => ⟨_, rfl, h⟩⟩
      rw [this]
      simp only [we_eq false e]
      rcases evE G cl false e τ with _ | ⟨r, τ1⟩
      · rfl
      rcases r with d | _ | _ <;> try rfl
      cases d <;> try rfl
      simp only [wo_some, asI]
      rcases augD op x _ with _ | z <;> rfl
  | .fset i f e, τ, w => by
    rw [wpS, evS, we_eq false e]
    rcases evE G cl false e τ with _ | ⟨r, τ1⟩
    · rfl
    simp only [wo_some]
    rcases give τ1 r with _ | ⟨m, τ2⟩
    · rfl
    simp only [wo_some]
    rcases slotM τ2 i with _ | m1
    · exact propext ⟨fun ⟨_, _, e, _⟩ => (nomatch e), fun h => h.elim⟩
    rcases m1 with _ | _ | _ | _ | _ <;> try exact propext ⟨fun ⟨_, _, e, _⟩ => (nomatch e), fun h => h.elim⟩
    simp only [wo_ite]
    exact propext ⟨fun ⟨_, _, e, h1, h2, h⟩ => by cases e; exact ⟨⟨h1, h2⟩, h⟩, fun h => ⟨_, _, rfl, h.1.1, h.1.2, h.2⟩⟩
  | .iset i k e, τ, w => by
    rw [wpS, evS, we_eq false e]
    rcases evE G cl false e τ with _ | ⟨r, τ1⟩
    · rfl
    simp only [wo_some]
    rcases esc false τ1 r with _ | ⟨d, τ2⟩
    · rfl
    simp only [wo_some, we_eq true k]
    rcases evE G cl true k τ2 with _ | ⟨rk, τ3⟩
    · rfl
    rcases rk with kd | _ | _ <;> try rfl
    simp only [wo_some, asD]
    rcases slotM τ2 i with _ | m
    · rfl
    simp only [wo_some]
    rcases setIx m kd d with _ | m' <;> rfl
  | .fiset i f k e, τ, w => by
    rw [wpS, evS, we_eq false e]
    rcases evE G cl false e τ with _ | ⟨r, τ1⟩
    · rfl
    simp only [wo_some]
    rcases esc false τ1 r with _ | ⟨d, τ2⟩
    · rfl
    simp only [wo_some, we_eq true k]
    rcases evE G cl true k τ2 with _ | ⟨rk, τ3⟩
    · rfl
    rcases rk with kd | _ | _ <;> try rfl
    simp only [wo_some, asD]
    rcases getP τ2 i (some f) with _ | m
    · rfl
    simp only [wo_some]
    rcases setIx m kd d with _ | m' <;> rfl
  | .kset i f es e, τ, w => by
    rw [wpS, evS, we_eq false e]
    rcases evE G cl false e τ with _ | ⟨r, τ1⟩
    · rfl
    simp only [wo_some]
    rcases esc false τ1 r with _ | ⟨d, τ2⟩
    · rfl
    simp only [wo_some, wx_eq true es]
    rcases evX G cl true es τ2 with _ | ⟨ds, τ3⟩
    · rfl
    simp only [wo_some]
    rcases getP τ2 i f with _ | m
    · exact propext ⟨fun ⟨_, _, e, _⟩ => (nomatch e), fun h => h.elim⟩
    rcases m with _ | _ | _ | ⟨ks, vs⟩ | _ <;> try exact propext ⟨fun ⟨_, _, e, _⟩ => (nomatch e), fun h => h.elim⟩
    rcases keysD ds with _ | q
    · exact propext ⟨fun ⟨_, _, e, h⟩ => h, fun h => h.elim⟩
    simp only [wo_ite]
    exact propext ⟨fun ⟨_, _, e, h⟩ => by cases e; exact h, fun h => ⟨_, _, rfl, h⟩⟩
  | .bad, τ, w => rfl
  | .ex e, τ, w => by
    rw [wpS, evS, we_eq false e]
    rcases evE G cl false e τ with _ | ⟨r, τ1⟩ <;> rfl
  | .ret e, τ, w => by
    rw [wpS, evS, we_eq false e]
    rcases evE G cl false e τ with _ | ⟨r, τ1⟩
    · rfl
    simp only [wo_some]
    rcases r with d | m | ⟨i, _ | f⟩
    · rfl
    · rfl
    · simp only
      by_cases hi : io.contains i = true
      · simp only [hi, if_true]
        rcases esc false τ1 (.pl i none) with _ | ⟨d, τ2⟩ <;> rfl
      · simp only [hi, if_false]
        rcases slotM τ1 i with _ | m <;> rfl
    · simp only
      rcases esc false τ1 (.pl i (some f)) with _ | ⟨d, τ2⟩ <;> rfl
  | .retN, τ, w => rfl
  | .pass, τ, w => rfl
  | .brk, τ, w => rfl
  | .cont, τ, w => rfl
  | .ite t a b, τ, w => by
    rw [wpS, evS, wt_eq false t]
    rcases evT G cl false t τ with _ | ⟨_ | _, τ1⟩
    · rfl
    · simp only [wo_some, Bool.false_eq_true, if_false, wss_eq io b]
    · simp only [wo_some, if_true, wss_eq io a]
  | .whl t b, τ, w => by
    rw [wpS, evS]
    exact wwhl_eq (fun τ Q => wt_eq false t τ Q) (fun τ w => wss_eq io b τ w) WF τ w
  | .loop tg it b, τ, w => by
    rw [wpS, evS, wi_eq false it]
    rcases evI G cl false it τ with _ | ⟨xs, τ1⟩
    · rfl
    simp only [wo_some]
    exact wfor_eq (fun τ w => wss_eq io b τ w) xs τ1 w
theorem wss_eq (io : List Nat) : ∀ (s : CSs) (τ : T) (w : Wh), wpSs G cl io s τ w = WO (evSs G cl io s τ) w.of
  | .nil, τ, w => rfl
  | .cons s r, τ, w => by
    rw [wpSs, evSs, ws_eq io s]
    rcases evS G cl io s τ with _ | fl
    · rfl
    cases fl
    · simp only [wo_some, Wh.of, wss_eq io r]
    · rfl
    · rfl
    · rfl
end
end
structure Wh.le (w v : Wh) : Prop where
  nx : ∀ τ, w.nx τ → v.nx τ
  rt : ∀ m τ, w.rt m τ → v.rt m τ
  bk : ∀ τ, w.bk τ → v.bk τ
  ct : ∀ τ, w.ct τ → v.ct τ
theorem Wh.le.of {w v : Wh} (h : w.le v) : ∀ fl, w.of fl → v.of fl
  | .nx τ => h.nx τ
  | .bk τ => h.bk τ
  | .ct τ => h.ct τ
  | .ret m τ => h.rt m τ
section
variable {G : GS} {cl : Caller}
theorem wpSs.mono {io : List Nat} {s : CSs} {τ : T} {w v : Wh} (h : wpSs G cl io s τ w) (k : w.le v) : wpSs G cl io s τ v := by
  rw [wss_eq] at h ⊢
  exact h.mono k.of
theorem wpE.mono {p : Bool} {e : CE} {τ : T} {Q R : R → T → Prop} (h : wpE G cl p e τ Q) (k : ∀ r τ, Q r τ → R r τ) : wpE G cl p e τ R := by
  rw [we_eq] at h ⊢
  exact h.mono fun u => k _ _
theorem wpT.mono {p : Bool} {e : CT} {τ : T} {Q R : Bool → T → Prop} (h : wpT G cl p e τ Q) (k : ∀ r τ, Q r τ → R r τ) : wpT G cl p e τ R := by
  rw [wt_eq] at h ⊢
  exact h.mono fun u => k _ _
/-- a for loop, by what holds ahead of each turn: done items, items to come -/
theorem for_inv {io : List Nat} {tg : Tg} {s : CSs} {w : Wh} (I : List D → List D → T → Prop) {xs : List D} {τ : T} (h0 : I [] xs τ)
    (h1 : ∀ ds x rs τ, xs = ds ++ x :: rs → I ds (x :: rs) τ → WO (bindTg io tg x τ) fun τ1 => wpSs G cl io s τ1 { nx := I (ds ++ [x]) rs, ct := I (ds ++ [x]) rs, bk := w.nx, rt := w.rt })
    (h2 : ∀ τ, I xs [] τ → w.nx τ) : WFor (bindTg io tg) (wpSs G cl io s) xs τ w := by
  have H : ∀ rs ds τ, xs = ds ++ rs → I ds rs τ → WFor (bindTg io tg) (wpSs G cl io s) rs τ w := by
    intro rs
    induction rs with
    | nil =>
      intro ds τ e h
      rw [List.append_nil] at e
      cases e
      exact h2 _ h
    | cons x rs ih =>
      intro ds τ e h
      rw [WFor]
      refine (h1 ds x rs τ e h).mono fun τ1 h => h.mono ⟨?_, fun _ _ => id, fun _ => id, ?_⟩
      · intro τ2 h; exact ih _ _ (by simp [e]) h
      · intro τ2 h; exact ih _ _ (by simp [e]) h
  exact H xs [] τ rfl h0
/-- the same, by a count -/
theorem for_nat {io : List Nat} {tg : Tg} {s : CSs} {w : Wh} (I : Nat → T → Prop) {xs : List D} {τ : T} (h0 : I 0 τ)
    (h1 : ∀ k x τ, xs[k]? = some x → I k τ → WO (bindTg io tg x τ) fun τ1 => wpSs G cl io s τ1 { nx := I (k + 1), ct := I (k + 1), bk := w.nx, rt := w.rt })
    (h2 : ∀ τ, I xs.length τ → w.nx τ) : WFor (bindTg io tg) (wpSs G cl io s) xs τ w := by
  refine for_inv (fun ds _ τ => I ds.length τ) h0 ?_ h2
  intro ds x rs τ e h
  refine (h1 ds.length x τ (by simp [e]) h).mono fun τ1 h => h.mono ⟨?_, fun _ _ => id, fun _ => id, ?_⟩
  · intro τ2 h; simpa using h
  · intro τ2 h; simpa using h
/-- a while loop, by a measure -/
theorem whl_inv {io : List Nat} {t : CT} {s : CSs} {w : Wh} (I : Nat → T → Prop) {n : Nat} {τ : T} (hn : n < WF) (h0 : I n τ)
    (h1 : ∀ k τ, I k τ → wpT G cl false t τ fun b τ1 => if b = true then wpSs G cl io s τ1 { nx := fun τ => ∃ j < k, I j τ, ct := fun τ => ∃ j < k, I j τ, bk := w.nx, rt := w.rt } else w.nx τ1) :
    WWhl (wpT G cl false t) (wpSs G cl io s) WF τ w := by
  have H : ∀ m k τ, k < m → I k τ → WWhl (wpT G cl false t) (wpSs G cl io s) m τ w := by
    intro m
    induction m with
    | zero => intro k τ h; exact absurd h (Nat.not_lt_zero _)
    | succ m ih =>
      intro k τ hk h
      rw [WWhl]
      refine (h1 k τ h).mono fun b τ1 h => ?_
      split at h
      · rw [if_pos ‹_›]
        refine h.mono ⟨?_, fun _ _ => id, fun _ => id, ?_⟩
        · rintro τ2 ⟨j, hj, h⟩; exact ih j _ (by omega) h
        · rintro τ2 ⟨j, hj, h⟩; exact ih j _ (by omega) h
      · rw [if_neg ‹_›]; exact h
  exact H WF n τ hn h0
/-- a comprehension, by what holds ahead of each turn -/
theorem lc_inv {own : List Nat} {g : D → T → Option T} {t : T → (Bool → T → Prop) → Prop} {e : T → (D → T → Prop) → Prop}
    {t' : T → Option (Bool × T)} {e' : T → Option (D × T)} (ht : ∀ τ Q, t τ Q = WO (t' τ) fun u => Q u.1 u.2) (he : ∀ τ Q, e τ Q = WO (e' τ) fun u => Q u.1 u.2)
    {Q : List D → T → Prop} (I : List D → List D → T → Prop) {xs : List D} {τ : T} (h0 : I xs [] τ)
    (h1 : ∀ x rs acc τ, I (x :: rs) acc τ → WO (g x τ) fun τ1 => t τ1 fun b τ2 => if b = true then e τ2 fun d τ3 => acc.length < SL ∧ WO (hideO own τ3) fun τ4 => I rs (acc ++ [d]) τ4 else WO (hideO own τ2) fun τ3 => I rs acc τ3)
    (h2 : ∀ acc τ, I [] acc τ → Q acc τ) : WLc g t e own xs [] τ Q := by
  have H : ∀ xs acc τ, I xs acc τ → WLc g t e own xs acc τ Q := by
    intro xs
    induction xs with
    | nil => intro acc τ h; exact h2 _ _ h
    | cons x xs ih =>
      intro acc τ h
      rw [WLc]
      refine (h1 x xs acc τ h).mono fun τ1 h => ?_
      rw [ht] at h ⊢
      refine h.mono fun u h => ?_
      split at h
      · rw [if_pos ‹_›, he]
        rw [he] at h
        exact h.mono fun u h => ⟨h.1, h.2.mono fun τ4 h => ih _ _ h⟩
      · rw [if_neg ‹_›]
        exact h.mono fun τ4 h => ih _ _ h
  exact H xs [] τ h0
end
theorem call_wp {G : GS} {n f : Nat} {F : Fn} [hF : HasF G f F] {args : List M} {Q : M → List M → Prop} (hl : args.length = F.np ∧ F.np ≤ F.ns)
    (h : wpSs G (callN G n) F.io F.body (args.map some ++ List.replicate (F.ns - F.np) none)
      { nx := fun τ => WO (outs F.io 0 args τ) fun os => Q (.v .non) os, rt := fun m τ => WO (outs F.io 0 args τ) fun os => Q m os }) : WC (callN G (n + 1) f args) Q := by
  rw [wss_eq] at h
  obtain ⟨fl, e, h⟩ := h.use
  rw [callN, hF.ok]
  simp only [hl.1, hl.2, and_self, if_true, e]
  cases fl with
  | nx τ => obtain ⟨os, eo, h⟩ := WO.use h; simp only [eo]; exact h
  | bk τ => exact h.elim
  | ct τ => exact h.elim
  | ret m τ => obtain ⟨os, eo, h⟩ := WO.use h; simp only [eo]; exact h
theorem wo_lookF {G : GS} {f : Nat} {F : Fn} [hF : HasF G f F] {Q : Fn → Prop} : WO (G.fns.lookup f) Q = Q F := by rw [hF.ok]; rfl
theorem wo_lookC {G : GS} {f : Nat} {F : Cl} [hF : HasC G f F] {Q : Cl → Prop} : WO (G.cls.lookup f) Q = Q F := by rw [hF.ok]; rfl
end Ev

/-! Ev, part Y: the small steps of an evaluation, each by its shape. -/
namespace Ev
open PySem L2
class HasG (G : GS) (i : Nat) (d : outParam D) : Prop where
  ok : G.consts[i]? = some d
theorem wo_getG {G : GS} {i : Nat} {d : D} [h : HasG G i d] {Q : D → Prop} : WO (G.consts[i]?) Q = Q d := by rw [h.ok]; rfl
theorem slot0 {m : Option M} {τ : T} : slotM (m :: τ) 0 = m := by cases m <;> rfl
theorem slotS {m : Option M} {τ : T} {n : Nat} : slotM (m :: τ) (n + 1) = slotM τ n := by simp only [slotM, List.getElem?_cons_succ]
theorem slR_n : slR i none = none := rfl
theorem slR_v {d : D} : slR i (some (.v d)) = some (.d d) := rfl
theorem slR_l {xs : List D} : slR i (some (.lst xs)) = some (.pl i none) := rfl
theorem slR_k {ks : List L2.Key} {xs : List D} : slR i (some (.dK ks xs)) = some (.pl i none) := rfl
theorem slR_t {ks : List (List L2.Key)} {xs : List D} : slR i (some (.dT ks xs)) = some (.pl i none) := rfl
theorem slR_i {c : Nat} {fs : List (Nat × M)} : slR i (some (.ins c fs)) = some (.pl i none) := rfl
theorem get_n {τ : T} {i : Nat} : getP τ i none = slotM τ i := rfl
theorem look_d {τ : T} {d : D} : look τ (.d d) = some d := rfl
theorem look_m {τ : T} {m : M} : look τ (.m m) = some (frz m) := rfl
theorem look_p {τ : T} {i : Nat} {f : Option Nat} : look τ (.pl i f) = (getP τ i f).bind viewM := by simp only [look]; cases getP τ i f <;> rfl
theorem esc_d {p : Bool} {τ : T} {d : D} : esc p τ (.d d) = some (d, τ) := rfl
theorem esc_m {p : Bool} {τ : T} {m : M} : esc p τ (.m m) = some (frz m, τ) := rfl
theorem esc_p {τ : T} {i : Nat} {f : Option Nat} : esc false τ (.pl i f) = (getP τ i f).map fun m => (frz m, setP τ i (.v (frz m)) f) := by unfold esc; simp only [Bool.false_eq_true, if_false]; cases getP τ i f <;> rfl
theorem give_d {τ : T} {d : D} : give τ (.d d) = some (.v d, τ) := rfl
theorem give_m {τ : T} {m : M} : give τ (.m m) = some (m, τ) := rfl
theorem give_p {τ : T} {i : Nat} {f : Option Nat} : give τ (.pl i f) = (getP τ i f).map fun m => (.v (frz m), setP τ i (.v (frz m)) f) := by simp only [give, esc_p]; cases getP τ i f <;> rfl
theorem isF_d {d : D} : (R.d d).isF = false := rfl
theorem isF_m {m : M} : (R.m m).isF = false := rfl
theorem isF_p {i : Nat} : (R.pl i none).isF = false := rfl
theorem isF_f {i f : Nat} : (R.pl i (some f)).isF = true := rfl
theorem setl_d {d : D} : setl (.d d) = .d d := rfl
theorem setl_m {m : M} : setl (.m m) = .d (frz m) := rfl
theorem setl_p {i : Nat} {f : Option Nat} : setl (.pl i f) = .pl i f := rfl
theorem asB_b {b : Bool} : asB (.d (.bl b)) = some b := rfl
theorem asI_i {b : Int} : asI (.d (.int b)) = some b := rfl
theorem asD_d {d : D} : asD (.d d) = some d := rfl
theorem seq_l {xs : List D} : asSeq (.lst xs) = some xs := rfl
theorem seq_t {xs : List D} : asSeq (.tup xs) = some xs := rfl
theorem seq_s {ns : List Int} : asSeq (.scr ns) = some (ns.map .int) := rfl
theorem lt_l {xs : List D} : asLT (.lst xs) = some xs := rfl
theorem lt_t {xs : List D} : asLT (.tup xs) = some xs := rfl
theorem zip_l {xs ys : List D} : zipLT (.lst xs) (.lst ys) = some (zipD xs ys) := rfl
theorem zip_t {xs ys : List D} : zipLT (.tup xs) (.tup ys) = some (zipD xs ys) := rfl
theorem frz_v {d : D} : frz (.v d) = d := by simp only [frz]
theorem frz_l {xs : List D} : frz (.lst xs) = .lst xs := by simp only [frz]
theorem frz_k {ks : List L2.Key} {xs : List D} : frz (.dK ks xs) = .dK ks xs := by simp only [frz]
theorem frz_t {ks : List (List L2.Key)} {xs : List D} : frz (.dT ks xs) = .dT ks xs := by simp only [frz]
theorem frz_i {c : Nat} {fs : List (Nat × M)} : frz (.ins c fs) = .ins c (frzF fs) := by simp only [frz]
theorem frzF_n : frzF [] = [] := by simp only [frzF]
theorem frzF_c {f : Nat} {m : M} {r : List (Nat × M)} : frzF ((f, m) :: r) = (f, frz m) :: frzF r := by simp only [frzF]
theorem take_n {p : Bool} {io : List Nat} {k : Nat} {τ : T} : takeA p io k [] τ = some ([], [], τ) := rfl
theorem take_d {p : Bool} {io : List Nat} {k : Nat} {d : D} {rs : List R} {τ : T} : takeA p io k (.d d :: rs) τ = (takeA p io (k + 1) rs τ).map fun t => (.v d :: t.1, none :: t.2.1, t.2.2) := by simp only [takeA, esc]
theorem take_p {io : List Nat} {k i : Nat} {rs : List R} {τ : T} : takeA false io k (.pl i none :: rs) τ = if io.contains k = true then (slotM τ i).bind fun m => (takeA false io (k + 1) rs (τ.set i none)).map fun t => (m :: t.1, some i :: t.2.1, t.2.2)
    else (slotM τ i).bind fun m => (takeA false io (k + 1) rs (setP τ i (.v (frz m)) none)).map fun t => (.v (frz m) :: t.1, none :: t.2.1, t.2.2) := by
  simp only [takeA, Bool.false_eq_true, if_false, esc_p, get_n]
  split
  · cases slotM τ i <;> rfl
  · cases slotM τ i <;> rfl
theorem take_f {io : List Nat} {k i f : Nat} {rs : List R} {τ : T} : takeA false io k (.pl i (some f) :: rs) τ = (getP τ i (some f)).bind fun m => (takeA false io (k + 1) rs (setP τ i (.v (frz m)) (some f))).map fun t => (.v (frz m) :: t.1, none :: t.2.1, t.2.2) := by
  simp only [takeA, esc_p]
  cases getP τ i (some f) <;> rfl
theorem give0 {ms : List M} {τ : T} : giveA [] ms τ = τ := by cases ms <;> rfl
theorem giveS {i : Nat} {is : List (Option Nat)} {m : M} {ms : List M} {τ : T} : giveA (some i :: is) (m :: ms) τ = giveA is ms (τ.set i (some m)) := rfl
theorem giveN {is : List (Option Nat)} {m : M} {ms : List M} {τ : T} : giveA (none :: is) (m :: ms) τ = giveA is ms τ := rfl
theorem resR_v {d : D} : resR (.v d) = .d d := rfl
theorem resR_l {xs : List D} : resR (.lst xs) = .m (.lst xs) := rfl
theorem resR_k {ks : List L2.Key} {xs : List D} : resR (.dK ks xs) = .m (.dK ks xs) := rfl
theorem resR_t {ks : List (List L2.Key)} {xs : List D} : resR (.dT ks xs) = .m (.dT ks xs) := rfl
theorem resR_i {c : Nat} {fs : List (Nat × M)} : resR (.ins c fs) = .m (.ins c fs) := rfl
theorem outs_n {io : List Nat} {k : Nat} {τ : T} : outs io k [] τ = some [] := by simp only [outs]
theorem outs_v {io : List Nat} {k : Nat} {d : D} {as : List M} {m : Option M} {τ : T} : outs io k (.v d :: as) (m :: τ) = (outs io (k + 1) as τ).map (.v d :: ·) := by simp only [outs]
theorem outs_l {io : List Nat} {k : Nat} {xs : List D} {as : List M} {m : M} {τ : T} : outs io k (.lst xs :: as) (some m :: τ) = if io.contains k = true then (outs io (k + 1) as τ).map (m :: ·) else none := by simp only [outs]
theorem outs_k {io : List Nat} {k : Nat} {ks : List L2.Key} {xs : List D} {as : List M} {m : M} {τ : T} : outs io k (.dK ks xs :: as) (some m :: τ) = if io.contains k = true then (outs io (k + 1) as τ).map (m :: ·) else none := by simp only [outs]
theorem outs_t {io : List Nat} {k : Nat} {ks : List (List L2.Key)} {xs : List D} {as : List M} {m : M} {τ : T} : outs io k (.dT ks xs :: as) (some m :: τ) = if io.contains k = true then (outs io (k + 1) as τ).map (m :: ·) else none := by simp only [outs]
theorem outs_i {io : List Nat} {k : Nat} {c : Nat} {fs : List (Nat × M)} {as : List M} {m : M} {τ : T} : outs io k (.ins c fs :: as) (some m :: τ) = if io.contains k = true then (outs io (k + 1) as τ).map (m :: ·) else none := by simp only [outs]
theorem setP_n {τ : T} {i : Nat} {m : M} : setP τ i m none = τ.set i (some m) := rfl
theorem wo_bind {α β : Type} {o : Option α} {f : α → Option β} {Q : β → Prop} : WO (o.bind f) Q = WO o fun a => WO (f a) Q := by cases o <;> rfl
theorem eqD_i {a b : Int} : eqD (.int a) (.int b) = some (decide (a = b)) := by
  simp only [eqD, toPy]
  rw [if_pos (show (SeqAt.shaped (.int a) && SeqAt.shaped (.int b)) = true from rfl)]
  simp only [PyData.eqv]
  by_cases h : a = b
  · simp [h]
  · simp [h]
theorem eqD_b {a b : Bool} : eqD (.bl a) (.bl b) = some (decide (a = b)) := by
  simp only [eqD, toPy]
  rw [if_pos (show (SeqAt.shaped (.bool a) && SeqAt.shaped (.bool b)) = true from rfl)]
  cases a <;> cases b <;> rfl
theorem bin_add {i j : Int} : binD .Add (.int i) (.int j) = some (.d (.int (i + j))) := rfl
theorem bin_sub {i j : Int} : binD .Sub (.int i) (.int j) = some (.d (.int (i - j))) := rfl
theorem bin_mul {i j : Int} : binD .Mult (.int i) (.int j) = if (-(2 ^ 64) < i ∧ i < 2 ^ 64) ∨ (-(2 ^ 64) < j ∧ j < 2 ^ 64) then some (.d (.int (i * j))) else none := rfl
theorem bin_div {i j : Int} : binD .FloorDiv (.int i) (.int j) = if 0 < j ∧ j < 1073741824 then some (.d (.int (i / j))) else none := rfl
theorem bin_mod {i j : Int} : binD .Mod (.int i) (.int j) = if 0 < j then some (.d (.int (i % j))) else none := rfl
theorem bin_pow {i j : Int} : binD .Pow (.int i) (.int j) = if 0 ≤ j ∧ j ≤ 1000000 ∧ i.natAbs < 2 ^ 64 then some (.d (.int (i ^ j.toNat))) else none := rfl
theorem bin_shl {i j : Int} : binD .LShift (.int i) (.int j) = if 0 ≤ j ∧ j ≤ 1000000 ∧ i.natAbs < 2 ^ 64 then some (.d (.int (i * 2 ^ j.toNat))) else none := rfl
theorem bin_shr {i j : Int} : binD .RShift (.int i) (.int j) = if 0 ≤ j then some (.d (.int (i / 2 ^ j.toNat))) else none := rfl
theorem bin_and {i j : Int} : binD .BitAnd (.int i) (.int j) = some (.d (.int (Builtin.bitAnd i j))) := rfl
theorem bin_or {i j : Int} : binD .BitOr (.int i) (.int j) = some (.d (.int (Builtin.bitOr i j))) := rfl
theorem bin_xor {i j : Int} : binD .BitXor (.int i) (.int j) = some (.d (.int (Builtin.bitXor i j))) := rfl
theorem bin_adl {xs ys : List D} : binD .Add (.lst xs) (.lst ys) = if xs.length + ys.length ≤ SL then some (.m (.lst (xs ++ ys))) else none := rfl
theorem bin_adt {xs ys : List D} : binD .Add (.tup xs) (.tup ys) = if xs.length + ys.length ≤ SL then some (.d (.tup (xs ++ ys))) else none := rfl
theorem bin_mll {xs : List D} {k : Int} : binD .Mult (.lst xs) (.int k) = if -(2 ^ 63) ≤ k ∧ k < 2 ^ 63 ∧ xs.length * k.toNat ≤ SL then some (.m (.lst (List.replicate k.toNat xs).flatten)) else none := rfl
theorem un_neg {i : Int} : unD .USub (.int i) = some (.int (-i)) := rfl
theorem un_inv {i : Int} : unD .Invert (.int i) = some (.int (Builtin.bitNot i)) := rfl
theorem cmp_lt {i j : Int} : cmpD .Lt (.int i) (.int j) = some (decide (i < j)) := rfl
theorem cmp_le {i j : Int} : cmpD .LtE (.int i) (.int j) = some (decide (i ≤ j)) := rfl
theorem cmp_gt {i j : Int} : cmpD .Gt (.int i) (.int j) = some (decide (j < i)) := rfl
theorem cmp_ge {i j : Int} : cmpD .GtE (.int i) (.int j) = some (decide (j ≤ i)) := rfl
theorem cmp_eq {i j : Int} : cmpD .Eq (.int i) (.int j) = some (decide (i = j)) := eqD_i
theorem cmp_ne {i j : Int} : cmpD .NotEq (.int i) (.int j) = some (!decide (i = j)) := by simp only [cmpD, eqD_i, Option.map_some]
theorem cmp_eqb {i j : Bool} : cmpD .Eq (.bl i) (.bl j) = some (decide (i = j)) := eqD_b
theorem cmp_neb {i j : Bool} : cmpD .NotEq (.bl i) (.bl j) = some (!decide (i = j)) := by simp only [cmpD, eqD_b, Option.map_some]
theorem ixN_here {n j : Nat} (h : j < n) : L2.ixN n (j : Int) = some j := by unfold L2.ixN; rw [if_pos (by omega), if_pos (by omega)]; rfl
theorem cmp_eqx {i j : D} : cmpD .Eq i j = eqD i j := rfl
theorem cmp_nex {i j : D} : cmpD .NotEq i j = (eqD i j).map (!·) := rfl
theorem cmp_is {a : D} : cmpD .Is a .non = some (isNon a) := rfl
theorem cmp_isn {a : D} : cmpD .IsNot a .non = some (!isNon a) := rfl
theorem cmp_inl {a : D} {xs : List D} : cmpD .In a (.lst xs) = inD a xs := rfl
theorem cmp_int {a : D} {xs : List D} : cmpD .In a (.tup xs) = inD a xs := rfl
theorem cmp_ninl {a : D} {xs : List D} : cmpD .NotIn a (.lst xs) = (inD a xs).map (!·) := rfl
theorem cmp_nint {a : D} {xs : List D} : cmpD .NotIn a (.tup xs) = (inD a xs).map (!·) := rfl
theorem isN_non  : isNon .non = true := rfl
theorem isi_non_none  : isiD .non (.ty .none) = some true := rfl
theorem isi_non_bool  : isiD .non (.ty .bool) = some false := rfl
theorem isi_non_int  : isiD .non (.ty .int) = some false := rfl
theorem isi_non_str  : isiD .non (.ty .str) = some false := rfl
theorem isi_non_list  : isiD .non (.ty .list) = some false := rfl
theorem isi_non_tuple  : isiD .non (.ty .tuple) = some false := rfl
theorem isi_non_dict  : isiD .non (.ty .dict) = some false := rfl
theorem isi_non_lt  : isiD .non (.tup [.ty .list, .ty .tuple]) = some false := rfl
theorem isN_bl {b : Bool} : isNon (.bl b) = false := rfl
theorem isi_bl_none {b : Bool} : isiD (.bl b) (.ty .none) = some false := rfl
theorem isi_bl_bool {b : Bool} : isiD (.bl b) (.ty .bool) = some true := rfl
theorem isi_bl_int {b : Bool} : isiD (.bl b) (.ty .int) = some true := rfl
theorem isi_bl_str {b : Bool} : isiD (.bl b) (.ty .str) = some false := rfl
theorem isi_bl_list {b : Bool} : isiD (.bl b) (.ty .list) = some false := rfl
theorem isi_bl_tuple {b : Bool} : isiD (.bl b) (.ty .tuple) = some false := rfl
theorem isi_bl_dict {b : Bool} : isiD (.bl b) (.ty .dict) = some false := rfl
theorem isi_bl_lt {b : Bool} : isiD (.bl b) (.tup [.ty .list, .ty .tuple]) = some false := rfl
theorem isN_int {i : Int} : isNon (.int i) = false := rfl
theorem isi_int_none {i : Int} : isiD (.int i) (.ty .none) = some false := rfl
theorem isi_int_bool {i : Int} : isiD (.int i) (.ty .bool) = some false := rfl
theorem isi_int_int {i : Int} : isiD (.int i) (.ty .int) = some true := rfl
theorem isi_int_str {i : Int} : isiD (.int i) (.ty .str) = some false := rfl
theorem isi_int_list {i : Int} : isiD (.int i) (.ty .list) = some false := rfl
theorem isi_int_tuple {i : Int} : isiD (.int i) (.ty .tuple) = some false := rfl
theorem isi_int_dict {i : Int} : isiD (.int i) (.ty .dict) = some false := rfl
theorem isi_int_lt {i : Int} : isiD (.int i) (.tup [.ty .list, .ty .tuple]) = some false := rfl
theorem isN_str {x : Str} : isNon (.str x) = false := rfl
theorem isi_str_none {x : Str} : isiD (.str x) (.ty .none) = some false := rfl
theorem isi_str_bool {x : Str} : isiD (.str x) (.ty .bool) = some false := rfl
theorem isi_str_int {x : Str} : isiD (.str x) (.ty .int) = some false := rfl
theorem isi_str_str {x : Str} : isiD (.str x) (.ty .str) = some true := rfl
theorem isi_str_list {x : Str} : isiD (.str x) (.ty .list) = some false := rfl
theorem isi_str_tuple {x : Str} : isiD (.str x) (.ty .tuple) = some false := rfl
theorem isi_str_dict {x : Str} : isiD (.str x) (.ty .dict) = some false := rfl
theorem isi_str_lt {x : Str} : isiD (.str x) (.tup [.ty .list, .ty .tuple]) = some false := rfl
theorem isN_tup {xs : List D} : isNon (.tup xs) = false := rfl
theorem isi_tup_none {xs : List D} : isiD (.tup xs) (.ty .none) = some false := rfl
theorem isi_tup_bool {xs : List D} : isiD (.tup xs) (.ty .bool) = some false := rfl
theorem isi_tup_int {xs : List D} : isiD (.tup xs) (.ty .int) = some false := rfl
theorem isi_tup_str {xs : List D} : isiD (.tup xs) (.ty .str) = some false := rfl
theorem isi_tup_list {xs : List D} : isiD (.tup xs) (.ty .list) = some false := rfl
theorem isi_tup_tuple {xs : List D} : isiD (.tup xs) (.ty .tuple) = some true := rfl
theorem isi_tup_dict {xs : List D} : isiD (.tup xs) (.ty .dict) = some false := rfl
theorem isi_tup_lt {xs : List D} : isiD (.tup xs) (.tup [.ty .list, .ty .tuple]) = some true := rfl
theorem isN_lst {xs : List D} : isNon (.lst xs) = false := rfl
theorem isi_lst_none {xs : List D} : isiD (.lst xs) (.ty .none) = some false := rfl
theorem isi_lst_bool {xs : List D} : isiD (.lst xs) (.ty .bool) = some false := rfl
theorem isi_lst_int {xs : List D} : isiD (.lst xs) (.ty .int) = some false := rfl
theorem isi_lst_str {xs : List D} : isiD (.lst xs) (.ty .str) = some false := rfl
theorem isi_lst_list {xs : List D} : isiD (.lst xs) (.ty .list) = some true := rfl
theorem isi_lst_tuple {xs : List D} : isiD (.lst xs) (.ty .tuple) = some false := rfl
theorem isi_lst_dict {xs : List D} : isiD (.lst xs) (.ty .dict) = some false := rfl
theorem isi_lst_lt {xs : List D} : isiD (.lst xs) (.tup [.ty .list, .ty .tuple]) = some true := rfl
theorem b_isi {x c : D} : bltD .isi [x, c] = (isiD x c).map fun b => .d (.bl b) := rfl
theorem b_lenl {xs : List D} : bltD .len [.lst xs] = some (.d (.int xs.length)) := rfl
theorem b_lent {xs : List D} : bltD .len [.tup xs] = some (.d (.int xs.length)) := rfl
theorem b_lens {ns : List Int} : bltD .len [.scr ns] = some (.d (.int ns.length)) := rfl
theorem b_int {i : Int} : bltD .int [.int i] = some (.d (.int i)) := rfl
theorem b_intb {b : Bool} : bltD .int [.bl b] = some (.d (.int (if b then 1 else 0))) := rfl
theorem b_min {i j : Int} : bltD .min2 [.int i, .int j] = some (.d (.int (if j < i then j else i))) := rfl
theorem b_max {i j : Int} : bltD .max2 [.int i, .int j] = some (.d (.int (if j > i then j else i))) := rfl
theorem b_abs {i : Int} : bltD .abs [.int i] = some (.d (.int (if i < 0 then -i else i))) := rfl
theorem b_tupl {xs : List D} : bltD .tuple [.lst xs] = some (.d (.tup xs)) := rfl
theorem b_tupt {xs : List D} : bltD .tuple [.tup xs] = some (.d (.tup xs)) := rfl
theorem b_lstl {xs : List D} : bltD .list [.lst xs] = some (.m (.lst xs)) := rfl
theorem b_lstt {xs : List D} : bltD .list [.tup xs] = some (.m (.lst xs)) := rfl
theorem b_lsts {ns : List Int} : bltD .list [.scr ns] = some (.m (.lst (ns.map .int))) := rfl
theorem b_srtt {xs : List D} : bltD .sorted [.tup xs] = (sortD xs).map fun ys => .m (.lst ys) := rfl
theorem b_srt {xs : List D} : bltD .sorted [.lst xs] = (sortD xs).map fun ys => .m (.lst ys) := rfl
theorem b_all {xs : List D} : bltD .all [.lst xs] = (boolsOf xs).map fun bs => .d (.bl (bs.all id)) := rfl
theorem b_any {xs : List D} : bltD .any [.lst xs] = (boolsOf xs).map fun bs => .d (.bl (bs.any id)) := rfl
theorem b_sum {xs : List D} : bltD .sum [.lst xs] = (intsOf xs).map fun ns => .d (.int ns.sum) := rfl
theorem bm_app {xs : List D} {d : D} : bmD .append xs [d] = if xs.length < SL then some (.non, xs ++ [d]) else none := rfl
theorem bm_pop {xs : List D} : bmD .pop0 xs [] = (xs[xs.length - 1]?).map fun d => (d, xs.dropLast) := rfl
theorem bm_ext {xs ys : List D} : bmD .extend xs [.lst ys] = if xs.length + ys.length ≤ SL then some (.non, xs ++ ys) else none := rfl
theorem aug_add {i j : Int} : augD .Add i j = some (i + j) := rfl
theorem aug_sub {i j : Int} : augD .Sub i j = some (i - j) := rfl
theorem slc_s {ns : List Int} {l h : Option Int} : slcP (.scr ns) l h = some (.m (.lst ((cutI ns l h).map .int))) := rfl
theorem ix_lst0 {a0 : D} {r : List D} : idxD (.lst (a0 :: r)) (.int 0) = some a0 := L2.atI_nat (j := 0) rfl
theorem ix_tup0 {a0 : D} {r : List D} : idxD (.tup (a0 :: r)) (.int 0) = some a0 := L2.atI_nat (j := 0) rfl
theorem set_0 {a0 b : D} {r : List D} : setIx (.lst (a0 :: r)) (.int 0) b = some (.lst (b :: r)) := by simp only [setIx]; rw [show L2.ixN (a0 :: r).length 0 = some 0 from ixN_here (j := 0) (by simp only [List.length_cons]; omega)]; rfl
theorem ix_lst1 {a0 a1 : D} {r : List D} : idxD (.lst (a0 :: a1 :: r)) (.int 1) = some a1 := L2.atI_nat (j := 1) rfl
theorem ix_tup1 {a0 a1 : D} {r : List D} : idxD (.tup (a0 :: a1 :: r)) (.int 1) = some a1 := L2.atI_nat (j := 1) rfl
theorem set_1 {a0 a1 b : D} {r : List D} : setIx (.lst (a0 :: a1 :: r)) (.int 1) b = some (.lst (a0 :: b :: r)) := by simp only [setIx]; rw [show L2.ixN (a0 :: a1 :: r).length 1 = some 1 from ixN_here (j := 1) (by simp only [List.length_cons]; omega)]; rfl
theorem ix_lst2 {a0 a1 a2 : D} {r : List D} : idxD (.lst (a0 :: a1 :: a2 :: r)) (.int 2) = some a2 := L2.atI_nat (j := 2) rfl
theorem ix_tup2 {a0 a1 a2 : D} {r : List D} : idxD (.tup (a0 :: a1 :: a2 :: r)) (.int 2) = some a2 := L2.atI_nat (j := 2) rfl
theorem set_2 {a0 a1 a2 b : D} {r : List D} : setIx (.lst (a0 :: a1 :: a2 :: r)) (.int 2) b = some (.lst (a0 :: a1 :: b :: r)) := by simp only [setIx]; rw [show L2.ixN (a0 :: a1 :: a2 :: r).length 2 = some 2 from ixN_here (j := 2) (by simp only [List.length_cons]; omega)]; rfl
theorem ix_lst3 {a0 a1 a2 a3 : D} {r : List D} : idxD (.lst (a0 :: a1 :: a2 :: a3 :: r)) (.int 3) = some a3 := L2.atI_nat (j := 3) rfl
theorem ix_tup3 {a0 a1 a2 a3 : D} {r : List D} : idxD (.tup (a0 :: a1 :: a2 :: a3 :: r)) (.int 3) = some a3 := L2.atI_nat (j := 3) rfl
theorem set_3 {a0 a1 a2 a3 b : D} {r : List D} : setIx (.lst (a0 :: a1 :: a2 :: a3 :: r)) (.int 3) b = some (.lst (a0 :: a1 :: a2 :: b :: r)) := by simp only [setIx]; rw [show L2.ixN (a0 :: a1 :: a2 :: a3 :: r).length 3 = some 3 from ixN_here (j := 3) (by simp only [List.length_cons]; omega)]; rfl
theorem ix_lst4 {a0 a1 a2 a3 a4 : D} {r : List D} : idxD (.lst (a0 :: a1 :: a2 :: a3 :: a4 :: r)) (.int 4) = some a4 := L2.atI_nat (j := 4) rfl
theorem ix_tup4 {a0 a1 a2 a3 a4 : D} {r : List D} : idxD (.tup (a0 :: a1 :: a2 :: a3 :: a4 :: r)) (.int 4) = some a4 := L2.atI_nat (j := 4) rfl
theorem set_4 {a0 a1 a2 a3 a4 b : D} {r : List D} : setIx (.lst (a0 :: a1 :: a2 :: a3 :: a4 :: r)) (.int 4) b = some (.lst (a0 :: a1 :: a2 :: a3 :: b :: r)) := by simp only [setIx]; rw [show L2.ixN (a0 :: a1 :: a2 :: a3 :: a4 :: r).length 4 = some 4 from ixN_here (j := 4) (by simp only [List.length_cons]; omega)]; rfl
theorem ix_lst5 {a0 a1 a2 a3 a4 a5 : D} {r : List D} : idxD (.lst (a0 :: a1 :: a2 :: a3 :: a4 :: a5 :: r)) (.int 5) = some a5 := L2.atI_nat (j := 5) rfl
theorem ix_tup5 {a0 a1 a2 a3 a4 a5 : D} {r : List D} : idxD (.tup (a0 :: a1 :: a2 :: a3 :: a4 :: a5 :: r)) (.int 5) = some a5 := L2.atI_nat (j := 5) rfl
theorem set_5 {a0 a1 a2 a3 a4 a5 b : D} {r : List D} : setIx (.lst (a0 :: a1 :: a2 :: a3 :: a4 :: a5 :: r)) (.int 5) b = some (.lst (a0 :: a1 :: a2 :: a3 :: a4 :: b :: r)) := by simp only [setIx]; rw [show L2.ixN (a0 :: a1 :: a2 :: a3 :: a4 :: a5 :: r).length 5 = some 5 from ixN_here (j := 5) (by simp only [List.length_cons]; omega)]; rfl
theorem bt_one {io : List Nat} {i : Nat} {d : D} {τ : T} : bindTg io (.one i) d τ = if io.contains i = true then none else some (τ.set i (some (.v d))) := by simp only [bindTg]
theorem bt_tup {io : List Nat} {ts : Tgs} {ds : List D} {τ : T} : bindTg io (.tup ts) (.tup ds) τ = if ds.length = ts.len then bindTgs io ts ds τ else none := by simp only [bindTg]
theorem bts_n {io : List Nat} {ds : List D} {τ : T} : bindTgs io .nil ds τ = some τ := by simp only [bindTgs]
theorem bts_c {io : List Nat} {t : Tg} {r : Tgs} {d : D} {ds : List D} {τ : T} : bindTgs io (.cons t r) (d :: ds) τ = (bindTg io t d τ).bind fun τ1 => bindTgs io r ds τ1 := by simp only [bindTgs]; cases bindTg io t d τ <;> rfl
theorem tl_n : Tgs.nil.len = 0 := by simp only [Tgs.len]
theorem tl_c {t : Tg} {r : Tgs} : (Tgs.cons t r).len = r.len + 1 := by simp only [Tgs.len]
/-- a for loop over a list of values of one kind -/
theorem for_map {α : Type} {f : α → D} {G : GS} {cl : Caller} {io : List Nat} {tg : Tg} {s : CSs} {w : Wh} {ns : List α} (I : List α → List α → T → Prop) {τ : T} (h0 : I [] ns τ)
    (h1 : ∀ ds x rs τ, ns = ds ++ x :: rs → I ds (x :: rs) τ → WO (bindTg io tg (f x) τ) fun τ1 => wpSs G cl io s τ1 { nx := I (ds ++ [x]) rs, ct := I (ds ++ [x]) rs, bk := w.nx, rt := w.rt })
    (h2 : ∀ τ, I ns [] τ → w.nx τ) : WFor (bindTg io tg) (wpSs G cl io s) (ns.map f) τ w := by
  refine for_inv (fun ds rs τ => ∃ as bs, ds = as.map f ∧ rs = bs.map f ∧ ns = as ++ bs ∧ I as bs τ) ⟨[], ns, rfl, rfl, rfl, h0⟩ ?_ ?_
  · rintro ds x rs τ e ⟨as, bs, rfl, e2, e3, h⟩
    cases bs with
    | nil => cases e2
    | cons b bs =>
      simp only [List.map_cons, List.cons.injEq] at e2
      obtain ⟨rfl, rfl⟩ := e2
      refine (h1 as b bs τ e3 h).mono fun τ1 h => h.mono ⟨?_, fun _ _ => id, fun _ => id, ?_⟩
      · intro τ2 h; exact ⟨as ++ [b], bs, by simp, rfl, by simp [e3], h⟩
      · intro τ2 h; exact ⟨as ++ [b], bs, by simp, rfl, by simp [e3], h⟩
  · rintro τ ⟨as, bs, e1, e2, e3, h⟩
    have : bs = [] := by cases bs with | nil => rfl | cons _ _ => cases e2
    subst this
    rw [List.append_nil] at e3
    subst e3
    exact h2 τ h
/-- a range -/
theorem for_rng {G : GS} {cl : Caller} {io : List Nat} {tg : Tg} {s : CSs} {w : Wh} {n : Nat} (I : Nat → T → Prop) {τ : T} (h0 : I 0 τ)
    (h1 : ∀ k τ, k < n → I k τ → WO (bindTg io tg (.int (k : Int)) τ) fun τ1 => wpSs G cl io s τ1 { nx := I (k + 1), ct := I (k + 1), bk := w.nx, rt := w.rt })
    (h2 : ∀ τ, I n τ → w.nx τ) : WFor (bindTg io tg) (wpSs G cl io s) (rngD 0 (n : Int)) τ w := by
  refine for_nat I h0 ?_ ?_
  · intro k x τ e h
    unfold rngD at e
    rw [List.getElem?_map] at e
    cases hk : (List.range ((n : Int) - 0).toNat)[k]? with
    | none => rw [hk] at e; cases e
    | some j =>
      rw [hk] at e
      obtain ⟨hl, hj⟩ := List.getElem?_eq_some_iff.mp hk
      simp only [List.length_range, List.getElem_range] at hl hj
      subst hj
      have e' : D.int (0 + (k : Int)) = x := Option.some.inj e
      rw [Int.zero_add] at e'
      subst e'
      exact h1 k τ (by omega) h
  · intro τ h
    refine h2 τ ?_
    have : (rngD 0 (n : Int)).length = n := by unfold rngD; rw [List.length_map, List.length_range]; omega
    rwa [this] at h
theorem rng_ok {a b : Int} (h1 : -(2 ^ 62) ≤ a) (h2 : a < 2 ^ 62) (h3 : -(2 ^ 62) ≤ b) (h4 : b < 2 ^ 62) : rngOk a b = true := decide_eq_true ⟨h1, h2, h3, h4⟩
/-- tests and items, kept from being unfolded -/
def TT (G : GS) (cl : Caller) (t : CT) : T → (Bool → T → Prop) → Prop := fun τ Q => wpT G cl false t τ Q
def EL (G : GS) (cl : Caller) (e : CE) : T → (D → T → Prop) → Prop := fun τ K => wpE G cl false e τ fun r τ' => WO (esc false τ' r) fun u => K u.1 u.2
theorem wpS_whl {G : GS} {cl : Caller} {io : List Nat} {t : CT} {b : CSs} {τ : T} {w : Wh} : wpS G cl io (.whl t b) τ w = WWhl (TT G cl t) (wpSs G cl io b) WF τ w := by rw [wpS]; rfl
theorem wpE_lc {G : GS} {cl : Caller} {own : List Nat} {tg : Tg} {it : CI} {t : CT} {e : CE} {τ : T} {Q : R → T → Prop} : wpE G cl false (.lc own tg it t e) τ Q =
    wpI G cl false it τ fun xs τ1 => WO (hideO own τ1) fun τ2 => WLc (bindTg [] tg) (TT G cl t) (EL G cl e) own xs [] τ2 fun ds τ3 => Q (.m (.lst ds)) (backO τ1 own τ3) := by
  rw [wpE]; simp only [true_and]; rfl
theorem wpE_lcp {G : GS} {cl : Caller} {p : Bool} {own : List Nat} {tg : Tg} {it : CI} {t : CT} {e : CE} {τ : T} {Q : R → T → Prop} : wpE G cl p (.lc own tg it t e) τ Q = (p = false ∧
    wpI G cl false it τ fun xs τ1 => WO (hideO own τ1) fun τ2 => WLc (bindTg [] tg) (TT G cl t) (EL G cl e) own xs [] τ2 fun ds τ3 => Q (.m (.lst ds)) (backO τ1 own τ3)) := by
  cases p
  · rw [wpE_lc]; simp only [true_and]
  · rw [wpE]; simp only [Bool.true_eq_false, false_and]
theorem wpE_lc2 {G : GS} {cl : Caller} {p : Bool} {own own1 : List Nat} {tg tg1 : Tg} {it it1 : CI} {t : CT} {e : CE} {τ : T} {Q : R → T → Prop} : wpE G cl p (.lc2 own own1 tg it tg1 it1 t e) τ Q = (p = false ∧
    wpI G cl false it τ fun xs τ1 => WO (hideO own τ1) fun τ2 => WLc2 (bindTg [] tg) (fun t' K => wpI G cl false it1 t' K) (WLc (bindTg [] tg1) (TT G cl t) (EL G cl e) own1) own own1 xs [] τ2 fun ds τ3 => Q (.m (.lst ds)) (backO τ1 own τ3)) := by
  cases p
  · rw [wpE]; simp only [true_and]; rfl
  · rw [wpE]; simp only [Bool.true_eq_false, false_and]
theorem whl {G : GS} {cl : Caller} {io : List Nat} {t : CT} {s : CSs} {w : Wh} (I : Nat → T → Prop) {n : Nat} {τ : T} (hn : n < WF) (h0 : I n τ)
    (h1 : ∀ k τ, I k τ → wpT G cl false t τ fun b τ1 => if b = true then wpSs G cl io s τ1 { nx := fun τ => ∃ j < k, I j τ, ct := fun τ => ∃ j < k, I j τ, bk := w.nx, rt := w.rt } else w.nx τ1) :
    WWhl (TT G cl t) (wpSs G cl io s) WF τ w := whl_inv I hn h0 h1
theorem lc_by {G : GS} {cl : Caller} {t : CT} {e : CE} {own : List Nat} {g : D → T → Option T} {Q : List D → T → Prop} (I : List D → List D → T → Prop) {xs : List D} {τ : T} (h0 : I xs [] τ)
    (h1 : ∀ x rs acc τ, I (x :: rs) acc τ → WO (g x τ) fun τ1 => wpT G cl false t τ1 fun b τ2 => if b = true then (wpE G cl false e τ2 fun r τ' => WO (esc false τ' r) fun u => acc.length < SL ∧ WO (hideO own u.2) fun τ4 => I rs (acc ++ [u.1]) τ4) else WO (hideO own τ2) fun τ3 => I rs acc τ3)
    (h2 : ∀ acc τ, I [] acc τ → Q acc τ) : WLc g (TT G cl t) (EL G cl e) own xs [] τ Q := by
  refine lc_inv (t' := evT G cl false t) (e' := fun t => match evE G cl false e t with
          | some (r, t') => esc false t' r
          | none => none) (fun τ Q => wt_eq false t τ Q) (fun τ Q => ?_) I h0 h1 h2
  show (wpE G cl false e τ fun r τ' => WO (esc false τ' r) fun u => Q u.1 u.2) = _
  rw [we_eq false e]
  rcases evE G cl false e τ with _ | ⟨r, τ'⟩ <;> rfl
/-- a comprehension over values of one kind: items done, items to come, what is found -/
theorem lc_map {α : Type} {f : α → D} {G : GS} {cl : Caller} {t : CT} {e : CE} {own : List Nat} {g : D → T → Option T} {Q : List D → T → Prop} {ns : List α} (I : List α → List α → List D → T → Prop) {τ : T} (h0 : I [] ns [] τ)
    (h1 : ∀ ds x rs acc τ, ns = ds ++ x :: rs → acc.length ≤ ds.length → I ds (x :: rs) acc τ → WO (g (f x) τ) fun τ1 => wpT G cl false t τ1 fun b τ2 => if b = true then (wpE G cl false e τ2 fun r τ' => WO (esc false τ' r) fun u => acc.length < SL ∧ WO (hideO own u.2) fun τ4 => I (ds ++ [x]) rs (acc ++ [u.1]) τ4) else WO (hideO own τ2) fun τ3 => I (ds ++ [x]) rs acc τ3)
    (h2 : ∀ acc τ, I ns [] acc τ → Q acc τ) : WLc g (TT G cl t) (EL G cl e) own (ns.map f) [] τ Q := by
  refine lc_by (fun rs acc τ => ∃ as bs, rs = bs.map f ∧ ns = as ++ bs ∧ acc.length ≤ as.length ∧ I as bs acc τ) ⟨[], ns, rfl, rfl, Nat.le_refl _, h0⟩ ?_ ?_
  · rintro x rs acc τ ⟨as, bs, e2, e3, e4, h⟩
    cases bs with
    | nil => cases e2
    | cons b bs =>
      simp only [List.map_cons, List.cons.injEq] at e2
      obtain ⟨rfl, rfl⟩ := e2
      refine (h1 as b bs acc τ e3 e4 h).mono fun τ1 h => h.mono fun k τ2 h => ?_
      split at h
      · rw [if_pos ‹_›]
        refine h.mono fun r τ' h => h.mono fun u h => ⟨h.1, h.2.mono fun τ4 h => ⟨as ++ [b], bs, rfl, by simp [e3], by simp; omega, h⟩⟩
      · rw [if_neg ‹_›]
        exact h.mono fun τ4 h => ⟨as ++ [b], bs, rfl, by simp [e3], by simp; omega, h⟩
  · rintro acc τ ⟨as, bs, e2, e3, e4, h⟩
    have : bs = [] := by cases bs with | nil => rfl | cons _ _ => cases e2
    subst this
    rw [List.append_nil] at e3
    subst e3
    exact h2 acc τ h
theorem rng_map (n : Nat) : rngD 0 (n : Int) = (List.range n).map fun k : Nat => .int (k : Int) := by
  unfold rngD
  rw [Int.sub_zero, Int.toNat_natCast]
  exact List.map_congr_left fun k _ => by rw [Int.zero_add]
theorem hide0 {τ : T} : hideO [] τ = some τ := by simp only [hideO]
theorem hideS {i : Nat} {is : List Nat} {τ : T} : hideO (i :: is) τ = (hideO is τ).bind fun τ' => (τ'[i]?).bind fun m => match m with
    | none => some τ'
    | some (.v _) => some (τ'.set i none)
    | _ => none := by
  simp only [hideO]
  cases hideO is τ with
  | none => rfl
  | some τ' =>
    simp only [Option.bind_some]
    rcases τ'[i]? with _ | _ | m <;> try rfl
    cases m <;> rfl
theorem back0 {τ0 τ : T} : backO τ0 [] τ = τ := by simp only [backO]
theorem backS {i : Nat} {is : List Nat} {τ0 τ : T} : backO τ0 (i :: is) τ = (backO τ0 is τ).set i ((τ0[i]?).getD none) := by simp only [backO]
theorem fld_d {f : Nat} {τ : T} {c : Nat} {fs : List (Nat × D)} : fldR f τ (.d (.ins c fs)) = (getD' f fs).map .d := rfl
theorem fld_p {f : Nat} {τ : T} {i : Nat} : fldR f τ (.pl i none) = (getP τ i (some f)).map fun m => match m with
    | .v d => .d d
    | _ => .pl i (some f) := by
  simp only [fldR]
  rcases getP τ i (some f) with _ | m
  · rfl
  cases m <;> rfl
theorem recv_p {m : Nat} {τ : T} {i : Nat} : recvC τ m (.pl i none) = (slotM τ i).bind fun x => match x with
    | .ins c fs => if (getA m fs).isNone then some c else none
    | _ => none := by
  simp only [recvC]
  rcases slotM τ i with _ | m
  · rfl
  cases m <;> rfl
theorem recv_d {m : Nat} {τ : T} {c : Nat} {fs : List (Nat × D)} : recvC τ m (.d (.ins c fs)) = if (getD' m fs).isNone then some c else none := rfl
theorem recv_m {m : Nat} {τ : T} {c : Nat} {fs : List (Nat × M)} : recvC τ m (.m (.ins c fs)) = if (getA m fs).isNone then some c else none := rfl
theorem lexle {a b c d : Int} : lexLe [a, b] [c, d] = decide (a < c ∨ (a = c ∧ b ≤ d)) := by
  simp only [lexLe]
  by_cases h1 : a = c
  · subst h1
    by_cases h2 : b = d
    · subst h2; simp
    · rw [if_pos rfl, if_neg h2]
      exact decide_eq_decide.mpr (by omega)
  · rw [if_neg h1]
    exact decide_eq_decide.mpr (by omega)
theorem cmp_let {a b c d : Int} : cmpD .LtE (.tup [.int a, .int b]) (.tup [.int c, .int d]) = some (decide (a < c ∨ (a = c ∧ b ≤ d))) := by
  simp only [cmpD, intsOf, Option.map_some, lexle]
theorem enum_get {xs : List D} {k : Nat} : ∀ j, (enumD j xs)[k]? = (xs[k]?).map fun x => .tup [.int ((j + k : Nat) : Int), x] := by
  induction xs generalizing k with
  | nil => intro j; simp [enumD]
  | cons x xs ih =>
    intro j
    rw [enumD]
    cases k with
    | zero => simp
    | succ k => rw [List.getElem?_cons_succ, ih, List.getElem?_cons_succ, show j + 1 + k = j + (k + 1) by omega]
theorem lookC {G : GS} {f : Nat} {F : Cl} [hF : HasC G f F] : G.cls.lookup f = some F := hF.ok
theorem lookF {G : GS} {f : Nat} {F : Fn} [hF : HasF G f F] : G.fns.lookup f = some F := hF.ok
theorem ex_ins {c : Nat} {fs : List (Nat × M)} {P : Nat → List (Nat × M) → Prop} : (∃ c' fs', some (M.ins c fs) = some (M.ins c' fs') ∧ P c' fs') = P c fs :=
  propext ⟨fun ⟨_, _, e, h⟩ => by cases e; exact h, fun h => ⟨_, _, rfl, h⟩⟩
theorem ex_int {i : Int} {P : Int → Prop} : (∃ x, some (M.v (.int i)) = some (M.v (.int x)) ∧ P x) = P i :=
  propext ⟨fun ⟨_, e, h⟩ => by cases e; exact h, fun h => ⟨_, rfl, h⟩⟩
theorem ex_lst {ys : List D} {P : List D → Prop} : (∃ x, some (M.lst ys) = some (M.lst x) ∧ P x) = P ys :=
  propext ⟨fun ⟨_, e, h⟩ => by cases e; exact h, fun h => ⟨_, rfl, h⟩⟩
theorem ex_lst0 {ys : List D} : (∃ x, some (M.lst ys) = some (M.lst x)) = True := eq_true ⟨_, rfl⟩
theorem ex_two {a b : D} {P : D → D → Prop} : (∃ x y, [a, b] = [x, y] ∧ P x y) = P a b :=
  propext ⟨fun ⟨_, _, e, h⟩ => by cases e; exact h, fun h => ⟨_, _, rfl, h⟩⟩
theorem ex_new {s : M} {r : List M} {P : M → List M → Prop} : (∃ s' r', M.v .non = M.v .non ∧ s :: r = s' :: r' ∧ P s' r') = P s r :=
  propext ⟨fun ⟨_, _, _, e, h⟩ => by cases e; exact h, fun h => ⟨_, _, rfl, rfl, h⟩⟩
theorem ex_cons {s : M} {r : List M} {P : M → List M → Prop} : (∃ s' r', s :: r = s' :: r' ∧ P s' r') = P s r :=
  propext ⟨fun ⟨_, _, e, h⟩ => by cases e; exact h, fun h => ⟨_, _, rfl, h⟩⟩
theorem ex_dT {ks : List (List L2.Key)} {vs : List D} {P : List (List L2.Key) → List D → Prop} : (∃ ks' vs', some (D.dT ks vs) = some (D.dT ks' vs') ∧ P ks' vs') = P ks vs :=
  propext ⟨fun ⟨_, _, e, h⟩ => by cases e; exact h, fun h => ⟨_, _, rfl, h⟩⟩
theorem ex_mdT {ks : List (List L2.Key)} {vs : List D} {P : List (List L2.Key) → List D → Prop} : (∃ ks' vs', some (M.dT ks vs) = some (M.dT ks' vs') ∧ P ks' vs') = P ks vs :=
  propext ⟨fun ⟨_, _, e, h⟩ => by cases e; exact h, fun h => ⟨_, _, rfl, h⟩⟩
theorem wo_mul {i j : Int} {Q : R → Prop} : WO (binD .Mult (.int i) (.int j)) Q = (((-(2 ^ 64) < i ∧ i < 2 ^ 64) ∨ (-(2 ^ 64) < j ∧ j < 2 ^ 64)) ∧ Q (.d (.int (i * j)))) := by rw [bin_mul, wo_ite]
theorem wo_div {i j : Int} {Q : R → Prop} : WO (binD .FloorDiv (.int i) (.int j)) Q = ((0 < j ∧ j < 1073741824) ∧ Q (.d (.int (i / j)))) := by rw [bin_div, wo_ite]
theorem wo_mod {i j : Int} {Q : R → Prop} : WO (binD .Mod (.int i) (.int j)) Q = ((0 < j) ∧ Q (.d (.int (i % j)))) := by rw [bin_mod, wo_ite]
theorem wo_pow {i j : Int} {Q : R → Prop} : WO (binD .Pow (.int i) (.int j)) Q = ((0 ≤ j ∧ j ≤ 1000000 ∧ i.natAbs < 2 ^ 64) ∧ Q (.d (.int (i ^ j.toNat)))) := by rw [bin_pow, wo_ite]
theorem wo_shl {i j : Int} {Q : R → Prop} : WO (binD .LShift (.int i) (.int j)) Q = ((0 ≤ j ∧ j ≤ 1000000 ∧ i.natAbs < 2 ^ 64) ∧ Q (.d (.int (i * 2 ^ j.toNat)))) := by rw [bin_shl, wo_ite]
theorem wo_shr {i j : Int} {Q : R → Prop} : WO (binD .RShift (.int i) (.int j)) Q = ((0 ≤ j) ∧ Q (.d (.int (i / 2 ^ j.toNat)))) := by rw [bin_shr, wo_ite]
theorem wo_adl {xs ys : List D} {Q : R → Prop} : WO (binD .Add (.lst xs) (.lst ys)) Q = ((xs.length + ys.length ≤ SL) ∧ Q (.m (.lst (xs ++ ys)))) := by rw [bin_adl, wo_ite]
theorem wo_adt {xs ys : List D} {Q : R → Prop} : WO (binD .Add (.tup xs) (.tup ys)) Q = ((xs.length + ys.length ≤ SL) ∧ Q (.d (.tup (xs ++ ys)))) := by rw [bin_adt, wo_ite]
theorem wo_mll {xs : List D} {k : Int} {Q : R → Prop} : WO (binD .Mult (.lst xs) (.int k)) Q = ((-(2 ^ 63) ≤ k ∧ k < 2 ^ 63 ∧ xs.length * k.toNat ≤ SL) ∧ Q (.m (.lst (List.replicate k.toNat xs).flatten))) := by rw [bin_mll, wo_ite]
theorem wo_app {xs : List D} {d : D} {Q : D × List D → Prop} : WO (bmD .append xs [d]) Q = ((xs.length < SL) ∧ Q ((.non, xs ++ [d]))) := by rw [bm_app, wo_ite]
theorem wo_ext {xs ys : List D} {Q : D × List D → Prop} : WO (bmD .extend xs [.lst ys]) Q = ((xs.length + ys.length ≤ SL) ∧ Q ((.non, xs ++ ys))) := by rw [bm_ext, wo_ite]
theorem mc {α : Type} {P : α → Prop} {a : α} {l : List α} (h : P a) (t : ∀ x ∈ l, P x) : ∀ x ∈ a :: l, P x := fun x hx => by
  rcases List.mem_cons.mp hx with rfl | hx
  · exact h
  · exact t x hx
theorem mc_nil {α : Type} {P : α → Prop} : ∀ x ∈ ([] : List α), P x := fun _ h => nomatch h
theorem mem_lk {β : Type} : ∀ {l : List (Nat × β)} {i : Nat} {x : β}, l.lookup i = some x → (i, x) ∈ l
  | [], _, _, h => nomatch h
  | (j, y) :: l, i, x, h => by
    rw [List.lookup_cons] at h
    split at h
    · rename_i e
      have : i = j := by simpa using e
      cases h
      subst this
      exact List.mem_cons_self
    · exact List.mem_cons_of_mem _ (mem_lk h)
theorem b_repr {d : D} : bltD .repr [d] = reprD d := rfl
theorem repr_of {d : D} {p : PyData} (e : toPy d = some p) (h : okR p = true) : reprD d = some (.d (.str p.shown)) := by
  unfold reprD
  rw [e]
  simp only
  rw [if_pos h]
theorem isi_dK_none {ks : List L2.Key} {vs : List D} : isiD (.dK ks vs) (.ty .none) = some false := rfl
theorem isi_dK_bool {ks : List L2.Key} {vs : List D} : isiD (.dK ks vs) (.ty .bool) = some false := rfl
theorem isi_dK_int {ks : List L2.Key} {vs : List D} : isiD (.dK ks vs) (.ty .int) = some false := rfl
theorem isi_dK_str {ks : List L2.Key} {vs : List D} : isiD (.dK ks vs) (.ty .str) = some false := rfl
theorem isi_dK_list {ks : List L2.Key} {vs : List D} : isiD (.dK ks vs) (.ty .list) = some false := rfl
theorem isi_dK_tuple {ks : List L2.Key} {vs : List D} : isiD (.dK ks vs) (.ty .tuple) = some false := rfl
theorem isi_dK_dict {ks : List L2.Key} {vs : List D} : isiD (.dK ks vs) (.ty .dict) = some true := rfl
theorem isi_dK_lt {ks : List L2.Key} {vs : List D} : isiD (.dK ks vs) (.tup [.ty .list, .ty .tuple]) = some false := rfl
theorem isi_dT_none {ks : List (List L2.Key)} {vs : List D} : isiD (.dT ks vs) (.ty .none) = some false := rfl
theorem isi_dT_bool {ks : List (List L2.Key)} {vs : List D} : isiD (.dT ks vs) (.ty .bool) = some false := rfl
theorem isi_dT_int {ks : List (List L2.Key)} {vs : List D} : isiD (.dT ks vs) (.ty .int) = some false := rfl
theorem isi_dT_str {ks : List (List L2.Key)} {vs : List D} : isiD (.dT ks vs) (.ty .str) = some false := rfl
theorem isi_dT_list {ks : List (List L2.Key)} {vs : List D} : isiD (.dT ks vs) (.ty .list) = some false := rfl
theorem isi_dT_tuple {ks : List (List L2.Key)} {vs : List D} : isiD (.dT ks vs) (.ty .tuple) = some false := rfl
theorem isi_dT_dict {ks : List (List L2.Key)} {vs : List D} : isiD (.dT ks vs) (.ty .dict) = some true := rfl
theorem isi_dT_lt {ks : List (List L2.Key)} {vs : List D} : isiD (.dT ks vs) (.tup [.ty .list, .ty .tuple]) = some false := rfl
/-! ### own classes, sets -/
theorem rev_l {xs : List D} : revD (.lst xs) = some (.m (.lst xs.reverse)) := rfl
theorem rev_t {xs : List D} : revD (.tup xs) = some (.d (.tup xs.reverse)) := rfl
theorem slt_l {xs : List D} : seqLT (some (.lst xs)) = some xs := rfl
theorem slt_t {xs : List D} : seqLT (some (.tup xs)) = some xs := rfl
theorem setR_t {xs : List D} : setR true xs = (ssetD xs).map fun ys => .m (.lst ys) := rfl
theorem setR_f {xs : List D} : setR false xs = (nsetD xs).map fun (n : Nat) => .d (.int (n : Int)) := if_neg (by decide)
theorem asM_m {m : M} : asM (.m m) = some m := rfl
theorem lkz_d {τ : T} {d : D} : lookZ τ (.d d) = some d := rfl
theorem lkz_p {τ : T} {i : Nat} {f : Option Nat} : lookZ τ (.pl i f) = (getP τ i f).map frz := rfl
theorem scl_n : sclM (.v .non) = some .non := rfl
theorem scl_b {b : Bool} : sclM (.v (.bl b)) = some (.bl b) := rfl
theorem scl_i {i : Int} : sclM (.v (.int i)) = some (.int i) := rfl
theorem scl_s {x : Str} : sclM (.v (.str x)) = some (.str x) := rfl
theorem asMB_b {b : Bool} : asMB (.v (.bl b)) = some b := rfl
theorem oeqW_s {f : Nat} {A : Nat → Prop} {B : Prop} : oeqW (some f) A B = A f := rfl
theorem oeqW_n {A : Nat → Prop} {B : Prop} : oeqW none A B = B := rfl
theorem eq_defN {G : GS} {d : D} : eqDef G [.non, d] = none := rfl
theorem eqPl_f {x y : D} : eqPl false [x, y] = cmpD .Eq x y := rfl
theorem eqPl_t {x y : D} : eqPl true [x, y] = cmpD .NotEq x y := rfl
theorem eq_def {G : GS} {c d : Nat} {k : Cl} {fs gs : List (Nat × D)} [h : HasC G c k] : eqDef G [.ins c fs, .ins d gs] = k.eq := by unfold eqDef; simp only [h.ok]
theorem cmp_isnb {a b : Bool} : cmpD .IsNot (.bl a) (.bl b) = some (!(a == b)) := rfl
theorem cmp_isb {a b : Bool} : cmpD .Is (.bl a) (.bl b) = some (a == b) := rfl
theorem isi_ins_ty {c : Nat} {fs : List (Nat × D)} {t : Ty} : isiD (.ins c fs) (.ty t) = some false := rfl
theorem isi_ins_cl {c k : Nat} {fs : List (Nat × D)} : isiD (.ins c fs) (.cl k) = some (k == c) := rfl
theorem isi_ins_lt {c : Nat} {fs : List (Nat × D)} : isiD (.ins c fs) (.tup [.ty .list, .ty .tuple]) = some false := rfl
theorem isi_non_cl  {k : Nat} : isiD .non (.cl k) = some false := rfl
theorem isi_bl_cl {b : Bool} {k : Nat} : isiD (.bl b) (.cl k) = some false := rfl
theorem isi_int_cl {i : Int} {k : Nat} : isiD (.int i) (.cl k) = some false := rfl
theorem isi_str_cl {x : Str} {k : Nat} : isiD (.str x) (.cl k) = some false := rfl
theorem isi_tup_cl {xs : List D} {k : Nat} : isiD (.tup xs) (.cl k) = some false := rfl
theorem isi_lst_cl {xs : List D} {k : Nat} : isiD (.lst xs) (.cl k) = some false := rfl
theorem isi_dK_cl {ks : List L2.Key} {vs : List D} {k : Nat} : isiD (.dK ks vs) (.cl k) = some false := rfl
/-- a comprehension that changes nothing: what is let through, and what is made of it -/
theorem lc_flt {α : Type} {f : α → D} {G : GS} {cl : Caller} {t : CT} {e : CE} {own : List Nat} {g : D → T → Option T} {Q : List D → T → Prop} {ns : List α} (P : α → Bool) (r : α → D) {τ : T} (hl : ns.length < SL)
    (h1 : ∀ x ∈ ns, WO (g (f x) τ) fun τ1 => wpT G cl false t τ1 fun b τ2 => b = P x ∧ (P x = true → wpE G cl false e τ2 fun r' τ' => WO (esc false τ' r') fun u => u.1 = r x ∧ WO (hideO own u.2) fun τ4 => τ4 = τ) ∧ (P x = false → WO (hideO own τ2) fun τ3 => τ3 = τ))
    (h2 : Q ((ns.filter P).map r) τ) : WLc g (TT G cl t) (EL G cl e) own (ns.map f) [] τ Q := by
  refine lc_map (fun ds rs acc τ' => τ' = τ ∧ acc = (ds.filter P).map r) ⟨rfl, rfl⟩ ?_ ?_
  · rintro ds x rs acc τ' e1 hla ⟨rfl, rfl⟩
    have hlen : ds.length < ns.length := by rw [e1, List.length_append, List.length_cons]; omega
    refine (h1 x (by rw [e1]; simp)).mono fun τ1 h => h.mono fun b τ2 h => ?_
    obtain ⟨rfl, ht, hf⟩ := h
    cases hb : P x with
    | true =>
      rw [if_pos rfl]
      refine (ht hb).mono fun r' τ3 h => h.mono fun u h => ⟨by omega, h.2.mono fun τ4 h4 => ⟨h4, ?_⟩⟩
      rw [List.filter_append, List.filter_cons, if_pos hb, List.filter_nil, List.map_append, h.1]
      rfl
    | false =>
      rw [if_neg (by decide)]
      refine (hf hb).mono fun τ3 h3 => ⟨h3, ?_⟩
      rw [List.filter_append, List.filter_cons, if_neg (by rw [hb]; decide), List.filter_nil, List.append_nil]
  · rintro acc τ' ⟨rfl, rfl⟩
    exact h2
theorem lc_pur {α : Type} {f : α → D} {G : GS} {cl : Caller} {e : CE} {own : List Nat} {g : D → T → Option T} {Q : List D → T → Prop} {ns : List α} (r : α → D) {τ : T} (hl : ns.length < SL)
    (h1 : ∀ x ∈ ns, WO (g (f x) τ) fun τ1 => wpE G cl false e τ1 fun r' τ' => WO (esc false τ' r') fun u => u.1 = r x ∧ WO (hideO own u.2) fun τ4 => τ4 = τ)
    (h2 : Q (ns.map r) τ) : WLc g (TT G cl .yes) (EL G cl e) own (ns.map f) [] τ Q := by
  refine lc_flt (fun _ => true) r hl (fun x hx => (h1 x hx).mono fun τ1 h => ?_) (by rw [List.filter_eq_self.mpr fun _ _ => rfl]; exact h2)
  rw [wpT]
  exact ⟨rfl, fun _ => h, fun h => by cases h⟩
/-- a loop of which each item can end the def -/
theorem for_end {α : Type} {f : α → D} {G : GS} {cl : Caller} {io : List Nat} {tg : Tg} {s : CSs} {w : Wh} {ns : List α} (J : List α → T → Prop) {τ : T} (h0 : J ns τ)
    (h1 : ∀ x rs τ, J (x :: rs) τ → x ∈ ns → WO (bindTg io tg (f x) τ) fun τ1 => wpSs G cl io s τ1 { nx := J rs, ct := J rs, bk := w.nx, rt := w.rt })
    (h2 : ∀ τ, J [] τ → w.nx τ) : WFor (bindTg io tg) (wpSs G cl io s) (ns.map f) τ w := by
  refine for_map (fun ds rs τ => J rs τ) h0 ?_ h2
  rintro ds x rs τ e h
  exact h1 x rs τ h (by rw [e]; simp)
theorem dct_t {x y : D} : dctR true x y = (keyT x).map fun q => .m (.dT [q] [y]) := rfl
theorem dct_f {x y : D} : dctR false x y = (keyD x).map fun q => .m (.dK [q] [y]) := rfl
theorem b_lstdK {ks : List L2.Key} {vs : List D} : bltD .list [.dK ks vs] = some (.m (.lst (ks.map keyV))) := rfl
theorem b_lstdT {ks : List (List L2.Key)} {vs : List D} : bltD .list [.dT ks vs] = some (.m (.lst (ks.map fun k => .tup (k.map keyV)))) := rfl
theorem cmp_indT {a : D} {ks : List (List L2.Key)} {vs : List D} : cmpD .In a (.dT ks vs) = (keyT a).map fun k => (dLook ks vs k).isSome := rfl
theorem cmp_nindT {a : D} {ks : List (List L2.Key)} {vs : List D} : cmpD .NotIn a (.dT ks vs) = (keyT a).map fun k => !(dLook ks vs k).isSome := rfl
theorem cmp_indK {a : D} {ks : List L2.Key} {vs : List D} : cmpD .In a (.dK ks vs) = (keyD a).map fun k => (dLook ks vs k).isSome := rfl
theorem cmp_nindK {a : D} {ks : List L2.Key} {vs : List D} : cmpD .NotIn a (.dK ks vs) = (keyD a).map fun k => !(dLook ks vs k).isSome := rfl
theorem keyD_i {i : Int} : keyD (.int i) = some (.inl i) := rfl
theorem wpM_n {G : GS} {cl : Caller} {τ : T} {Q : List M → T → Prop} : wpM G cl .nil τ Q = Q [] τ := by rw [wpM]
theorem wpM_c {G : GS} {cl : Caller} {e : CE} {r : CEs} {τ : T} {Q : List M → T → Prop} : wpM G cl (.cons e r) τ Q = wpE G cl false e τ fun x τ1 => WO (give τ1 x) fun u => wpM G cl r u.2 fun ms τ3 => Q (u.1 :: ms) τ3 := by rw [wpM]
theorem sm_n {τ : T} : setMs [] [] τ = some τ := by rw [setMs]
theorem sm_c {i : Nat} {is : List Nat} {m : M} {ms : List M} {τ : T} : setMs (i :: is) (m :: ms) τ = setMs is ms (τ.set i (some m)) := by rw [setMs]
theorem anio_n {io : List Nat} : ([].any fun i => io.contains i) = false := rfl
theorem anio_c {i : Nat} {is io : List Nat} : ((i :: is).any fun i => io.contains i) = (io.contains i || is.any fun i => io.contains i) := rfl
theorem lsd_l {xs : List D} : lstD (.lst xs) = some xs := rfl
theorem isdk_k {ks : List L2.Key} {vs : List D} : isDK (.dK ks vs) = some () := rfl
theorem ex_dKd {ks : List L2.Key} {vs : List D} {P : List L2.Key → List D → Prop} : (∃ ks' vs', D.dK ks vs = D.dK ks' vs' ∧ P ks' vs') = P ks vs :=
  propext ⟨fun ⟨_, _, e, h⟩ => by cases e; exact h, fun h => ⟨_, _, rfl, h⟩⟩
end Ev

namespace Tx
open PySem Ev
-- is_integer(thing); slots 0:thing
def b0_0 : CSs := .cons (.ret (.and (.blt .isi (.cons (.s 0) (.cons (.k (.ty .int)) .nil))) (.not (.blt .isi (.cons (.s 0) (.cons (.k (.ty .bool)) .nil)))))) .nil
def f0 : Fn := ⟨1, 1, [0], b0_0⟩
-- is_between(thing, least, most); slots 0:thing 1:least 2:most
def b1_0 : CSs := .cons (.ret (.and (.call 0 (.cons (.s 0) .nil)) (.chain .LtE .LtE (.s 1) (.s 0) (.s 2)))) .nil
def f1 : Fn := ⟨3, 3, [0, 1, 2], b1_0⟩
-- is_pair(thing); slots 0:thing
def b2_0 : CSs := .cons (.ret (.and (.blt .isi (.cons (.s 0) (.cons (.k (.ty .tuple)) .nil))) (.cmp .Eq (.blt .len (.cons (.s 0) .nil)) (.k (.int 2))))) .nil
def f2 : Fn := ⟨1, 1, [0], b2_0⟩
-- is_lot(thing, many); slots 0:thing 1:many 2:last 3:item
def b3_1 : CSs := .cons (.ret (.k (.bl false))) .nil
def b3_5 : CSs := .cons (.ret (.k (.bl false))) .nil
def b3_6 : CSs := .cons (.set 2 (.s 3)) .nil
def b3_4 : CSs := .cons (.ite (.not (.e (.call 1 (.cons (.s 3) (.cons (.bin .Add (.s 2) (.k (.int 1))) (.cons (.bin .Sub (.s 1) (.k (.int 1))) .nil)))))) b3_5 .nil) b3_6
def b3_7 : CSs := .cons (.ret (.k (.bl true))) .nil
def b3_3 : CSs := .cons (.loop (.one 3) (.e (.s 0)) b3_4) b3_7
def b3_2 : CSs := .cons (.set 2 (.un .USub (.k (.int 1)))) b3_3
def b3_0 : CSs := .cons (.ite (.not (.e (.blt .isi (.cons (.s 0) (.cons (.k (.ty .tuple)) .nil))))) b3_1 .nil) b3_2
def f3 : Fn := ⟨2, 4, [0, 1], b3_0⟩
-- bits_of(lot); slots 0:lot 1:found 2:item
def b4_2 : CSs := .cons (.set 1 (.bin .BitOr (.s 1) (.bin .LShift (.k (.int 1)) (.s 2)))) .nil
def b4_3 : CSs := .cons (.ret (.s 1)) .nil
def b4_1 : CSs := .cons (.loop (.one 2) (.e (.s 0)) b4_2) b4_3
def b4_0 : CSs := .cons (.set 1 (.k (.int 0))) b4_1
def f4 : Fn := ⟨1, 3, [0], b4_0⟩
-- lowest(bits); slots 0:bits
def b5_0 : CSs := .cons (.ret (.bin .Sub (.bits (.bin .BitAnd (.s 0) (.un .USub (.s 0)))) (.k (.int 1)))) .nil
def f5 : Fn := ⟨1, 1, [0], b5_0⟩
-- lot_of(bits); slots 0:bits 1:found
def b6_3 : CSs := .cons (.set 0 (.bin .BitAnd (.s 0) (.bin .Sub (.s 0) (.k (.int 1))))) .nil
def b6_2 : CSs := .cons (.ex (.bm .append (.s 1) (.cons (.call 5 (.cons (.s 0) .nil)) .nil))) b6_3
def b6_4 : CSs := .cons (.ret (.blt .tuple (.cons (.s 1) .nil))) .nil
def b6_1 : CSs := .cons (.whl (.e (.cmp .Gt (.s 0) (.k (.int 0)))) b6_2) b6_4
def b6_0 : CSs := .cons (.set 1 (.lst .nil)) b6_1
def f6 : Fn := ⟨1, 2, [], b6_0⟩
-- check_part(web, thing); slots 0:web 1:thing
def b8_1 : CSs := .cons .bad .nil
def b8_0 : CSs := .cons (.ite (.not (.e (.call 1 (.cons (.s 1) (.cons (.k (.int 0)) (.cons (.bin .Sub (.fld (.s 0) 0) (.k (.int 1))) .nil)))))) b8_1 .nil) .nil
def f8 : Fn := ⟨2, 2, [0, 1], b8_0⟩
-- check_stand(net, thing); slots 0:net 1:thing
def b9_1 : CSs := .cons .bad .nil
def b9_0 : CSs := .cons (.ite (.not (.e (.call 3 (.cons (.s 1) (.cons (.fld (.s 0) 0) .nil))))) b9_1 .nil) .nil
def f9 : Fn := ⟨2, 2, [0, 1], b9_0⟩
-- has(bits, number); slots 0:bits 1:number
def b56_0 : CSs := .cons (.ret (.cmp .Eq (.bin .BitAnd (.bin .RShift (.s 0) (.s 1)) (.k (.int 1))) (.k (.int 1)))) .nil
def f56 : Fn := ⟨2, 2, [0, 1], b56_0⟩
-- _law_lots(_law_size); slots 0:_law_size 1:_law_lot_here 2:_law_found 3:_law_part
def b77_2 : CSs := .cons (.set 2 (.bin .Add (.s 2) (.lc [1] (.one 1) (.e (.s 2)) .yes (.bin .Add (.s 1) (.tup (.cons (.s 3) .nil)))))) .nil
def b77_3 : CSs := .cons (.ret (.blt .sorted (.cons (.s 2) .nil))) .nil
def b77_1 : CSs := .cons (.loop (.one 3) (.rng1 (.s 0)) b77_2) b77_3
def b77_0 : CSs := .cons (.set 2 (.lst (.cons (.tup .nil) .nil))) b77_1
def f77 : Fn := ⟨1, 4, [0], b77_0⟩
-- _law_pool(_law_script); slots 0:_law_script 1:_law_cell 2:_law_great 3:_law_small
def b119_2 : CSs := .cons (.ret (.lst (.cons (.s 2) (.cons (.s 3) (.cons (.k (.int 0)) (.cons (.k (.int 0)) .nil)))))) .nil
def b119_1 : CSs := .cons (.set 3 (.lc [1] (.one 1) (.e (.slc (.s 0) (.k .non) (.k (.int 63)))) (.e (.cmp .Lt (.blt .abs (.cons (.s 1) .nil)) (.bin .Pow (.k (.int 10)) (.k (.int 18))))) (.bin .Mod (.blt .int (.cons (.s 1) .nil)) (.k (.int 1000003))))) b119_2
def b119_0 : CSs := .cons (.set 2 (.lc [1] (.one 1) (.e (.slc (.s 0) (.k .non) (.k (.int 63)))) (.e (.cmp .GtE (.blt .abs (.cons (.s 1) .nil)) (.bin .Pow (.k (.int 10)) (.k (.int 18))))) (.blt .abs (.cons (.s 1) .nil)))) b119_1
def f119 : Fn := ⟨1, 4, [0], b119_0⟩
-- _law_draw(_law_pool_here, _law_many); slots 0:_law_pool_here 1:_law_many 2:_law_digit 3:_law_cell 4:_law_number
def b120_2 : CSs := .cons (.iset 0 (.k (.int 0)) (.slc (.idx (.s 0) (.k (.int 0))) (.k (.int 1)) (.k .non))) .nil
def b120_1 : CSs := .cons (.iset 0 (.k (.int 2)) (.idx (.idx (.s 0) (.k (.int 0))) (.k (.int 0)))) b120_2
def b120_6 : CSs := .cons (.ret (.s 2)) .nil
def b120_5 : CSs := .cons (.iset 0 (.k (.int 2)) (.bin .FloorDiv (.idx (.s 0) (.k (.int 2))) (.s 1))) b120_6
def b120_4 : CSs := .cons (.set 2 (.bin .Mod (.blt .int (.cons (.idx (.s 0) (.k (.int 2))) .nil)) (.s 1))) b120_5
def b120_10 : CSs := .cons (.set 3 (.idx (.idx (.s 0) (.k (.int 1))) (.bin .Mod (.blt .int (.cons (.idx (.s 0) (.k (.int 3))) .nil)) (.blt .len (.cons (.idx (.s 0) (.k (.int 1))) .nil))))) .nil
def b120_14 : CSs := .cons (.ret (.bin .Mod (.blt .int (.cons (.bin .FloorDiv (.s 4) (.k (.int 16))) .nil)) (.s 1))) .nil
def b120_13 : CSs := .cons (.set 4 (.bin .Mod (.blt .int (.cons (.bin .Mult (.s 4) (.bin .Add (.bin .FloorDiv (.s 4) (.k (.int 2003))) (.k (.int 40692)))) .nil)) (.k (.int 2147483399)))) b120_14
def b120_12 : CSs := .cons (.set 4 (.bin .Mod (.blt .int (.cons (.bin .Mult (.s 4) (.bin .Add (.bin .FloorDiv (.s 4) (.k (.int 1009))) (.k (.int 69621)))) .nil)) (.k (.int 2147483647)))) b120_13
def b120_11 : CSs := .cons (.set 4 (.bin .Mod (.blt .int (.cons (.bin .Mult (.bin .Add (.bin .Add (.s 3) (.bin .Mult (.k (.int 7919)) (.idx (.s 0) (.k (.int 3))))) (.k (.int 1))) (.k (.int 48271))) .nil)) (.k (.int 2147483647)))) b120_12
def b120_9 : CSs := .cons (.ite (.e (.cmp .Gt (.blt .len (.cons (.idx (.s 0) (.k (.int 1))) .nil)) (.k (.int 0)))) b120_10 .nil) b120_11
def b120_8 : CSs := .cons (.set 3 (.k (.int 0))) b120_9
def b120_7 : CSs := .cons (.iset 0 (.k (.int 3)) (.bin .Add (.idx (.s 0) (.k (.int 3))) (.k (.int 1)))) b120_8
def b120_3 : CSs := .cons (.ite (.e (.cmp .Gt (.idx (.s 0) (.k (.int 2))) (.k (.int 1)))) b120_4 .nil) b120_7
def b120_0 : CSs := .cons (.ite (.and (.e (.cmp .LtE (.idx (.s 0) (.k (.int 2))) (.k (.int 1)))) (.e (.cmp .Gt (.blt .len (.cons (.idx (.s 0) (.k (.int 0))) .nil)) (.k (.int 0))))) b120_1 .nil) b120_3
def f120 : Fn := ⟨2, 5, [0, 1], b120_0⟩
-- _law_pick(_law_pool_here, _law_things); slots 0:_law_pool_here 1:_law_things
def b121_0 : CSs := .cons (.ret (.idx (.s 1) (.call 120 (.cons (.s 0) (.cons (.blt .len (.cons (.s 1) .nil)) .nil))))) .nil
def f121 : Fn := ⟨2, 2, [0, 1], b121_0⟩
-- _law_lot(_law_pool_here, _law_size); slots 0:_law_pool_here 1:_law_size 2:_law_part
def b124_0 : CSs := .cons (.ret (.blt .tuple (.cons (.lc [2] (.one 2) (.rng1 (.s 1)) (.e (.cmp .Eq (.call 120 (.cons (.s 0) (.cons (.k (.int 2)) .nil))) (.k (.int 0)))) (.s 2)) .nil))) .nil
def f124 : Fn := ⟨2, 3, [0, 1], b124_0⟩
-- is_arrow(thing, size); slots 0:thing 1:size 2:item
def b414_1 : CSs := .cons (.ret (.k (.bl false))) .nil
def b414_2 : CSs := .cons (.ret (.cmp .NotEq (.idx (.s 0) (.k (.int 0))) (.idx (.s 0) (.k (.int 1))))) .nil
def b414_0 : CSs := .cons (.ite (.or (.not (.e (.call 2 (.cons (.s 0) .nil)))) (.not (.e (.blt .all (.cons (.lc [2] (.one 2) (.e (.s 0)) .yes (.call 1 (.cons (.s 2) (.cons (.k (.int 0)) (.cons (.bin .Sub (.s 1) (.k (.int 1))) .nil))))) .nil))))) b414_1 .nil) b414_2
def f414 : Fn := ⟨2, 3, [0, 1], b414_0⟩
-- after_net_call(net, bits, part); slots 0:net 1:bits 2:part
def b416_1 : CSs := .cons (.ret (.bin .BitOr (.s 1) (.bin .LShift (.k (.int 1)) (.s 2)))) .nil
def b416_2 : CSs := .cons (.ret (.bin .BitAnd (.s 1) (.un .Invert (.bin .LShift (.k (.int 1)) (.s 2))))) .nil
def b416_0 : CSs := .cons (.ite (.e (.cmp .Eq (.bin .BitAnd (.idx (.fld (.s 0) 37) (.s 2)) (.s 1)) (.k (.int 0)))) b416_1 .nil) b416_2
def f416 : Fn := ⟨3, 3, [0, 1, 2], b416_0⟩
-- is_still(net, bits); slots 0:net 1:bits 2:part
def b417_0 : CSs := .cons (.ret (.blt .all (.cons (.lc [2] (.one 2) (.rng1 (.fld (.s 0) 0)) .yes (.cmp .Eq (.call 416 (.cons (.s 0) (.cons (.s 1) (.cons (.s 2) .nil)))) (.s 1))) .nil))) .nil
def f417 : Fn := ⟨2, 3, [0, 1], b417_0⟩
-- round_from(net, first, way, seen); slots 0:net 1:first 2:way 3:seen 4:here 5:part 6:found
def b418_2 : CSs := .cons (.ret (.s 2)) .nil
def b418_7 : CSs := .cons (.ret (.s 6)) .nil
def b418_6 : CSs := .cons (.ite (.e (.cmp .IsNot (.s 6) (.k .non))) b418_7 .nil) .nil
def b418_5 : CSs := .cons (.set 6 (.call 418 (.cons (.s 0) (.cons (.s 1) (.cons (.bin .Add (.s 2) (.tup (.cons (.s 5) .nil))) (.cons (.bin .BitOr (.s 3) (.bin .LShift (.k (.int 1)) (.s 5))) .nil)))))) b418_6
def b418_4 : CSs := .cons (.ite (.e (.cmp .Gt (.s 5) (.s 1))) b418_5 .nil) .nil
def b418_8 : CSs := .cons (.ret (.k .non)) .nil
def b418_3 : CSs := .cons (.loop (.one 5) (.e (.call 6 (.cons (.bin .BitAnd (.idx (.fld (.s 0) 38) (.s 4)) (.un .Invert (.s 3))) .nil))) b418_4) b418_8
def b418_1 : CSs := .cons (.ite (.and (.e (.cmp .Eq (.bin .Mod (.blt .len (.cons (.s 2) .nil)) (.k (.int 2))) (.k (.int 1)))) (.e (.call 56 (.cons (.idx (.fld (.s 0) 38) (.s 4)) (.cons (.s 1) .nil))))) b418_2 .nil) b418_3
def b418_0 : CSs := .cons (.set 4 (.idx (.s 2) (.un .USub (.k (.int 1))))) b418_1
def f418 : Fn := ⟨4, 7, [0, 1, 2, 3], b418_0⟩
-- odd_round(net); slots 0:net 1:first 2:found
def b419_3 : CSs := .cons (.ret (.s 2)) .nil
def b419_2 : CSs := .cons (.ite (.e (.cmp .IsNot (.s 2) (.k .non))) b419_3 .nil) .nil
def b419_1 : CSs := .cons (.set 2 (.call 418 (.cons (.s 0) (.cons (.s 1) (.cons (.tup (.cons (.s 1) .nil)) (.cons (.bin .LShift (.k (.int 1)) (.s 1)) .nil)))))) b419_2
def b419_4 : CSs := .cons (.ret (.k .non)) .nil
def b419_0 : CSs := .cons (.loop (.one 1) (.rng1 (.fld (.s 0) 0)) b419_1) b419_4
def f419 : Fn := ⟨1, 3, [0], b419_0⟩
-- _law_set(_law_stand, _law_part, _law_flag); slots 0:_law_stand 1:_law_part 2:_law_flag 3:_law_other 4:_law_left
def b426_1 : CSs := .cons (.ret (.ife (.e (.s 2)) (.blt .tuple (.cons (.blt .sorted (.cons (.bin .Add (.s 4) (.lst (.cons (.s 1) .nil))) .nil)) .nil)) (.blt .tuple (.cons (.s 4) .nil)))) .nil
def b426_0 : CSs := .cons (.set 4 (.lc [3] (.one 3) (.e (.s 0)) (.e (.cmp .NotEq (.s 3) (.s 1))) (.s 3))) b426_1
def f426 : Fn := ⟨3, 5, [0, 1, 2], b426_0⟩
-- _law_arrows(_law_pool_here, _law_size); slots 0:_law_pool_here 1:_law_size 2:_law_thin 3:_law_kind 4:_law_found 5:_law_one 6:_law_other 7:_law_fit
def b427_7 : CSs := .cons (.ex (.bm .append (.s 4) (.cons (.tup (.cons (.s 5) (.cons (.s 6) .nil))) .nil))) .nil
def b427_6 : CSs := .cons (.ite (.and (.e (.s 7)) (.e (.cmp .Eq (.call 120 (.cons (.s 0) (.cons (.s 2) .nil))) (.k (.int 0))))) b427_7 .nil) .nil
def b427_5 : CSs := .cons (.set 7 (.and (.cmp .NotEq (.s 5) (.s 6)) (.and (.or (.cmp .NotEq (.s 3) (.k (.int 0))) (.cmp .Lt (.s 5) (.s 6))) (.or (.cmp .NotEq (.s 3) (.k (.int 1))) (.cmp .Eq (.bin .Mod (.blt .int (.cons (.bin .Add (.s 5) (.s 6)) .nil)) (.k (.int 2))) (.k (.int 1))))))) b427_6
def b427_4 : CSs := .cons (.loop (.one 6) (.rng1 (.s 1)) b427_5) .nil
def b427_8 : CSs := .cons (.ret (.blt .tuple (.cons (.s 4) .nil))) .nil
def b427_3 : CSs := .cons (.loop (.one 5) (.rng1 (.s 1)) b427_4) b427_8
def b427_2 : CSs := .cons (.set 4 (.lst .nil)) b427_3
def b427_1 : CSs := .cons (.set 3 (.call 120 (.cons (.s 0) (.cons (.k (.int 4)) .nil)))) b427_2
def b427_0 : CSs := .cons (.set 2 (.call 121 (.cons (.s 0) (.cons (.lst (.cons (.k (.int 2)) (.cons (.k (.int 3)) (.cons (.k (.int 3)) (.cons (.k (.int 4)) .nil))))) .nil)))) b427_1
def f427 : Fn := ⟨2, 8, [0, 1], b427_0⟩
-- _law_net_call(_law_arrows_here, _law_stand, _law_part); slots 0:_law_arrows_here 1:_law_stand 2:_law_part 3:_law_one 4:_law_other
def b428_0 : CSs := .cons (.ret (.call 426 (.cons (.s 1) (.cons (.s 2) (.cons (.cmp .Eq (.blt .len (.cons (.lc [3, 4] (.tup (.cons (.one 3) (.cons (.one 4) .nil))) (.e (.s 0)) (.and (.e (.cmp .Eq (.s 4) (.s 2))) (.e (.cmp .In (.s 3) (.s 1)))) (.s 3)) .nil)) (.k (.int 0))) .nil))))) .nil
def f428 : Fn := ⟨3, 5, [0, 1, 2], b428_0⟩
-- _law_net_still(_law_size, _law_arrows_here, _law_stand); slots 0:_law_size 1:_law_arrows_here 2:_law_stand 3:_law_part
def b429_0 : CSs := .cons (.ret (.blt .all (.cons (.lc [3] (.one 3) (.rng1 (.s 0)) .yes (.cmp .Eq (.call 428 (.cons (.s 1) (.cons (.s 2) (.cons (.s 3) .nil)))) (.s 2))) .nil))) .nil
def f429 : Fn := ⟨3, 4, [0, 1, 2], b429_0⟩
-- Net.begin(self, size, arrows); slots 0:self 1:size 2:arrows 3:one 4:other
def b437_7 : CSs := .cons (.fiset 0 38 (.s 3) (.bin .BitOr (.idx (.fld (.s 0) 38) (.s 3)) (.bin .LShift (.k (.int 1)) (.s 4)))) .nil
def b437_6 : CSs := .cons (.fiset 0 37 (.s 4) (.bin .BitOr (.idx (.fld (.s 0) 37) (.s 4)) (.bin .LShift (.k (.int 1)) (.s 3)))) b437_7
def b437_5 : CSs := .cons (.loop (.tup (.cons (.one 3) (.cons (.one 4) .nil))) (.e (.s 2)) b437_6) .nil
def b437_4 : CSs := .cons (.fset 0 38 (.bin .Mult (.lst (.cons (.k (.int 0)) .nil)) (.s 1))) b437_5
def b437_3 : CSs := .cons (.fset 0 37 (.bin .Mult (.lst (.cons (.k (.int 0)) .nil)) (.s 1))) b437_4
def b437_2 : CSs := .cons (.fset 0 2 (.bin .Sub (.bin .LShift (.k (.int 1)) (.s 1)) (.k (.int 1)))) b437_3
def b437_1 : CSs := .cons (.fset 0 40 (.s 2)) b437_2
def b437_0 : CSs := .cons (.fset 0 0 (.s 1)) b437_1
def f437 : Fn := ⟨3, 5, [0, 1, 2], b437_0⟩
-- Net.__eq__(self, other); slots 0:self 1:other
def b438_0 : CSs := .cons (.ret (.and (.blt .isi (.cons (.s 1) (.cons (.k (.cl 5)) .nil))) (.cmp .Eq (.tup (.cons (.fld (.s 0) 0) (.cons (.fld (.s 0) 40) .nil))) (.tup (.cons (.fld (.s 1) 0) (.cons (.fld (.s 1) 40) .nil)))))) .nil
def f438 : Fn := ⟨2, 2, [0, 1], b438_0⟩
-- net_called(net, stand, part); slots 0:net 1:stand 2:part
def b491_2 : CSs := .cons (.ret (.call 6 (.cons (.call 416 (.cons (.s 0) (.cons (.call 4 (.cons (.s 1) .nil)) (.cons (.s 2) .nil)))) .nil))) .nil
def b491_1 : CSs := .cons (.ex (.call 8 (.cons (.s 0) (.cons (.s 2) .nil)))) b491_2
def b491_0 : CSs := .cons (.ex (.call 9 (.cons (.s 0) (.cons (.s 1) .nil)))) b491_1
def f491 : Fn := ⟨3, 3, [0, 1, 2], b491_0⟩
-- rests_from(net, part, yes, no); slots 0:net 1:part 2:yes 3:no 4:found
def b492_1 : CSs := .cons (.ret (.ife (.e (.call 417 (.cons (.s 0) (.cons (.s 2) .nil)))) (.lst (.cons (.s 2) .nil)) (.lst .nil))) .nil
def b492_4 : CSs := .cons (.set 4 (.call 492 (.cons (.s 0) (.cons (.bin .Add (.s 1) (.k (.int 1))) (.cons (.bin .BitOr (.s 2) (.bin .LShift (.k (.int 1)) (.s 1))) (.cons (.s 3) .nil)))))) .nil
def b492_6 : CSs := .cons (.set 4 (.bin .Add (.s 4) (.call 492 (.cons (.s 0) (.cons (.bin .Add (.s 1) (.k (.int 1))) (.cons (.s 2) (.cons (.bin .BitOr (.s 3) (.bin .LShift (.k (.int 1)) (.s 1))) .nil))))))) .nil
def b492_7 : CSs := .cons (.ret (.s 4)) .nil
def b492_5 : CSs := .cons (.ite (.e (.cmp .NotEq (.bin .BitAnd (.idx (.fld (.s 0) 37) (.s 1)) (.un .Invert (.s 3))) (.k (.int 0)))) b492_6 .nil) b492_7
def b492_3 : CSs := .cons (.ite (.and (.e (.cmp .Eq (.bin .BitAnd (.idx (.fld (.s 0) 37) (.s 1)) (.s 2)) (.k (.int 0)))) (.e (.cmp .Eq (.bin .BitAnd (.idx (.fld (.s 0) 38) (.s 1)) (.s 2)) (.k (.int 0))))) b492_4 .nil) b492_5
def b492_2 : CSs := .cons (.set 4 (.lst .nil)) b492_3
def b492_0 : CSs := .cons (.ite (.e (.cmp .Eq (.s 1) (.fld (.s 0) 0))) b492_1 .nil) b492_2
def f492 : Fn := ⟨4, 5, [0, 1, 2, 3], b492_0⟩
-- net_rests(net); slots 0:net 1:bits
def b493_0 : CSs := .cons (.ret (.blt .sorted (.cons (.lc [1] (.one 1) (.e (.call 492 (.cons (.s 0) (.cons (.k (.int 0)) (.cons (.k (.int 0)) (.cons (.k (.int 0)) .nil)))))) .yes (.call 6 (.cons (.s 1) .nil))) .nil))) .nil
def f493 : Fn := ⟨1, 2, [0], b493_0⟩
-- law(_law_script); slots 0:_law_script 1:_law_lot_here 2:_law_pool_here 3:_law_turn 4:_law_size 5:_law_arrows_here 6:_law_net 7:_law_due 8:_law_told 9:_law_again 10:_law_stand 11:_law_part
def b494_4 : CSs := .cons (.set 4 (.k (.int 8))) .nil
def b494_10 : CSs := .cons (.ret (.k (.bl false))) .nil
def b494_15 : CSs := .cons (.ret (.k (.bl false))) .nil
def b494_14 : CSs := .cons (.ite (.e (.cmp .NotEq (.blt .repr (.cons (.call 491 (.cons (.s 6) (.cons (.s 10) (.cons (.s 11) .nil)))) .nil)) (.blt .repr (.cons (.call 428 (.cons (.s 5) (.cons (.s 10) (.cons (.s 11) .nil)))) .nil)))) b494_15 .nil) .nil
def b494_13 : CSs := .cons (.set 11 (.call 120 (.cons (.s 2) (.cons (.s 4) .nil)))) b494_14
def b494_12 : CSs := .cons (.set 10 (.call 124 (.cons (.s 2) (.cons (.s 4) .nil)))) b494_13
def b494_18 : CSs := .cons (.ret (.k (.bl false))) .nil
def b494_17 : CSs := .cons (.ite (.e (.cmp .NotEq (.call 493 (.cons (.s 6) .nil)) (.s 7))) b494_18 .nil) .nil
def b494_16 : CSs := .cons (.ex (.bm .append (.s 8) (.cons (.k .non) .nil))) b494_17
def b494_11 : CSs := .cons (.loop (.one 9) (.rng1 (.k (.int 6))) b494_12) b494_16
def b494_9 : CSs := .cons (.ite (.or (.not (.e (.blt .isi (.cons (.s 8) (.cons (.k (.ty .list)) .nil))))) (.or (.e (.cmp .NotEq (.blt .repr (.cons (.s 8) .nil)) (.blt .repr (.cons (.s 7) .nil)))) (.and (.e (.cmp .Eq (.blt .len (.cons (.s 7) .nil)) (.k (.int 0)))) (.e (.cmp .Is (.call 419 (.cons (.s 6) .nil)) (.k .non)))))) b494_10 .nil) b494_11
def b494_8 : CSs := .cons (.set 8 (.call 493 (.cons (.s 6) .nil))) b494_9
def b494_7 : CSs := .cons (.set 7 (.lc [1] (.one 1) (.e (.call 77 (.cons (.s 4) .nil))) (.e (.call 429 (.cons (.s 4) (.cons (.s 5) (.cons (.s 1) .nil))))) (.s 1))) b494_8
def b494_6 : CSs := .cons (.set 6 (.mk 5 (.cons (.s 4) (.cons (.s 5) .nil)))) b494_7
def b494_5 : CSs := .cons (.set 5 (.call 427 (.cons (.s 2) (.cons (.s 4) .nil)))) b494_6
def b494_3 : CSs := .cons (.ite (.e (.cmp .Eq (.call 120 (.cons (.s 2) (.cons (.k (.int 16)) .nil))) (.k (.int 0)))) b494_4 .nil) b494_5
def b494_2 : CSs := .cons (.set 4 (.bin .Add (.k (.int 1)) (.call 120 (.cons (.s 2) (.cons (.k (.int 6)) .nil))))) b494_3
def b494_19 : CSs := .cons (.ret (.k (.bl true))) .nil
def b494_1 : CSs := .cons (.loop (.one 3) (.rng1 (.k (.int 3))) b494_2) b494_19
def b494_0 : CSs := .cons (.set 2 (.call 119 (.cons (.s 0) .nil))) b494_1
def f494 : Fn := ⟨1, 12, [0], b494_0⟩
-- Net.__init__(self, size, arrows); slots 0:self 1:size 2:arrows 3:number 4:item
def b495_1 : CSs := .cons .bad .nil
def b495_3 : CSs := .cons .bad .nil
def b495_6 : CSs := .cons .bad .nil
def b495_5 : CSs := .cons (.ite (.or (.not (.e (.call 414 (.cons (.s 4) (.cons (.s 1) .nil))))) (.and (.e (.cmp .Gt (.s 3) (.k (.int 0)))) (.e (.cmp .LtE (.s 4) (.idx (.s 2) (.bin .Sub (.s 3) (.k (.int 1)))))))) b495_6 .nil) .nil
def b495_7 : CSs := .cons (.ex (.um 3 (.s 0) (.cons (.s 1) (.cons (.s 2) .nil)))) .nil
def b495_4 : CSs := .cons (.loop (.tup (.cons (.one 3) (.cons (.one 4) .nil))) (.enum (.s 2)) b495_5) b495_7
def b495_2 : CSs := .cons (.ite (.not (.e (.blt .isi (.cons (.s 2) (.cons (.k (.ty .tuple)) .nil))))) b495_3 .nil) b495_4
def b495_0 : CSs := .cons (.ite (.not (.e (.call 1 (.cons (.s 1) (.cons (.k (.int 1)) (.cons (.g 18) .nil)))))) b495_1 .nil) b495_2
def f495 : Fn := ⟨3, 5, [0, 1, 2], b495_0⟩
def kl5i495 : Cl := ⟨495, [(3, 437)], [0, 2, 37, 38, 40], some 438⟩
local macro_rules | `(tactic| simp? only [$xs,*]) => `(tactic| simp -implicitDefEqProofs only [$xs,*, ↓wpS_whl, ↓wpE_lc, ↓wpE_lcp, ↓wpE_lc2, wpSs, wpS, wpE, wpX, wpL, wpT, wpI, wo_some, wo_none, wo_ite, wo_map, wo_bind, wc_some, wo_lookF, wo_lookC, wo_getG, slot0, slotS, slR_n, slR_v, slR_l, slR_k, slR_t, slR_i, get_n, look_d, look_m, look_p, esc_d, esc_m, esc_p, give_d, give_m, give_p, isF_d, isF_m, isF_p, isF_f, setl_d, setl_m, setl_p, asB_b, asI_i, asD_d, seq_l, seq_t, seq_s, lt_l, lt_t, zip_l, zip_t, frz_v, frz_l, frz_k, frz_t, frz_i, frzF_n, frzF_c, take_n, take_d, take_p, take_f, give0, giveS, giveN, resR_v, resR_l, resR_k, resR_t, resR_i, outs_n, outs_v, outs_l, outs_k, outs_t, outs_i, setP_n, List.set_cons_zero, List.set_cons_succ, List.contains_cons, List.contains_nil, Bool.or_false, Bool.false_or, Bool.true_or, Bool.or_true, Bool.not_true, Bool.not_false, Bool.and_true, Bool.true_and, Bool.false_and, Bool.and_false, implies_true, false_implies, true_implies, if_true, if_false, true_and, and_true, Bool.false_eq_true, reduceCtorEq, Option.map_some, Option.map_none, Option.bind_some, Option.bind_none, viewM, Nat.zero_add, Nat.reduceAdd, Nat.reduceBEq, beq_self_eq_true, List.map_cons, List.map_nil, List.replicate, List.cons_append, List.nil_append, Nat.reduceSub, Nat.sub_self, List.mapM_cons, List.mapM_nil, Option.pure_def, Option.bind_eq_bind, and_self, not_true_eq_false, not_false_eq_true, decide_eq_true_eq, oeqW_s, oeqW_n, eq_defN, eqPl_f, eqPl_t, wpM_n, wpM_c, sm_n, sm_c, anio_n, anio_c, lsd_l, isdk_k, ex_dKd, asM_m, lkz_d, lkz_p, scl_n, scl_b, scl_i, scl_s, rev_l, rev_t, slt_l, slt_t, setR_t, setR_f, getD', asMB_b, eq_def, eqD_b, eqD_i, cmp_isb, cmp_isnb, isi_ins_ty, isi_ins_cl, isi_ins_lt, isi_non_cl, isi_bl_cl, isi_int_cl, isi_str_cl, isi_tup_cl, isi_lst_cl, isi_dK_cl, isi_dK_none, isi_dK_bool, isi_dK_int, isi_dK_str, isi_dK_list, isi_dK_tuple, isi_dK_dict, isi_dK_lt, isi_dT_none, isi_dT_bool, isi_dT_int, isi_dT_str, isi_dT_list, isi_dT_tuple, isi_dT_dict, isi_dT_lt, Option.isSome_none, Option.isSome_some, ex_ins, ex_int, ex_lst, ex_lst0, ex_two, ex_new, ex_cons, ex_dT, ex_mdT, Nat.reduceLT, lookC, lookF, fld_d, fld_p, recv_p, recv_d, recv_m, getP, setP, getA, putA, List.lookup, Option.isNone_none, Option.isNone_some, Nat.reduceEqDiff, cmp_let, hide0, hideS, back0, backS, List.getElem?_cons_zero, List.getElem?_cons_succ, Option.getD_some, Option.getD_none, bt_one, bt_tup, bts_n, bts_c, tl_n, tl_c, List.length_cons, List.length_nil, bin_add, bin_sub, wo_mul, wo_div, wo_mod, wo_pow, wo_shl, wo_shr, bin_and, bin_or, bin_xor, wo_adl, wo_adt, wo_mll, un_neg, un_inv, cmp_lt, cmp_le, cmp_gt, cmp_ge, cmp_eq, cmp_ne, cmp_eqb, cmp_neb, cmp_is, cmp_isn, cmp_inl, cmp_int, cmp_ninl, cmp_nint, isN_non, isi_non_none, isi_non_bool, isi_non_int, isi_non_str, isi_non_list, isi_non_tuple, isi_non_dict, isi_non_lt, isN_bl, isi_bl_none, isi_bl_bool, isi_bl_int, isi_bl_str, isi_bl_list, isi_bl_tuple, isi_bl_dict, isi_bl_lt, isN_int, isi_int_none, isi_int_bool, isi_int_int, isi_int_str, isi_int_list, isi_int_tuple, isi_int_dict, isi_int_lt, isN_str, isi_str_none, isi_str_bool, isi_str_int, isi_str_str, isi_str_list, isi_str_tuple, isi_str_dict, isi_str_lt, isN_tup, isi_tup_none, isi_tup_bool, isi_tup_int, isi_tup_str, isi_tup_list, isi_tup_tuple, isi_tup_dict, isi_tup_lt, isN_lst, isi_lst_none, isi_lst_bool, isi_lst_int, isi_lst_str, isi_lst_list, isi_lst_tuple, isi_lst_dict, isi_lst_lt, b_isi, b_lenl, b_lent, b_lens, b_int, b_intb, b_min, b_max, b_abs, b_tupl, b_tupt, b_lstl, b_lstt, b_lsts, b_lstdK, b_lstdT, cmp_indT, cmp_nindT, cmp_indK, cmp_nindK, keyD_i, dct_t, dct_f, b_srt, b_srtt, b_all, b_any, b_sum, wo_app, bm_pop, wo_ext, aug_add, aug_sub, ix_lst0, ix_tup0, set_0, ix_lst1, ix_tup1, set_1, ix_lst2, ix_tup2, set_2, ix_lst3, ix_tup3, set_3, ix_lst4, ix_tup4, set_4, ix_lst5, ix_tup5, set_5, b_repr])

-- shared plain laws
theorem ix_i {xs : List Int} {k : Int} (h0 : 0 ≤ k) (h1 : k < xs.length) : idxD (.lst (xs.map .int)) (.int k) = some (.int (xs.getD k.toNat 0)) := by
  obtain ⟨n, rfl⟩ := Int.eq_ofNat_of_zero_le h0
  have hn : n < xs.length := by omega
  exact L2.atI_nat (by rw [List.getElem?_map]; simp [List.getD, List.getElem?_eq_getElem hn])
theorem List.reverseRecOn' {α : Type} {P : List α → Prop} (h0 : P []) (h1 : ∀ (xs : List α) (x : α), P xs → P (xs ++ [x])) (xs : List α) : P xs := by
  have H : ∀ ys : List α, P ys.reverse := by
    intro ys
    induction ys with
    | nil => exact h0
    | cons y ys ih => rw [List.reverse_cons]; exact h1 _ _ ih
  have := H xs.reverse
  rwa [List.reverse_reverse] at this

/-- a law's tape: the script's cells, where it stands, what is left of a great cell, the mixed state, the count -/
def Tape (m : M) : Prop := ∃ (cs : List Int) (a r x s : Int), m = .lst [.lst (cs.map .int), .int a, .int r, .int x, .int s] ∧ 0 ≤ a ∧ 0 ≤ x
section
variable {G : GS}
end

/-! bits of whole numbers -/
theorem xor_two (a b : Nat) : (a ^^^ b) + 2 * (a &&& b) = a + b := by
  induction a using Nat.strongRecOn generalizing b with
  | ind a ih =>
    by_cases h : a = 0
    · subst h; simp
    have e := ih (a / 2) (by omega) (b / 2)
    rw [← Nat.xor_div_two, ← Nat.and_div_two] at e
    have x2 : (a ^^^ b) % 2 = 1 ↔ ¬ (a % 2 = 1 ↔ b % 2 = 1) := by
      have := Nat.testBit_xor a b 0
      simp only [Nat.testBit_zero] at this
      by_cases h1 : a % 2 = 1 <;> by_cases h2 : b % 2 = 1 <;> simp [h1, h2] at this ⊢ <;> omega
    have a2 : (a &&& b) % 2 = 1 ↔ a % 2 = 1 ∧ b % 2 = 1 := Nat.and_mod_two_eq_one
    by_cases h1 : a % 2 = 1 <;> by_cases h2 : b % 2 = 1 <;> simp only [h1, h2, iff_self, not_true_eq_false, iff_false, not_false_eq_true, true_and, and_true, and_self, iff_true, false_and, and_false, true_iff, false_iff] at x2 a2 <;> omega
/-- a without the bits of b -/
def andN (a b : Nat) : Nat := a ^^^ (a &&& b)
theorem andN_bit (a b i : Nat) : (andN a b).testBit i = (a.testBit i && !b.testBit i) := by
  unfold andN
  rw [Nat.testBit_xor, Nat.testBit_and]
  cases a.testBit i <;> cases b.testBit i <;> rfl
theorem andN_eq (a b : Nat) : andN a b + (a &&& b) = a := by
  have e := xor_two a (a &&& b)
  have : a &&& (a &&& b) = a &&& b := Nat.eq_of_testBit_eq fun i => by simp only [Nat.testBit_and]; cases a.testBit i <;> rfl
  rw [this] at e
  unfold andN
  omega
theorem b_and (a b : Nat) : Builtin.bitAnd (a : Int) (b : Int) = ((a &&& b : Nat) : Int) := by
  unfold Builtin.bitAnd
  rw [decide_eq_true (Int.natCast_nonneg a), decide_eq_true (Int.natCast_nonneg b)]
  rfl
theorem b_or (a b : Nat) : Builtin.bitOr (a : Int) (b : Int) = ((a ||| b : Nat) : Int) := by
  rw [L2.bitOr_nn (Int.natCast_nonneg _) (Int.natCast_nonneg _)]; rfl
theorem b_andn (a b : Nat) : Builtin.bitAnd (a : Int) (Builtin.bitNot (b : Int)) = ((andN a b : Nat) : Int) := by
  have h1 : ¬ (0 ≤ Builtin.bitNot (b : Int)) := by show ¬ (0 ≤ -(b : Int) - 1); omega
  have h2 : (Builtin.bitNot (Builtin.bitNot (b : Int))).toNat = b := by show (-(-(b : Int) - 1) - 1).toNat = b; omega
  unfold Builtin.bitAnd
  rw [decide_eq_true (Int.natCast_nonneg a), decide_eq_false h1]
  simp only [h2, Int.toNat_natCast]
  have := andN_eq a b
  omega
/-- the bits of m, the least first -/
def lotOf (m : Nat) : List Nat := (List.range m).filter m.testBit
theorem bit_lt {m i : Nat} (h : m.testBit i = true) : i < m := Nat.lt_of_lt_of_le Nat.lt_two_pow_self (Nat.ge_two_pow_of_testBit h)
theorem mem_lotOf {m i : Nat} : i ∈ lotOf m ↔ m.testBit i = true := by
  unfold lotOf
  rw [List.mem_filter, List.mem_range]
  exact ⟨fun h => h.2, fun h => ⟨bit_lt h, h⟩⟩
theorem lotOf_up (m : Nat) : (lotOf m).Pairwise (· < ·) := List.Pairwise.filter _ List.pairwise_lt_range
theorem up_ext {xs ys : List Nat} (hx : xs.Pairwise (· < ·)) (hy : ys.Pairwise (· < ·)) (h : ∀ i, i ∈ xs ↔ i ∈ ys) : xs = ys := by
  induction xs generalizing ys with
  | nil =>
    cases ys with
    | nil => rfl
    | cons y ys => exact absurd ((h y).mpr (by simp)) (by simp)
  | cons x xs ih =>
    cases ys with
    | nil => exact absurd ((h x).mp (by simp)) (by simp)
    | cons y ys =>
      have hx1 := List.pairwise_cons.mp hx
      have hy1 := List.pairwise_cons.mp hy
      have exy : x = y := by
        have a := (h x).mp (by simp)
        have b := (h y).mpr (by simp)
        rcases List.mem_cons.mp a with e | a
        · exact e
        rcases List.mem_cons.mp b with e | b
        · exact e.symm
        have := hy1.1 x a
        have := hx1.1 y b
        omega
      subst exy
      rw [ih hx1.2 hy1.2 fun i => ?_]
      have hi := h i
      simp only [List.mem_cons] at hi
      constructor
      · intro q
        rcases hi.mp (.inr q) with e | e
        · subst e; exact absurd (hx1.1 _ q) (by omega)
        · exact e
      · intro q
        rcases hi.mpr (.inr q) with e | e
        · subst e; exact absurd (hy1.1 _ q) (by omega)
        · exact e
/-- the number of a lot -/
def bm (ns : List Nat) : Nat := ns.foldl (fun b i => b ||| 2 ^ i) 0
theorem bm_go (ns : List Nat) (b i : Nat) : (ns.foldl (fun b i => b ||| 2 ^ i) b).testBit i = (b.testBit i || decide (i ∈ ns)) := by
  induction ns generalizing b with
  | nil => simp
  | cons n ns ih =>
    rw [List.foldl_cons, ih, Nat.testBit_or, Nat.testBit_two_pow, Bool.or_assoc]
    congr 1
    rw [← Bool.decide_or]
    exact decide_eq_decide.mpr (by rw [List.mem_cons]; exact ⟨fun h => h.imp Eq.symm _root_.id, fun h => h.imp Eq.symm _root_.id⟩)
theorem bm_bit (ns : List Nat) (i : Nat) : (bm ns).testBit i = decide (i ∈ ns) := by
  unfold bm; rw [bm_go]; simp
theorem lot_bm {ns : List Nat} (h : ns.Pairwise (· < ·)) : lotOf (bm ns) = ns := up_ext (lotOf_up _) h fun i => by rw [mem_lotOf, bm_bit]; simp
theorem low_split {m : Nat} (h : 0 < m) : ∃ l q, m = 2 ^ l * (2 * q + 1) := by
  induction m using Nat.strongRecOn with
  | ind m ih =>
    by_cases e : m % 2 = 1
    · exact ⟨0, m / 2, by omega⟩
    · obtain ⟨l, q, hq⟩ := ih (m / 2) (by omega) (by omega)
      refine ⟨l + 1, q, ?_⟩
      rw [Nat.pow_succ, Nat.mul_right_comm, ← hq]; omega
theorem low_and {l q : Nat} : (2 ^ l * (2 * q + 1)) &&& (2 ^ l * (2 * q + 1) - 1) = 2 ^ l * (2 * q) := by
  have e : 2 ^ l * (2 * q + 1) - 1 = 2 ^ l * (2 * q) + (2 ^ l - 1) := by
    have := Nat.two_pow_pos l
    rw [Nat.mul_add, Nat.mul_one]; omega
  rw [e]
  apply Nat.eq_of_testBit_eq
  intro i
  have hlt : 2 ^ l - 1 < 2 ^ l := by have := Nat.two_pow_pos l; omega
  rw [Nat.testBit_and, Nat.testBit_two_pow_mul_add _ hlt, Nat.testBit_two_pow_mul, Nat.testBit_two_pow_mul]
  by_cases hi : i < l
  · simp [hi, show ¬ l ≤ i by omega]
  · simp only [hi, if_false, show (i ≥ l) = True from eq_true (by omega), decide_true, Bool.true_and]
    cases hh : i - l with
    | zero => simp [Nat.testBit_zero]
    | succ k => simp only [Nat.testBit_succ]; rw [show (2 * q + 1) / 2 = q by omega, show 2 * q / 2 = q by omega]; simp
theorem bits_pow (l : Nat) : Builtin.Int.intBits ((2 ^ l : Nat) : Int) = l + 1 := by
  unfold Builtin.Int.intBits
  have := Nat.two_pow_pos l
  rw [if_neg (by simp only [beq_iff_eq]; omega), Int.natAbs_natCast, Nat.log2_two_pow]
theorem low_neg {l q : Nat} : Builtin.bitAnd ((2 ^ l * (2 * q + 1) : Nat) : Int) (-((2 ^ l * (2 * q + 1) : Nat) : Int)) = ((2 ^ l : Nat) : Int) := by
  have e : -((2 ^ l * (2 * q + 1) : Nat) : Int) = Builtin.bitNot ((2 ^ l * (2 * q + 1) - 1 : Nat) : Int) := by
    have : 0 < 2 ^ l * (2 * q + 1) := Nat.mul_pos (Nat.two_pow_pos l) (by omega)
    show _ = -((_ : Nat) : Int) - 1
    omega
  rw [e, b_andn]
  have := andN_eq (2 ^ l * (2 * q + 1)) (2 ^ l * (2 * q + 1) - 1)
  rw [low_and] at this
  rw [Nat.mul_add, Nat.mul_one] at this ⊢
  congr 1
  omega
theorem lotOf_low {l q : Nat} : lotOf (2 ^ l * (2 * q + 1)) = l :: lotOf (2 ^ l * (2 * q)) := by
  refine up_ext (lotOf_up _) (List.pairwise_cons.mpr ⟨fun i hi => ?_, lotOf_up _⟩) fun i => ?_
  · rw [mem_lotOf, Nat.testBit_two_pow_mul] at hi
    simp only [Bool.and_eq_true, decide_eq_true_eq] at hi
    rcases Nat.lt_or_eq_of_le hi.1 with h | h
    · exact h
    · rw [← h, Nat.sub_self, Nat.testBit_zero] at hi
      have := hi.2
      simp at this
  · rw [List.mem_cons, mem_lotOf, mem_lotOf, Nat.testBit_two_pow_mul, Nat.testBit_two_pow_mul]
    simp only [Bool.and_eq_true, decide_eq_true_eq]
    by_cases e : i = l
    · subst e; simp [Nat.testBit_zero]
    · constructor
      · rintro ⟨h1, h2⟩
        refine .inr ⟨h1, ?_⟩
        obtain ⟨k, hk⟩ : ∃ k, i - l = k + 1 := ⟨i - l - 1, by omega⟩
        rw [hk, Nat.testBit_succ] at h2 ⊢
        rw [show 2 * q / 2 = q by omega]
        rwa [show (2 * q + 1) / 2 = q by omega] at h2
      · rintro (h | ⟨h1, h2⟩)
        · exact absurd h e
        refine ⟨h1, ?_⟩
        obtain ⟨k, hk⟩ : ∃ k, i - l = k + 1 := ⟨i - l - 1, by omega⟩
        rw [hk, Nat.testBit_succ] at h2 ⊢
        rw [show (2 * q + 1) / 2 = q by omega]
        rwa [show 2 * q / 2 = q by omega] at h2
/-- a number that is a whole one -/
abbrev I (n : Nat) : D := .int (n : Int)
/-- a tuple of whole numbers -/
abbrev L (ns : List Nat) : D := .tup (ns.map I)
theorem bm_snoc (ns : List Nat) (x : Nat) : I (bm (ns ++ [x])) = .int (Builtin.bitOr (bm ns : Int) (1 * 2 ^ ((x : Int)).toNat)) := by
  have : (1 * 2 ^ ((x : Int)).toNat : Int) = ((2 ^ x : Nat) : Int) := by rw [Int.toNat_natCast, Int.one_mul]; norm_cast
  rw [this, b_or]
  unfold bm
  rw [List.foldl_append]
  rfl

section
variable {G : GS} [HasF G 0 f0] [HasF G 1 f1] [HasF G 2 f2] [HasF G 3 f3] [HasF G 4 f4] [HasF G 5 f5] [HasF G 6 f6]
theorem c_int {n : Nat} {i : Int} : callN G (n + 1) 0 [.v (.int i)] = some (.v (.bl true), [.v (.int i)]) := by
  refine wc_eq (call_wp ⟨rfl, by decide⟩ ?_)
  simp? only [f0, b0_0]
theorem c_btw {n : Nat} {t l m : Int} : callN G (n + 2) 1 [.v (.int t), .v (.int l), .v (.int m)] = some (.v (.bl (decide (l ≤ t) && decide (t ≤ m))), [.v (.int t), .v (.int l), .v (.int m)]) := by
  refine wc_eq (call_wp ⟨rfl, by decide⟩ ?_)
  simp? only [f1, b1_0, c_int]
  split
  · rename_i h; simp? only [h, decide_true]
  · rename_i h; simp? only [h, decide_false]
theorem c_pair {n : Nat} {a b : D} : callN G (n + 1) 2 [.v (.tup [a, b])] = some (.v (.bl true), [.v (.tup [a, b])]) := by
  refine wc_eq (call_wp ⟨rfl, by decide⟩ ?_)
  simp? only [f2, b2_0]
  rfl
theorem c_lot {n : Nat} {ns : List Nat} {m : Nat} (h : ns.Pairwise (· < ·)) (hm : ∀ x ∈ ns, x < m) : callN G (n + 3) 3 [.v (L ns), .v (I m)] = some (.v (.bl true), [.v (L ns), .v (I m)]) := by
  refine wc_eq (call_wp ⟨rfl, by decide⟩ ?_)
  simp? only [f3, b3_0, b3_2]
  simp? only [b3_3]
  refine for_map (fun ds rs τ => ∃ (last : Int) (l3 : Option M), τ = [some (.v (L ns)), some (.v (I m)), some (.v (.int last)), l3] ∧ ∀ y ∈ rs, last < ((y : Nat) : Int)) ⟨-1, none, rfl, fun y _ => by omega⟩ ?_ ?_
  · rintro ds x rs τ e ⟨last, l3, rfl, hl⟩
    have h1 : last < x := hl x (by simp)
    have h2 : x < m := hm x (by rw [e]; simp)
    have h3 : last + 1 ≤ (x : Int) := by omega
    have h4 : (x : Int) ≤ (m : Int) - 1 := by omega
    simp? only [b3_4, c_btw, h3, h4, decide_true]
    simp? only [b3_6]
    refine ⟨_, _, rfl, fun y hy => ?_⟩
    rw [e] at h
    have := (List.pairwise_cons.mp (List.pairwise_append.mp h).2.1).1 y hy
    omega
  · rintro τ ⟨last, l3, rfl, hl⟩
    simp? only [b3_7]
theorem c_bits {n : Nat} {ns : List Nat} (hb : ∀ x ∈ ns, x ≤ 1000000) : callN G (n + 1) 4 [.v (L ns)] = some (.v (I (bm ns)), [.v (L ns)]) := by
  refine wc_eq (call_wp ⟨rfl, by decide⟩ ?_)
  simp? only [f4, b4_0, b4_1]
  refine for_map (fun ds rs τ => ∃ l2, τ = [some (.v (L ns)), some (.v (I (bm ds))), l2]) ⟨none, rfl⟩ ?_ ?_
  · rintro ds x rs τ e ⟨l2, rfl⟩
    have h1 := hb x (by rw [e]; simp)
    simp? only [b4_2]
    exact ⟨⟨by omega, by omega, by decide⟩, some (.v (I x)), by rw [bm_snoc]⟩
  · rintro τ ⟨l2, rfl⟩
    simp? only [b4_3]
theorem c_low {n l q : Nat} : callN G (n + 1) 5 [.v (I (2 ^ l * (2 * q + 1)))] = some (.v (I l), [.v (I (2 ^ l * (2 * q + 1)))]) := by
  refine wc_eq (call_wp ⟨rfl, by decide⟩ ?_)
  simp? only [f5, b5_0, low_neg, bits_pow]
  have : ((l + 1 : Nat) : Int) - 1 = (l : Int) := by omega
  rw [this]
theorem c_lotof {n m : Nat} (hm : (lotOf m).length < 1000000) : callN G (n + 2) 6 [.v (I m)] = some (.v (L (lotOf m)), [.v (I m)]) := by
  refine wc_eq (call_wp ⟨rfl, by decide⟩ ?_)
  simp? only [f6, b6_0]
  refine ⟨by decide, ?_⟩
  simp? only [b6_1]
  refine whl (fun k τ => ∃ (c : Nat) (ds : List Nat), τ = [some (.v (I c)), some (.lst (ds.map I))] ∧ ds ++ lotOf c = lotOf m ∧ (lotOf c).length = k) (n := (lotOf m).length) (Nat.lt_of_lt_of_le hm (by decide)) ⟨m, [], rfl, rfl, rfl⟩ ?_
  rintro k τ ⟨c, ds, rfl, h1, h2⟩
  simp? only [wo_some]
  by_cases hc : 0 < c
  · have hc' : (0 : Int) < (c : Int) := by omega
    rw [if_pos hc']
    obtain ⟨l, q, hlq⟩ := low_split hc
    have hd : ds.length < SL := by
      have := congrArg List.length h1
      rw [List.length_append] at this
      show ds.length < 16777216
      omega
    subst hlq
    have h1' := h1
    rw [lotOf_low] at h1 h2
    simp? only [b6_2, c_low]
    refine ⟨by rw [List.length_map]; exact hd, ?_⟩
    simp? only [b6_3]
    have e : ((2 ^ l * (2 * q + 1) : Nat) : Int) - 1 = ((2 ^ l * (2 * q + 1) - 1 : Nat) : Int) := by omega
    rw [e, b_and, low_and]
    refine ⟨(lotOf (2 ^ l * (2 * q))).length, by simp at h2; omega, _, ds ++ [l], ?_, by simpa using h1, rfl⟩
    simp
  · have e : c = 0 := by omega
    subst e
    rw [if_neg (by omega)]
    simp? only [b6_4]
    have : ds = lotOf m := by rw [← h1]; exact (List.append_nil _).symm
    rw [this]
end

/-! webs -/
abbrev P2 (p : Nat × Nat) : D := .tup [I p.1, I p.2]
abbrev TS (ts : List (Nat × Nat)) : D := .tup (ts.map P2)
def TLt (p q : Nat × Nat) : Prop := p.1 < q.1 ∨ (p.1 = q.1 ∧ p.2 < q.2)
/-- ties as a web takes them -/
structure Ties (n : Nat) (ts : List (Nat × Nat)) : Prop where
  up : ts.Pairwise TLt
  lt : ∀ p ∈ ts, p.1 < p.2 ∧ p.2 < n
def nearF (ts : List (Nat × Nat)) (i : Nat) : Nat := ts.foldl (fun b p => if p.1 = i then b ||| 2 ^ p.2 else if p.2 = i then b ||| 2 ^ p.1 else b) 0
theorem nearF_snoc (ts : List (Nat × Nat)) (p : Nat × Nat) (i : Nat) : nearF (ts ++ [p]) i = if p.1 = i then nearF ts i ||| 2 ^ p.2 else if p.2 = i then nearF ts i ||| 2 ^ p.1 else nearF ts i := by
  unfold nearF; rw [List.foldl_append]; rfl
/-- i and j are tied -/
def Tied (ts : List (Nat × Nat)) (i j : Nat) : Prop := (i, j) ∈ ts ∨ (j, i) ∈ ts
instance (ts : List (Nat × Nat)) (i j : Nat) : Decidable (Tied ts i j) := inferInstanceAs (Decidable (_ ∨ _))
theorem Tied.symm {ts : List (Nat × Nat)} {i j : Nat} (h : Tied ts i j) : Tied ts j i := Or.symm h
theorem nearF_bit (ts : List (Nat × Nat)) (h : ∀ p ∈ ts, p.1 < p.2) (i j : Nat) : (nearF ts i).testBit j = true ↔ Tied ts i j := by
  induction ts using List.reverseRecOn' with
  | h0 => simp [nearF, Tied]
  | h1 ts p ih =>
    have ih := ih fun q hq => h q (by simp [hq])
    have hp := h p (by simp)
    have e : Tied (ts ++ [p]) i j ↔ Tied ts i j ∨ (p.1 = i ∧ p.2 = j) ∨ (p.1 = j ∧ p.2 = i) := by
      unfold Tied
      simp only [List.mem_append, List.mem_singleton, Prod.ext_iff]
      constructor
      · rintro ((h | h) | (h | h))
        · exact .inl (.inl h)
        · exact .inr (.inl ⟨h.1.symm, h.2.symm⟩)
        · exact .inl (.inr h)
        · exact .inr (.inr ⟨h.1.symm, h.2.symm⟩)
      · rintro ((h | h) | h | h)
        · exact .inl (.inl h)
        · exact .inr (.inl h)
        · exact .inl (.inr ⟨h.1.symm, h.2.symm⟩)
        · exact .inr (.inr ⟨h.1.symm, h.2.symm⟩)
    rw [e, nearF_snoc]
    split
    · rename_i e1
      rw [Nat.testBit_or, Nat.testBit_two_pow, Bool.or_eq_true, ih, decide_eq_true_eq]
      constructor
      · rintro (h | h)
        · exact .inl h
        · exact .inr (.inl ⟨e1, h⟩)
      · rintro (h | h | h)
        · exact .inl h
        · exact .inr h.2
        · omega
    · rename_i e1
      split
      · rename_i e2
        rw [Nat.testBit_or, Nat.testBit_two_pow, Bool.or_eq_true, ih, decide_eq_true_eq]
        constructor
        · rintro (h | h)
          · exact .inl h
          · exact .inr (.inr ⟨h, e2⟩)
        · rintro (h | h | h)
          · exact .inl h
          · omega
          · exact .inr h.1
      · rename_i e2
        rw [ih]
        constructor
        · exact .inl
        · rintro (h | h | h)
          · exact h
          · omega
          · omega
def nearL (n : Nat) (ts : List (Nat × Nat)) : List D := (List.range n).map fun i => I (nearF ts i)
/-- a web, held by its own -/
abbrev webM (n : Nat) (ts : List (Nat × Nat)) : M := .ins 0 [(0, .v (I n)), (4, .v (TS ts)), (2, .v (I (2 ^ n - 1))), (1, .lst (nearL n ts))]
theorem set_near {n : Nat} {xs : List D} {p : Nat} {d : D} (hl : xs.length = n) (h : p < n) : setIx (.lst xs) (I p) d = some (.lst (xs.set p d)) := by
  simp only [setIx]
  rw [ixN_here (by omega)]
theorem rep0 {m : Nat} : (List.replicate ((m : Int)).toNat [D.int 0]).flatten = nearL m [] := by
  rw [Int.toNat_natCast]
  unfold nearL
  induction m with
  | zero => rfl
  | succ m ih =>
    rw [List.replicate_succ', List.flatten_append, ih, List.range_succ, List.map_append]
    rfl
theorem b_or2 (a x : Nat) : D.int (Builtin.bitOr (a : Int) (1 * 2 ^ ((x : Int)).toNat)) = I (a ||| 2 ^ x) := by
  have : (1 * 2 ^ ((x : Int)).toNat : Int) = ((2 ^ x : Nat) : Int) := by rw [Int.toNat_natCast, Int.one_mul]; norm_cast
  rw [this, b_or]
/-- what a lot silences -/
def silF (ts : List (Nat × Nat)) (ns : List Nat) : Nat := ns.foldl (fun a p => a ||| nearF ts p) 0
theorem silF_snoc (ts : List (Nat × Nat)) (ns : List Nat) (p : Nat) : silF ts (ns ++ [p]) = silF ts ns ||| nearF ts p := by unfold silF; rw [List.foldl_append]; rfl
theorem silF_bit (ts : List (Nat × Nat)) (h : ∀ p ∈ ts, p.1 < p.2) (ns : List Nat) (j : Nat) : (silF ts ns).testBit j = true ↔ ∃ p ∈ ns, Tied ts p j := by
  induction ns using List.reverseRecOn' with
  | h0 => simp [silF]
  | h1 ns p ih =>
    rw [silF_snoc, Nat.testBit_or, Bool.or_eq_true, ih, nearF_bit ts h]
    constructor
    · rintro (⟨q, hq, h⟩ | h)
      · exact ⟨q, by simp [hq], h⟩
      · exact ⟨p, by simp, h⟩
    · rintro ⟨q, hq, h⟩
      rcases List.mem_append.mp hq with hq | hq
      · exact .inl ⟨q, hq, h⟩
      · rw [List.mem_singleton.mp hq] at h; exact .inr h
/-- the stand behind a call of p -/
def afterF (ts : List (Nat × Nat)) (b p : Nat) : Nat := if nearF ts p &&& b = 0 then b ||| 2 ^ p else andN b (2 ^ p)
theorem lotOf_len {b n : Nat} (h : ∀ i, b.testBit i = true → i < n) : (lotOf b).length ≤ n := by
  have e : lotOf b = (List.range n).filter b.testBit := up_ext (lotOf_up _) (List.Pairwise.filter _ List.pairwise_lt_range) fun i => by
    rw [mem_lotOf, List.mem_filter, List.mem_range]
    exact ⟨fun q => ⟨h i q, q⟩, fun q => q.2⟩
  rw [e]
  have := List.length_filter_le b.testBit (List.range n)
  rwa [List.length_range] at this
/-- a web that is held for good -/
abbrev webD (n : Nat) (ts : List (Nat × Nat)) : D := .ins 0 [(0, I n), (4, TS ts), (2, I (2 ^ n - 1)), (1, .lst (nearL n ts))]
def IsWeb (w : M) (m : Nat) (ts : List (Nat × Nat)) : Prop := w = webM m ts ∨ w = .v (webD m ts)

section
variable {G : GS} [HasF G 0 f0] [HasF G 1 f1] [HasF G 2 f2] [HasF G 3 f3] [HasF G 4 f4] [HasF G 5 f5] [HasF G 6 f6] [HasF G 8 f8] [HasF G 9 f9]
end
section
variable {G : GS} [HasF G 0 f0] [HasF G 1 f1] [HasF G 2 f2] [HasF G 3 f3] [HasF G 4 f4] [HasF G 5 f5] [HasF G 6 f6] [HasF G 8 f8] [HasF G 9 f9]
variable {n m p : Nat} {ns : List Nat} {ts : List (Nat × Nat)}
end

/-! equality, membership, sorting of whole numbers and pairs of them -/
theorem toPys_map {α : Type} {f : α → D} {g : α → PyData} (h : ∀ a, toPy (f a) = some (g a)) (xs : List α) : toPys (xs.map f) = some (xs.map g) := by
  induction xs with
  | nil => simp [toPys]
  | cons x xs ih => simp [toPys, h, ih]
theorem toPy_I (n : Nat) : toPy (I n) = some (.int (n : Int)) := by simp only [toPy]
theorem lay_map {α : Type} {g : α → PyData} (h : ∀ a, (g a).canLay0 = true) (xs : List α) : PyData.canLayAll0 (xs.map g) = true := by
  induction xs with
  | nil => simp [PyData.canLayAll0]
  | cons x xs ih => simp [PyData.canLayAll0, h, ih]
theorem depth_map {α : Type} {g : α → PyData} {n : Nat} (h : ∀ a, (g a).depth ≤ n) (xs : List α) : PyData.depthAll (xs.map g) ≤ n := by
  induction xs with
  | nil => simp [PyData.depthAll]
  | cons x xs ih =>
    simp only [List.map_cons, PyData.depthAll]
    have := h x
    omega
theorem shp_tup {xs : List PyData} (h1 : PyData.canLayAll0 xs = true) (h2 : PyData.depthAll xs ≤ 60) : SeqAt.shaped (.tuple xs) = true := by
  have : PyData.depthAll xs + 1 ≤ 64 := by omega
  simp only [SeqAt.shaped, PyData.canLay0, PyData.depth, h1, Bool.true_and, decide_eq_true_eq]; exact decide_eq_true this
theorem shp_lst {xs : List PyData} (h1 : PyData.canLayAll0 xs = true) (h2 : PyData.depthAll xs ≤ 60) : SeqAt.shaped (.list xs) = true := by
  have : PyData.depthAll xs + 1 ≤ 64 := by omega
  simp only [SeqAt.shaped, PyData.canLay0, PyData.depth, h1, Bool.true_and, decide_eq_true_eq]; exact decide_eq_true this
abbrev gI (n : Nat) : PyData := .int (n : Int)
abbrev gP (p : Nat × Nat) : PyData := .tuple [.int (p.1 : Int), .int (p.2 : Int)]
theorem eqv_II (a b : Nat) : PyData.eqv (gI a) (gI b) = decide (a = b) := by
  simp only [PyData.eqv]
  by_cases h : a = b
  · simp [h]
  · simp [h]; omega
theorem eqvAll_map {α : Type} [DecidableEq α] {g : α → PyData} (h : ∀ a b, PyData.eqv (g a) (g b) = decide (a = b)) : ∀ xs ys : List α, PyData.eqvAll (xs.map g) (ys.map g) = decide (xs = ys)
  | [], [] => by simp [PyData.eqvAll]
  | [], y :: ys => by simp [PyData.eqvAll]
  | x :: xs, [] => by simp [PyData.eqvAll]
  | x :: xs, y :: ys => by simp [PyData.eqvAll, h, eqvAll_map h xs ys]
theorem any_map {α : Type} [DecidableEq α] {g : α → PyData} (h : ∀ a b, PyData.eqv (g a) (g b) = decide (a = b)) (xs : List α) (x : α) : ((xs.map g).any fun z => PyData.eqv z (g x)) = decide (x ∈ xs) := by
  induction xs with
  | nil => simp
  | cons y ys ih =>
    rw [List.map_cons, List.any_cons, ih, h]
    by_cases e : y = x
    · simp [e]
    · have : x ≠ y := fun q => e q.symm
      simp [e, this]
theorem dI (n : Nat) : (gI n).depth ≤ 8 := by simp [PyData.depth]
theorem lI (n : Nat) : (gI n).canLay0 = true := by simp only [PyData.canLay0]
theorem eqD_L {xs ys : List Nat} : eqD (L xs) (L ys) = some (decide (xs = ys)) := by
  simp only [eqD, toPy, toPys_map toPy_I, Option.map_some]
  rw [if_pos (by rw [shp_tup (lay_map lI xs) (Nat.le_trans (depth_map dI xs) (by decide)), shp_tup (lay_map lI ys) (Nat.le_trans (depth_map dI ys) (by decide))]; rfl)]
  simp only [PyData.eqv]
  rw [eqvAll_map eqv_II]
theorem inD_I {k : Nat} {ns : List Nat} : inD (I k) (ns.map I) = some (decide (k ∈ ns)) := by
  simp only [inD, toPy, toPys_map toPy_I]
  rw [if_pos (by rw [shp_lst (lay_map lI ns) (Nat.le_trans (depth_map dI ns) (by decide))]; rfl), any_map eqv_II]
theorem lexI_I (a b : Nat) : lexI (I a) (I b) = decide (a ≤ b) := by
  simp only [lexI, W.dataLe, W.sortLe, toPy_I, Option.getD_some, W.keyToks, cond_false, PyProof.Rows.lexLt, PyProof.Rows.itemLt, Bool.and_false, Bool.or_false]
  by_cases h : a ≤ b
  · have : ¬ ((b : Int) < (a : Int)) := by omega
    simp [h]
  · have : (b : Int) < (a : Int) := by omega
    simp [h]; omega
theorem sort_map {α : Type} {f : α → D} {g : α → PyData} {le : α → α → Bool} (ht : ∀ a, toPy (f a) = some (g a)) (hl : ∀ a b, lexI (f a) (f b) = le a b) (ha : ∀ a b, W.alike (g a) (g b) = true) (hh : (∀ a, headed (g a) = true) ∨ (∀ a, notTup (g a) = true)) (hd : ∀ a, (g a).depth ≤ 8) {xs : List α} (hs : xs.length ≤ SL) :
    sortD (xs.map f) = some ((xs.mergeSort le).map f) := by
  have e : (xs.map f).mergeSort lexI = (xs.mergeSort le).map f := (List.map_mergeSort fun a _ b _ => (hl a b).symm).symm
  simp only [sortD, toPys_map ht]
  have c1 : ((xs.map g).all fun p => (xs.map g).all fun q => W.alike p q) = true := by
    simp only [List.all_map, List.all_eq_true, Function.comp]; intro a _ b _; exact ha a b
  have c2 : (xs.map g).all headed = true ∨ (xs.map g).all notTup = true := by
    rcases hh with hh | hh
    · left; simp only [List.all_map, List.all_eq_true, Function.comp]; intro a _; exact hh a
    · right; simp only [List.all_map, List.all_eq_true, Function.comp]; intro a _; exact hh a
  have c3 : ((xs.map g).all fun p => decide (p.depth ≤ 8)) = true := by
    simp only [List.all_map, List.all_eq_true, Function.comp, decide_eq_true_eq]; intro a _; exact hd a
  rw [if_pos ⟨by rw [List.length_map]; exact hs, c1, c2, c3⟩, e]
theorem sort_I {ns : List Nat} (hs : ns.length ≤ SL) : sortD (ns.map I) = some ((ns.mergeSort fun a b => decide (a ≤ b)).map I) :=
  sort_map toPy_I lexI_I (fun _ _ => rfl) (.inr fun _ => rfl) dI hs
theorem sorted_I (ns : List Nat) : (ns.mergeSort fun a b => decide (a ≤ b)).Pairwise (· ≤ ·) := by
  have := List.pairwise_mergeSort (le := fun a b : Nat => decide (a ≤ b)) (fun a b c h1 h2 => by simp at *; omega) (fun a b => by simp; omega) ns
  exact this.imp fun h => by simpa using h
theorem sorted_P (ts : List (Nat × Nat)) (nd : ts.Nodup) : (ts.mergeSort fun p q => decide (p.1 < q.1 ∨ (p.1 = q.1 ∧ p.2 ≤ q.2))).Pairwise TLt := by
  have h := List.pairwise_mergeSort (le := fun p q : Nat × Nat => decide (p.1 < q.1 ∨ (p.1 = q.1 ∧ p.2 ≤ q.2))) (fun a b c h1 h2 => by simp at *; omega) (fun a b => by simp; omega) ts
  have nd' : (ts.mergeSort fun p q => decide (p.1 < q.1 ∨ (p.1 = q.1 ∧ p.2 ≤ q.2))).Nodup := (List.mergeSort_perm _ _).nodup_iff.mpr nd
  refine (h.and nd').imp ?_
  rintro ⟨a, b⟩ ⟨c, d⟩ ⟨h1, h2⟩
  simp only [decide_eq_true_eq] at h1
  unfold TLt
  simp only
  rcases h1 with h | ⟨h, h'⟩
  · exact .inl h
  · rcases Nat.lt_or_eq_of_le h' with q | q
    · exact .inr ⟨h, q⟩
    · exact absurd (by rw [h, q]) h2

/-! drawing from the tape -/
def TapeL (xs : List D) : Prop := Tape (.lst xs)
section
variable {G : GS}
end
theorem pop_perm {α : Type} : ∀ {xs : List α} {i : Nat} (h : i < xs.length), ([xs[i]] ++ xs.eraseIdx i).Perm xs
  | x :: xs, 0, _ => .refl _
  | x :: xs, i + 1, h => by
    have hi : i < xs.length := by simpa using h
    exact (List.Perm.swap x xs[i] _).trans ((pop_perm hi).cons x)
section
variable {G : GS}
end

/-! drawing a web -/
def pr (ns : List Nat) (a b : Nat) : Nat × Nat := (min (ns.getD a 0) (ns.getD b 0), max (ns.getD a 0) (ns.getD b 0))
section
variable {G : GS}
end
theorem getD_inj {ns : List Nat} (h : ns.Nodup) {a b : Nat} (ha : a < ns.length) (hb : b < ns.length) (e : ns.getD a 0 = ns.getD b 0) : a = b := by
  simp only [List.getD, List.getElem?_eq_getElem ha, List.getElem?_eq_getElem hb, Option.getD_some] at e
  exact (List.getElem_inj h).mp e
structure Good (ns : List Nat) (ps : List (Nat × Nat)) (i j : Nat) : Prop where
  nd : ps.Nodup
  of : ∀ p ∈ ps, ∃ a b, (a < i ∨ (a = i ∧ b < j)) ∧ b < a ∧ p = pr ns a b
  len : ps.length ≤ i * 24 + j
theorem Good.step {ns : List Nat} {ps ps' : List (Nat × Nat)} {i j : Nat} (g : Good ns ps i j) (hn : ns.Nodup) (hi : i < ns.length) (hj : j < i) (h : ps' = ps ∨ ps' = ps ++ [pr ns i j]) : Good ns ps' i (j + 1) := by
  rcases h with rfl | rfl
  · exact ⟨g.nd, fun p hp => by obtain ⟨a, b, h1, h2, h3⟩ := g.of p hp; exact ⟨a, b, by omega, h2, h3⟩, by have := g.len; omega⟩
  · refine ⟨?_, fun p hp => ?_, ?_⟩
    · refine List.nodup_append.mpr ⟨g.nd, by simp, fun p hp q hq => ?_⟩
      rw [List.mem_singleton.mp hq]
      rintro rfl
      obtain ⟨a, b, h1, h2, h3⟩ := g.of _ hp
      unfold pr at h3
      have e1 := congrArg Prod.fst h3
      have e2 := congrArg Prod.snd h3
      simp only at e1 e2
      have : (ns.getD i 0 = ns.getD a 0 ∧ ns.getD j 0 = ns.getD b 0) ∨ (ns.getD i 0 = ns.getD b 0 ∧ ns.getD j 0 = ns.getD a 0) := by omega
      rcases this with ⟨h4, h5⟩ | ⟨h4, h5⟩
      · have := getD_inj hn hi (by omega) h4
        have := getD_inj hn (by omega) (by omega) h5
        omega
      · have := getD_inj hn hi (by omega) h4
        omega
    · rcases List.mem_append.mp hp with hp | hp
      · obtain ⟨a, b, h1, h2, h3⟩ := g.of p hp; exact ⟨a, b, by omega, h2, h3⟩
      · rw [List.mem_singleton.mp hp]; exact ⟨i, j, by omega, hj, rfl⟩
    · have := g.len; rw [List.length_append, List.length_singleton]; omega
theorem Good.next {ns : List Nat} {ps : List (Nat × Nat)} {i : Nat} (g : Good ns ps i i) (hi : i < 24) : Good ns ps (i + 1) 0 :=
  ⟨g.nd, fun p hp => by obtain ⟨a, b, h1, h2, h3⟩ := g.of p hp; exact ⟨a, b, by omega, h2, h3⟩, by have := g.len; omega⟩
theorem Good.ties {ns : List Nat} {ps : List (Nat × Nat)} {m : Nat} (g : Good ns ps m 0) (hp : ns.Perm (List.range m)) : Ties m (ps.mergeSort fun p q => decide (p.1 < q.1 ∨ (p.1 = q.1 ∧ p.2 ≤ q.2))) := by
  have hn : ns.Nodup := hp.nodup_iff.mpr List.nodup_range
  have hl : ns.length = m := by rw [hp.length_eq, List.length_range]
  refine ⟨sorted_P ps g.nd, fun p h => ?_⟩
  obtain ⟨a, b, h1, h2, rfl⟩ := g.of p ((List.mergeSort_perm _ _).subset h)
  have ha : a < ns.length := by omega
  have hb : b < ns.length := by omega
  have ne : ns.getD a 0 ≠ ns.getD b 0 := fun e => by have := getD_inj hn ha hb e; omega
  have la : ns.getD a 0 < m := by
    simp only [List.getD, List.getElem?_eq_getElem ha, Option.getD_some]
    have := hp.subset (List.getElem_mem ha)
    simpa using this
  have lb : ns.getD b 0 < m := by
    simp only [List.getD, List.getElem?_eq_getElem hb, Option.getD_some]
    have := hp.subset (List.getElem_mem hb)
    simpa using this
  unfold pr
  simp only
  omega
section
variable {G : GS}
end

/-! a law's own account -/
section
variable {G : GS}
/-- the account of who says yes -/
def saysF (ts : List (Nat × Nat)) (ns : List Nat) (p : Nat) : Bool := decide (∀ q ∈ ns, ¬ Tied ts p q)
/-- the account of the stand behind a call -/
def behindF (ts : List (Nat × Nat)) (ns : List Nat) (p : Nat) : List Nat := if saysF ts ns p = true then (ns.filter (· ≠ p) ++ [p]).mergeSort (fun a b => decide (a ≤ b)) else ns.filter (· ≠ p)
end

/-! sorted(set(..)) of pairs; equality of pairs and of rows of them -/
def leP (p q : Nat × Nat) : Bool := decide (p.1 < q.1 ∨ (p.1 = q.1 ∧ p.2 ≤ q.2))
/-- the pairs without repetition, ascending -/
def sprP (ts : List (Nat × Nat)) : List (Nat × Nat) := (nub ts).mergeSort leP
abbrev enP (p : Nat × Nat) : List Int := [(p.1 : Int), (p.2 : Int)]
theorem TLt.le {p q : Nat × Nat} (h : TLt p q) : leP p q = true := by
  unfold TLt at h; unfold leP
  exact decide_eq_true (by omega)
theorem tl_ext {xs ys : List (Nat × Nat)} (hx : xs.Pairwise TLt) (hy : ys.Pairwise TLt) (h : ∀ p, p ∈ xs ↔ p ∈ ys) : xs = ys := by
  have nd : ∀ {zs : List (Nat × Nat)}, zs.Pairwise TLt → zs.Nodup := fun hz => hz.imp fun {a b} q e => by
    subst e
    unfold TLt at q
    omega
  refine List.Perm.eq_of_pairwise (le := TLt) (fun a b _ _ h1 h2 => ?_) hx hy ((List.perm_ext_iff_of_nodup (nd hx) (nd hy)).mpr h)
  unfold TLt at h1 h2
  obtain ⟨a1, a2⟩ := a
  obtain ⟨b1, b2⟩ := b
  simp only at h1 h2
  omega
theorem sprP_up (ts : List (Nat × Nat)) : (sprP ts).Pairwise TLt := sorted_P _ (nub_nodup ts)
theorem mem_sprP {ts : List (Nat × Nat)} {p : Nat × Nat} : p ∈ sprP ts ↔ p ∈ ts := by
  unfold sprP
  rw [List.mem_mergeSort, mem_nub]
theorem sprP_ties {m : Nat} {ts : List (Nat × Nat)} (h : ∀ p ∈ ts, p.1 < p.2 ∧ p.2 < m) : Ties m (sprP ts) := ⟨sprP_up ts, fun p hp => h p (mem_sprP.mp hp)⟩
theorem ties_len {m : Nat} {ts : List (Nat × Nat)} (T : Ties m ts) : ts.length ≤ m * m := by
  have up : (ts.map fun p => p.1 * m + p.2).Pairwise (· < ·) := by
    rw [List.pairwise_map]
    refine List.Pairwise.imp_of_mem (fun {a b} ha hb q => ?_) T.up
    have h1 := T.lt a ha
    have h2 := T.lt b hb
    rcases q with q | ⟨q1, q2⟩
    · have : (a.1 + 1) * m ≤ b.1 * m := Nat.mul_le_mul_right m q
      rw [Nat.add_mul] at this
      omega
    · rw [q1]; omega
  have e : (ts.map fun p => p.1 * m + p.2) = (List.range (m * m)).filter (fun i => decide (i ∈ ts.map fun p => p.1 * m + p.2)) := up_ext up (List.Pairwise.filter _ List.pairwise_lt_range) fun i => by
    simp only [List.mem_filter, List.mem_range, decide_eq_true_eq]
    refine ⟨fun q => ⟨?_, q⟩, fun q => q.2⟩
    obtain ⟨p, hp, rfl⟩ := List.mem_map.mp q
    have h1 := T.lt p hp
    have : (p.1 + 1) * m ≤ m * m := Nat.mul_le_mul_right m (by omega)
    rw [Nat.add_mul] at this
    omega
  have h := congrArg List.length e
  rw [List.length_map] at h
  have := List.length_filter_le (fun i => decide (i ∈ ts.map fun p => p.1 * m + p.2)) (List.range (m * m))
  rw [List.length_range] at this
  omega
theorem b_and1 (a x : Nat) : Builtin.bitAnd (((a : Int)) / 2 ^ ((x : Int)).toNat) 1 = if a.testBit x = true then 1 else 0 := by
  have e : ((a : Int)) / 2 ^ ((x : Int)).toNat = ((a / 2 ^ x : Nat) : Int) := by rw [Int.toNat_natCast]; norm_cast
  rw [e, show (1 : Int) = ((1 : Nat) : Int) from rfl, b_and, Nat.and_one_is_mod, Nat.testBit_eq_decide_div_mod_eq]
  by_cases h : a / 2 ^ x % 2 = 1
  · simp [h]
  · have : a / 2 ^ x % 2 = 0 := by omega
    simp [this]

/-! odd things: what is no lot is told to be none -/
/-- values whose class can be asked -/
def vis : D → Bool
  | .ty _ => false
  | .cl _ => false
  | .scr _ => false
  | _ => true
def isIntB : D → Bool
  | .int _ => true
  | _ => false
def btwB (d : D) (l m : Int) : Bool := match d with
  | .int t => decide (l ≤ t) && decide (t ≤ m)
  | _ => false
def isTupB : D → Bool
  | .tup _ => true
  | _ => false
section
variable {G : GS} [HasF G 0 f0] [HasF G 1 f1] [HasF G 2 f2] [HasF G 3 f3] [HasF G 4 f4] [HasF G 5 f5] [HasF G 6 f6]
end
def intD : D → Int
  | .int i => i
  | _ => 0
def ascB (m : Nat) : Int → List D → Bool
  | _, [] => true
  | l, x :: r => btwB x (l + 1) ((m : Int) - 1) && ascB m (intD x) r
def lotB (m : Nat) (d : D) : Bool := match d with
  | .tup xs => ascB m (-1) xs
  | _ => false
/-- a thing all whose items can be asked, too -/
def visA (d : D) : Prop := vis d = true ∧ ∀ xs, d = .tup xs → xs.length < 1000000 ∧ ∀ x ∈ xs, vis x = true
section
variable {G : GS} [HasF G 0 f0] [HasF G 1 f1] [HasF G 2 f2] [HasF G 3 f3] [HasF G 4 f4] [HasF G 5 f5] [HasF G 6 f6]
end
def inB (m : Nat) (x : D) : Bool := match x with
  | .int i => decide (0 ≤ i) && decide (i < (m : Int))
  | _ => false
def adj : List Nat → Bool
  | a :: b :: r => decide (a < b) && adj (b :: r)
  | _ => true
theorem bools_map {α : Type} {g : α → Bool} : ∀ xs : List α, boolsOf (xs.map fun a => .bl (g a)) = some (xs.map g)
  | [] => rfl
  | x :: xs => by rw [List.map_cons, boolsOf, bools_map xs]; rfl
section
variable {G : GS} [HasF G 0 f0] [HasF G 1 f1] [HasF G 2 f2] [HasF G 3 f3] [HasF G 4 f4] [HasF G 5 f5] [HasF G 6 f6]
end
theorem slc_l {xs : List D} {l h : Option Int} : slcP (.lst xs) l h = some (.m (.lst (cutD xs l h))) := rfl
section
variable {G : GS}
end

/-! webs made of pairs; ties put and taken -/
def mmP (p : Nat × Nat) : Nat × Nat := (min p.1 p.2, max p.1 p.2)
section
variable {G : GS} [HasF G 0 f0] [HasF G 1 f1] [HasF G 2 f2] [HasF G 3 f3] [HasF G 4 f4] [HasF G 5 f5] [HasF G 6 f6] [HasF G 8 f8] [HasF G 9 f9]
/-- pairs in any order, as a list or a tuple -/
def Prs (ps : List (Nat × Nat)) (d : D) : Prop := d = .lst (ps.map P2) ∨ d = TS ps
def tiedL (m : Nat) (ts : List (Nat × Nat)) (p : Nat) : List Nat := (List.range m).filter fun o => (nearF ts p).testBit o
end
section
variable {G : GS} [HasF G 0 f0] [HasF G 1 f1] [HasF G 2 f2] [HasF G 3 f3] [HasF G 4 f4] [HasF G 5 f5] [HasF G 6 f6] [HasF G 8 f8] [HasF G 9 f9]
end

/-! what one call of a part does -/
section
variable {m : Nat} {ts : List (Nat × Nat)} {ns : List Nat}
theorem Ties.ne (h : Ties m ts) (i : Nat) : ¬ Tied ts i i := fun q => by
  rcases q with q | q <;> exact absurd (h.lt _ q).1 (Nat.lt_irrefl i)
theorem mem_behind {p i : Nat} : i ∈ behindF ts ns p ↔ if i = p then saysF ts ns p = true else i ∈ ns := by
  unfold behindF
  by_cases hs : saysF ts ns p = true
  · rw [if_pos hs, List.mem_mergeSort, List.mem_append, List.mem_filter, List.mem_singleton]
    by_cases e : i = p
    · simp [e, hs]
    · simp [e]
  · rw [if_neg hs, List.mem_filter]
    by_cases e : i = p
    · simp [e, hs]
    · simp [e]
theorem behind_up {p : Nat} (h : ns.Pairwise (· < ·)) : (behindF ts ns p).Pairwise (· < ·) := by
  unfold behindF
  split
  · have h1 := sorted_I (ns.filter (· ≠ p) ++ [p])
    have h2 : ((ns.filter (· ≠ p) ++ [p]).mergeSort fun a b => decide (a ≤ b)).Nodup := by
      refine (List.mergeSort_perm _ _).nodup_iff.mpr (List.nodup_append.mpr ⟨?_, by simp, ?_⟩)
      · exact List.Pairwise.filter _ (h.imp fun q => Nat.ne_of_lt q)
      · intro a ha b hb
        rw [List.mem_singleton.mp hb]
        have := (List.mem_filter.mp ha).2
        simpa using this
    exact (h1.and h2).imp fun q => Nat.lt_of_le_of_ne q.1 q.2
  · exact List.Pairwise.filter _ h
theorem behind_lt {p : Nat} (hn : ∀ x ∈ ns, x < m) (hp : p < m) : ∀ x ∈ behindF ts ns p, x < m := by
  intro x hx
  rw [mem_behind] at hx
  split at hx
  · omega
  · exact hn x hx
end

/-! rows of calls, rests -/
theorem bm_lotOf (b : Nat) : bm (lotOf b) = b := by
  apply Nat.eq_of_testBit_eq
  intro i
  rw [bm_bit]
  cases h : b.testBit i with
  | true => exact decide_eq_true (mem_lotOf.mpr h)
  | false => exact decide_eq_false fun q => by rw [mem_lotOf.mp q] at h; cases h
/-- the stand behind a row of calls -/
def rowF (ts : List (Nat × Nat)) (ns : List Nat) (ps : List Nat) : List Nat := ps.foldl (behindF ts) ns
theorem rowF_snoc {ts : List (Nat × Nat)} {ns ps : List Nat} {p : Nat} : rowF ts ns (ps ++ [p]) = behindF ts (rowF ts ns ps) p := by unfold rowF; rw [List.foldl_append]; rfl
theorem lot_len {m : Nat} {ns : List Nat} (hn : ns.Pairwise (· < ·)) (hl : ∀ x ∈ ns, x < m) : ns.length ≤ m := by
  have e : ns = (List.range m).filter (· ∈ ns) := up_ext hn (List.Pairwise.filter _ List.pairwise_lt_range) fun i => by
    simp only [List.mem_filter, List.mem_range, decide_eq_true_eq]
    exact ⟨fun q => ⟨hl i q, q⟩, fun q => q.2⟩
  rw [e]
  have := List.length_filter_le (· ∈ ns) (List.range m)
  rwa [List.length_range] at this
/-- whether no call changes the stand -/
def restF (m : Nat) (ts : List (Nat × Nat)) (ns : List Nat) : Bool := decide (∀ p, p < m → behindF ts ns p = ns)
theorem behind_same {ts : List (Nat × Nat)} {ns : List Nat} {p : Nat} (hn : ns.Pairwise (· < ·)) : behindF ts ns p = ns ↔ (saysF ts ns p = true ↔ p ∈ ns) := by
  constructor
  · intro e
    have := mem_behind (ts := ts) (ns := ns) (p := p) (i := p)
    rw [e, if_pos rfl] at this
    exact this.symm
  · intro h
    refine up_ext (behind_up hn) hn fun i => ?_
    rw [mem_behind]
    by_cases q : i = p
    · rw [if_pos q, q]; exact h
    · rw [if_neg q]
/-- whether a lot is free and no part can be put to it -/
def greatF (m : Nat) (ts : List (Nat × Nat)) (ns : List Nat) : Bool := !decide (0 < (ts.filter fun t => decide (t.1 ∈ ns) && decide (t.2 ∈ ns)).length) && decide (((List.range m).filter fun p => !decide (p ∈ ns) && saysF ts ns p).length = 0)
section
variable {G : GS} [HasF G 0 f0] [HasF G 1 f1] [HasF G 2 f2] [HasF G 3 f3] [HasF G 4 f4] [HasF G 5 f5] [HasF G 6 f6] [HasF G 8 f8] [HasF G 9 f9]
variable {n m : Nat} {ts : List (Nat × Nat)} {ns ps : List Nat} {w : M}
/-- a row, as a list or a tuple -/
def RowV (ps : List Nat) (r : D) : Prop := r = .lst (ps.map I) ∨ r = .tup (ps.map I)
end

/-! healing: parts of a rest fallen, webs filled up -/
/-- the parts of a stand tied to a part; the parts outside of it -/
def heldL (ts : List (Nat × Nat)) (ns : List Nat) (p : Nat) : List Nat := ns.filter fun q => decide (Tied ts p q)
def outL (m : Nat) (ns : List Nat) : List Nat := (List.range m).filter fun p => !decide (p ∈ ns)
theorem bm_put (ns : List Nat) (p : Nat) : bm ns ||| 2 ^ p = bm (ns ++ [p]) := by
  unfold bm; rw [List.foldl_append]; rfl
/-- the strength by the numbers of ties -/
def strD (xs : List Nat) : D := match xs.map (fun (x : Nat) => (x : Int)) with
  | [] => .non
  | n :: ns => .int (ns.foldl min n - 1)
def strongB (xs : List Nat) (k : Nat) : Bool := xs.all fun x => decide (k < x)
/-- the counts of the parts outside -/
def cntL (m : Nat) (ts : List (Nat × Nat)) (ns : List Nat) : List Nat := (outL m ns).map fun p => (heldL ts ns p).length
/-- the first part outside with so few ties or fewer -/
def weakF (m : Nat) (ts : List (Nat × Nat)) (ns : List Nat) (k : Nat) : Option Nat := (outL m ns).find? fun p => decide ((heldL ts ns p).length ≤ k)
def optD : Option Nat → D
  | none => .non
  | some p => I p
/-! ### filled up -/
def putF (ts : List (Nat × Nat)) (b p : Nat) : Nat := if (b ||| silF ts (lotOf b)).testBit p = true then b else b ||| 2 ^ p
def fillF (m : Nat) (ts : List (Nat × Nat)) (b : Nat) : Nat := (List.range m).foldl (putF ts) b
structure Fill (m : Nat) (ts : List (Nat × Nat)) (b : Nat) (ds : List Nat) (g : Nat) : Prop where
  sub : ∀ i, b.testBit i = true → g.testBit i = true
  lt : ∀ i, g.testBit i = true → i < m
  free : ∀ i j, g.testBit i = true → g.testBit j = true → ¬ Tied ts i j
  full : ∀ p ∈ ds, g.testBit p = true ∨ ∃ q, g.testBit q = true ∧ Tied ts q p
/-- what harm tells: the parts that fall, and the row -/
def fallenL (ts : List (Nat × Nat)) (ns : List Nat) (p : Nat) : List Nat := heldL ts ns p
def standL (ts : List (Nat × Nat)) (ns : List Nat) (p : Nat) : List Nat := ns.filter fun q => !decide (q ∈ heldL ts ns p)
def goalF (m : Nat) (ts : List (Nat × Nat)) (ns : List Nat) (p : Nat) : Nat := fillF m ts (bm (standL ts ns p) ||| 2 ^ p)
def harmRow (m : Nat) (ts : List (Nat × Nat)) (ns : List Nat) (p : Nat) : List Nat := p :: lotOf (andN (andN (goalF m ts ns p) (bm (standL ts ns p))) (2 ^ p))
/-! healing: the program's walks -/
theorem bm_lt {m : Nat} {ns : List Nat} (hl : ∀ x ∈ ns, x < m) : ∀ i, (bm ns).testBit i = true → i < m := fun i hi => hl i (by rw [bm_bit] at hi; simpa using hi)
section
variable {G : GS} [HasF G 8 f8] [HasF G 9 f9] [HasF G 0 f0] [HasF G 1 f1] [HasF G 2 f2] [HasF G 3 f3] [HasF G 4 f4] [HasF G 5 f5] [HasF G 6 f6] [HasF G 56 f56]
variable {n m : Nat} {ts : List (Nat × Nat)} {ns : List Nat} {w : M}
def harmD (m : Nat) (ts : List (Nat × Nat)) (ns : List Nat) : Option Nat → D
  | none => .non
  | some p => .tup [L (heldL ts ns p), L (harmRow m ts ns p)]
end

/-! the healing laws' own base: webs drawn, parts called, rests -/
/-- ties so far: rows done, and of the row at hand the columns done -/
structure TGood (m : Nat) (ps : List (Nat × Nat)) (i j : Nat) : Prop where
  up : ps.Pairwise TLt
  lt : ∀ p ∈ ps, p.1 < p.2 ∧ p.2 < m ∧ (p.1 < i ∨ (p.1 = i ∧ p.2 < j))
theorem TGood.step {m : Nat} {ps ps' : List (Nat × Nat)} {i j : Nat} (g : TGood m ps i j) (hi : i < j) (hj : j < m) (h : ps' = ps ∨ ps' = ps ++ [(i, j)]) : TGood m ps' i (j + 1) := by
  rcases h with rfl | rfl
  · exact ⟨g.up, fun p hp => ⟨(g.lt p hp).1, (g.lt p hp).2.1, by have := (g.lt p hp).2.2; omega⟩⟩
  · refine ⟨List.pairwise_append.mpr ⟨g.up, List.pairwise_singleton _ _, fun a ha b hb => ?_⟩, fun p hp => ?_⟩
    · rw [List.mem_singleton.mp hb]
      have := (g.lt a ha).2.2
      show a.1 < i ∨ (a.1 = i ∧ a.2 < j)
      omega
    · rcases List.mem_append.mp hp with z | z
      · exact ⟨(g.lt p z).1, (g.lt p z).2.1, by have := (g.lt p z).2.2; omega⟩
      · rw [List.mem_singleton.mp z]
        exact ⟨hi, hj, .inr ⟨rfl, by show j < j + 1; omega⟩⟩
theorem TGood.next {m : Nat} {ps : List (Nat × Nat)} {i : Nat} (g : TGood m ps i m) : TGood m ps (i + 1) (i + 2) := ⟨g.up, fun p hp => ⟨(g.lt p hp).1, (g.lt p hp).2.1, by have := (g.lt p hp).2.2; omega⟩⟩
theorem TGood.ties {m : Nat} {ps : List (Nat × Nat)} {i j : Nat} (g : TGood m ps i j) : Ties m ps := ⟨g.up, fun p hp => ⟨(g.lt p hp).1, (g.lt p hp).2.1⟩⟩
theorem TGood.len {m : Nat} {ps : List (Nat × Nat)} {i j : Nat} (g : TGood m ps i j) : ps.length ≤ m * m := ties_len g.ties
section
variable {G : GS}
abbrev WT (m : Nat) (ts : List (Nat × Nat)) : D := .tup [I m, TS ts]
variable {n m : Nat} {ts : List (Nat × Nat)} {ns : List Nat}
theorem all_rng {m : Nat} {P : Nat → Prop} [∀ k, Decidable (P k)] : ((List.range m).map fun k => decide (P k)).all id = decide (∀ k, k < m → P k) := by
  rw [Bool.eq_iff_iff, decide_eq_true_eq, List.all_map, List.all_eq_true]
  simp only [List.mem_range, Function.comp, id, decide_eq_true_eq]
/-- a rest, parts put in one by one -/
structure SomeR (m : Nat) (ts : List (Nat × Nat)) (left fs : List Nat) : Prop where
  up : fs.Pairwise (· < ·)
  lt : ∀ x ∈ fs, x < m
  ll : ∀ x ∈ left, x < m
  nd : left.Nodup
  no : ∀ x ∈ left, x ∉ fs
  free : ∀ a ∈ fs, ∀ b ∈ fs, ¬ Tied ts a b
  all : ∀ p, p < m → p ∈ left ∨ p ∈ fs ∨ ∃ q ∈ fs, Tied ts p q
theorem SomeR.rest {fs : List Nat} (R : SomeR m ts [] fs) : restF m ts fs = true := by
  unfold restF
  refine decide_eq_true fun p hp => (behind_same R.up).mpr ?_
  unfold saysF
  rw [decide_eq_true_eq]
  constructor
  · intro h
    rcases R.all p hp with z | z | ⟨q, h1, h2⟩
    · cases z
    · exact z
    · exact absurd h2 (h q h1)
  · intro h q hq
    exact R.free p h q hq
theorem mem_ins {fs : List Nat} {p x : Nat} : x ∈ (fs ++ [p]).mergeSort (fun a b => decide (a ≤ b)) ↔ x ∈ fs ∨ x = p := by
  rw [(List.mergeSort_perm _ _).mem_iff, List.mem_append, List.mem_singleton]
theorem SomeR.step {left fs : List Nat} {i p : Nat} (T : Ties m ts) (R : SomeR m ts left fs) (hi : left[i]? = some p) :
    (saysF ts fs p = true → SomeR m ts (left.eraseIdx i) ((fs ++ [p]).mergeSort fun a b => decide (a ≤ b))) ∧ (saysF ts fs p = false → SomeR m ts (left.eraseIdx i) fs) := by
  obtain ⟨hil, hip⟩ := List.getElem?_eq_some_iff.mp hi
  have hpl : p ∈ left := List.mem_of_getElem? hi
  have sub : ∀ x ∈ left.eraseIdx i, x ∈ left ∧ x ≠ p := fun x hx => by
    refine ⟨List.mem_of_mem_eraseIdx hx, fun e => ?_⟩
    subst e
    have pp := pop_perm hil
    rw [hip] at pp
    have := (pp.nodup_iff).mpr R.nd
    exact (List.nodup_cons.mp this).1 hx
  have kept : ∀ x ∈ left, x = p ∨ x ∈ left.eraseIdx i := fun x hx => by
    have pp := pop_perm hil
    rw [hip] at pp
    have := (pp.mem_iff).mpr hx
    simpa using this
  have nd' : (left.eraseIdx i).Nodup := R.nd.sublist (List.eraseIdx_sublist _ _)
  constructor
  · intro hs
    have hs' : ∀ q ∈ fs, ¬ Tied ts p q := of_decide_eq_true hs
    refine ⟨?_, fun x hx => ?_, fun x hx => R.ll x (sub x hx).1, nd', fun x hx h => ?_, fun a ha b hb ht => ?_, fun q hq => ?_⟩
    · have h1 := sorted_I (fs ++ [p])
      have h2 : ((fs ++ [p]).mergeSort fun a b => decide (a ≤ b)).Nodup := (List.mergeSort_perm _ _).nodup_iff.mpr (List.nodup_append.mpr ⟨R.up.imp (fun {a b} h => by omega), List.Pairwise.cons (fun _ h => nomatch h) .nil, fun a ha b hb e => by
        rw [List.mem_singleton.mp hb] at e
        rw [e] at ha
        exact R.no p hpl ha⟩)
      exact List.Pairwise.imp₂ (fun a b h1 h2 => by omega) h1 h2
    · rcases mem_ins.mp hx with z | z
      · exact R.lt x z
      · rw [z]; exact R.ll p hpl
    · rcases mem_ins.mp h with z | z
      · exact R.no x (sub x hx).1 z
      · exact (sub x hx).2 z
    · rcases mem_ins.mp ha with z | z <;> rcases mem_ins.mp hb with y | y
      · exact R.free a z b y ht
      · rw [y] at ht; exact hs' a z ht.symm
      · rw [z] at ht; exact hs' b y ht
      · rw [z, y] at ht; exact T.ne p ht
    · rcases R.all q hq with z | z | ⟨r, h1, h2⟩
      · rcases kept q z with y | y
        · exact .inr (.inl (mem_ins.mpr (.inr y)))
        · exact .inl y
      · exact .inr (.inl (mem_ins.mpr (.inl z)))
      · exact .inr (.inr ⟨r, mem_ins.mpr (.inl h1), h2⟩)
  · intro hs
    refine ⟨R.up, R.lt, fun x hx => R.ll x (sub x hx).1, nd', fun x hx => R.no x (sub x hx).1, R.free, fun q hq => ?_⟩
    rcases R.all q hq with z | z | z
    · rcases kept q z with y | y
      · have : ¬ (∀ r ∈ fs, ¬ Tied ts p r) := of_decide_eq_false hs
        rw [y]
        refine .inr (.inr ?_)
        exact Classical.byContradiction fun n => this fun r hr ht => n ⟨r, hr, ht⟩
      · exact .inl y
    · exact .inr (.inl z)
    · exact .inr (.inr z)
end

/-! harms judged: by the program, by the law -/
theorem lc_purD {G : GS} {cl : Caller} {e : CE} {own : List Nat} {g : D → T → Option T} {Q : List D → T → Prop} {xs : List D} (r : D → D) {τ : T} (hl : xs.length < SL)
    (h1 : ∀ x ∈ xs, WO (g x τ) fun τ1 => wpE G cl false e τ1 fun r' τ' => WO (esc false τ' r') fun u => u.1 = r x ∧ WO (hideO own u.2) fun τ4 => τ4 = τ)
    (h2 : Q (xs.map r) τ) : WLc g (TT G cl .yes) (EL G cl e) own xs [] τ Q := by
  have := lc_pur (f := id) (ns := xs) (g := g) (e := e) (own := own) (Q := Q) r hl h1 h2
  rwa [List.map_id] at this
def pairB : D → Bool
  | .tup [_, _] => true
  | _ => false
def rowB (m : Nat) : D → Bool
  | .lst xs => xs.all (inB m)
  | .tup xs => xs.all (inB m)
  | _ => false
/-- a thing that is asked whether it is a row -/
def visR (d : D) : Prop := vis d = true ∧ ∀ xs, (d = .lst xs ∨ d = .tup xs) → xs.length ≤ 1000 ∧ ∀ x ∈ xs, vis x = true
def ntsOf : D → List Nat
  | .lst xs => xs.map fun x => (intD x).toNat
  | .tup xs => xs.map fun x => (intD x).toNat
  | _ => []
def isSeqB : D → Bool
  | .lst _ => true
  | .tup _ => true
  | _ => false
/-- what is told of a thing: whether it is a harm -/
def harmB (m : Nat) (ts : List (Nat × Nat)) (ns : List Nat) (k : Nat) : D → Bool
  | .tup [a, r] => lotB m a && decide ((ntsOf a).length ≤ k) && ((ntsOf a).all fun x => decide (x ∈ ns)) && rowB m r && (!decide (rowF ts (ns.filter fun q => !decide (q ∈ ntsOf a)) (ntsOf r) = ns) && restF m ts (rowF ts (ns.filter fun q => !decide (q ∈ ntsOf a)) (ntsOf r)))
  | _ => false
/-- things handed in as harms -/
def visH (d : D) : Prop := vis d = true ∧ ∀ a r, d = .tup [a, r] → visA a ∧ (∀ xs, a = .tup xs → xs.length < 4000) ∧ visR r
section
variable {G : GS} [HasF G 8 f8] [HasF G 9 f9] [HasF G 0 f0] [HasF G 1 f1] [HasF G 2 f2] [HasF G 3 f3] [HasF G 4 f4] [HasF G 5 f5] [HasF G 6 f6] [HasF G 56 f56]
variable {n m : Nat} {ts : List (Nat × Nat)} {ns ps : List Nat} {w : M}
end
/-- the numbers without repetition, ascending -/
def sprI (ns : List Nat) : List Nat := (nub ns).mergeSort fun a b => decide (a ≤ b)
section
variable {G : GS}
variable {n m : Nat} {ts : List (Nat × Nat)} {ns : List Nat}
end

/-! a thing is equal to itself; lots as data -/
mutual
theorem eqv_self : ∀ p : PyData, p.canLay0 = true → PyData.eqv p p = true
  | .none, _ => by simp [PyData.eqv]
  | .bool b, _ => by simp [PyData.eqv]
  | .int i, _ => by simp [PyData.eqv]
  | .str x, _ => by simp [PyData.eqv]
  | .list xs, h => by
    simp only [PyData.eqv]
    exact eqv_selfs xs (by simpa only [PyData.canLay0] using h)
  | .tuple xs, h => by
    simp only [PyData.eqv]
    exact eqv_selfs xs (by simpa only [PyData.canLay0] using h)
  | .dict _, h => by simp [PyData.canLay0] at h
theorem eqv_selfs : ∀ ps : List PyData, PyData.canLayAll0 ps = true → PyData.eqvAll ps ps = true
  | [], _ => by simp [PyData.eqvAll]
  | p :: ps, h => by
    simp only [PyData.canLayAll0, Bool.and_eq_true] at h
    simp only [PyData.eqvAll, Bool.and_eq_true]
    exact ⟨eqv_self p h.1, eqv_selfs ps h.2⟩
end
theorem eqD_self {d : D} {p : PyData} (h : toPy d = some p) (hs : SeqAt.shaped p = true) : eqD d d = some true := by
  unfold eqD
  rw [h]
  simp only
  rw [hs, Bool.and_self, if_pos rfl]
  congr 1
  exact eqv_self p (SeqAt.canLay_of_shaped hs)
abbrev gL (ns : List Nat) : PyData := .tuple (ns.map gI)
theorem toPy_L (ns : List Nat) : toPy (L ns) = some (gL ns) := by simp only [toPy, toPys_map toPy_I, Option.map_some]
theorem lL (ns : List Nat) : (gL ns).canLay0 = true := by simp only [PyData.canLay0]; exact lay_map lI ns
theorem dL (ns : List Nat) : (gL ns).depth ≤ 9 := by
  have := depth_map (n := 8) dI ns
  simp only [PyData.depth]; omega
theorem lots_selfL {xss : List (List Nat)} : eqD (.lst (xss.map L)) (.lst (xss.map L)) = some true := by
  refine eqD_self (p := .list (xss.map gL)) (by simp only [toPy, toPys_map toPy_L, Option.map_some]) (shp_lst (lay_map lL xss) ?_)
  have := depth_map (n := 9) dL xss
  omega
/-! lots in order; all lots of so many numbers -/
/-- the order of lots -/
def leL (a b : List Nat) : Bool := decide (a.map (fun (c : Nat) => (c : Int)) ≤ b.map (fun (c : Nat) => (c : Int)))
theorem gL_ints (ns : List Nat) : gL ns = .tuple ((ns.map fun (c : Nat) => (c : Int)).map .int) := by rw [List.map_map]; rfl
theorem dL2 (ns : List Nat) : (gL ns).depth ≤ 8 := by
  have := depth_ints (ns.map fun (c : Nat) => (c : Int))
  rw [gL_ints, PyData.depth]; omega
theorem lexI_L (a b : List Nat) : lexI (L a) (L b) = leL a b := by
  have h := congrFun (congrFun (dataLe_tups (β := List Nat) fun ns => ns.map fun (c : Nat) => (c : Int)) a) b
  unfold lexI leL
  rw [← h]
  unfold W.dataLe W.sortLe
  simp only [toPy_L, Option.getD_some, gL_ints]
theorem alike_L (a b : List Nat) : W.alike (gL a) (gL b) = true := by
  rw [gL_ints, gL_ints, W.alike]; exact alike_ints _ _
theorem sort_L {xss : List (List Nat)} (hs : xss.length ≤ SL) : sortD (xss.map L) = some ((xss.mergeSort leL).map L) :=
  sort_map toPy_L lexI_L alike_L (.inl fun _ => rfl) dL2 hs
theorem leL_tr (a b c : List Nat) (h1 : leL a b = true) (h2 : leL b c = true) : leL a c = true := by
  unfold leL at *
  exact decide_eq_true (Std.le_trans (of_decide_eq_true h1) (of_decide_eq_true h2))
theorem leL_tot (a b : List Nat) : (leL a b || leL b a) = true := by
  unfold leL
  rcases Std.le_total (a := a.map fun (c : Nat) => (c : Int)) (b := b.map fun (c : Nat) => (c : Int)) with h | h
  · rw [decide_eq_true h]; rfl
  · rw [decide_eq_true h, Bool.or_true]
theorem cast_inj {a b : List Nat} (h : a.map (fun (c : Nat) => (c : Int)) = b.map fun (c : Nat) => (c : Int)) : a = b := by
  have : ∀ ns : List Nat, (ns.map fun (c : Nat) => (c : Int)).map Int.toNat = ns := fun ns => by
    rw [List.map_map]
    conv => rhs; rw [← List.map_id ns]
    exact List.map_congr_left fun x _ => Int.toNat_natCast x
  rw [← this a, h, this b]
theorem leL_anti (a b : List Nat) (h1 : leL a b = true) (h2 : leL b a = true) : a = b := by
  unfold leL at *
  exact cast_inj (Std.le_antisymm (of_decide_eq_true h1) (of_decide_eq_true h2))
/-- lists of lots without repetition, sorted, are told by what is in them -/
theorem lots_ext {xss yss : List (List Nat)} (hx : xss.Nodup) (hy : yss.Nodup) (h : ∀ ns, ns ∈ xss ↔ ns ∈ yss) : xss.mergeSort leL = yss.mergeSort leL := by
  have sx := List.pairwise_mergeSort (le := leL) leL_tr leL_tot xss
  have sy := List.pairwise_mergeSort (le := leL) leL_tr leL_tot yss
  have pm : (xss.mergeSort leL).Perm (yss.mergeSort leL) := (List.mergeSort_perm _ _).trans (((List.perm_ext_iff_of_nodup hx hy).mpr h).trans (List.mergeSort_perm _ _).symm)
  exact List.Perm.eq_of_pairwise (fun a b _ _ h1 h2 => leL_anti a b h1 h2) sx sy pm
/-- all lots of the numbers below one -/
def lotsU : Nat → List (List Nat)
  | 0 => [[]]
  | m + 1 => lotsU m ++ (lotsU m).map (· ++ [m])
theorem mem_lotsU : ∀ {m : Nat} {ns : List Nat}, ns ∈ lotsU m ↔ ns.Pairwise (· < ·) ∧ ∀ x ∈ ns, x < m
  | 0, ns => by
    simp only [lotsU, List.mem_singleton]
    constructor
    · rintro rfl; exact ⟨.nil, fun _ h => nomatch h⟩
    · rintro ⟨-, h⟩
      cases ns with
      | nil => rfl
      | cons a as => exact absurd (h a (by simp)) (by omega)
  | m + 1, ns => by
    simp only [lotsU, List.mem_append, List.mem_map]
    constructor
    · rintro (h | ⟨ms, h, rfl⟩)
      · obtain ⟨h1, h2⟩ := mem_lotsU.mp h
        exact ⟨h1, fun x hx => by have := h2 x hx; omega⟩
      · obtain ⟨h1, h2⟩ := mem_lotsU.mp h
        refine ⟨List.pairwise_append.mpr ⟨h1, List.pairwise_singleton _ _, fun a ha b hb => ?_⟩, fun x hx => ?_⟩
        · rw [List.mem_singleton.mp hb]; exact h2 a ha
        · rcases List.mem_append.mp hx with z | z
          · have := h2 x z; omega
          · rw [List.mem_singleton.mp z]; omega
    · rintro ⟨h1, h2⟩
      by_cases hm : m ∈ ns
      · right
        refine ⟨ns.filter (· ≠ m), mem_lotsU.mpr ⟨h1.filter _, fun x hx => ?_⟩, ?_⟩
        · have hx' := List.mem_filter.mp hx
          have := h2 x hx'.1
          have : x ≠ m := by simpa using hx'.2
          omega
        · refine up_ext ?_ h1 fun i => ?_
          · refine List.pairwise_append.mpr ⟨h1.filter _, List.pairwise_singleton _ _, fun a ha b hb => ?_⟩
            rw [List.mem_singleton.mp hb]
            have ha' := List.mem_filter.mp ha
            have := h2 a ha'.1
            have : a ≠ m := by simpa using ha'.2
            omega
          · rw [List.mem_append, List.mem_filter, List.mem_singleton]
            constructor
            · rintro (z | z)
              · exact z.1
              · rw [z]; exact hm
            · intro z
              by_cases e : i = m
              · exact .inr e
              · exact .inl ⟨z, by simpa using e⟩
      · left
        exact mem_lotsU.mpr ⟨h1, fun x hx => by
          have := h2 x hx
          have : x ≠ m := fun e => hm (e ▸ hx)
          omega⟩
theorem lotsU_len : ∀ m : Nat, (lotsU m).length = 2 ^ m
  | 0 => rfl
  | m + 1 => by rw [lotsU, List.length_append, List.length_map, lotsU_len m, Nat.pow_succ]; omega
theorem lotsU_nodup : ∀ m : Nat, (lotsU m).Nodup
  | 0 => by simp [lotsU]
  | m + 1 => by
    rw [lotsU]
    refine List.nodup_append.mpr ⟨lotsU_nodup m, ?_, fun a ha b hb e => ?_⟩
    · refine List.Pairwise.map _ (fun a b h e => h ?_) (lotsU_nodup m)
      exact List.append_cancel_right e
    · subst e
      obtain ⟨c, hc, rfl⟩ := List.mem_map.mp hb
      have := (mem_lotsU.mp ha).2 m (by simp)
      omega
/-- the rests, ascending -/
def restsL (m : Nat) (ts : List (Nat × Nat)) : List (List Nat) := ((lotsU m).mergeSort leL).filter (restF m ts)
theorem mem_restsL {m : Nat} {ts : List (Nat × Nat)} {ns : List Nat} : ns ∈ restsL m ts ↔ (ns.Pairwise (· < ·) ∧ ∀ x ∈ ns, x < m) ∧ restF m ts ns = true := by
  unfold restsL
  rw [List.mem_filter, (List.mergeSort_perm _ _).mem_iff, mem_lotsU]
theorem restsL_up {m : Nat} {ts : List (Nat × Nat)} : (restsL m ts).Pairwise fun a b => leL a b = true := (List.pairwise_mergeSort (le := leL) leL_tr leL_tot _).filter _
theorem restsL_nodup {m : Nat} {ts : List (Nat × Nat)} : (restsL m ts).Nodup := ((List.mergeSort_perm _ _).nodup_iff.mpr (lotsU_nodup m)).filter _
section
variable {G : GS} [HasF G 77 f77]
variable {n m : Nat} {ts : List (Nat × Nat)} {ns : List Nat}
theorem pow_12 (hm : m ≤ 12) : 2 ^ m ≤ 4096 := Nat.pow_le_pow_right (n := 2) (by decide) hm
theorem h_lots (hm : m ≤ 12) : callN G (n + 1) 77 [.v (I m)] = some (.lst (((lotsU m).mergeSort leL).map L), [.v (I m)]) := by
  have hp := pow_12 hm
  have hlm := lotsU_len m
  refine wc_eq (call_wp ⟨rfl, by decide⟩ ?_)
  simp? only [f77, b77_0]
  refine ⟨by decide, by decide, ?_⟩
  simp? only [b77_1]
  refine ⟨rng_ok (by omega) (by omega) (by omega) (by omega), ?_⟩
  refine for_rng (fun k τ => ∃ l3, τ = [some (.v (I m)), none, some (.lst ((lotsU k).map L)), l3]) ⟨none, rfl⟩ ?_ ?_
  · rintro k τ hk ⟨l3, rfl⟩
    have hpk := pow_12 (show k + 1 ≤ 12 by omega)
    have hlk := lotsU_len k
    rw [Nat.pow_succ] at hpk
    simp? only [b77_2]
    refine lc_pur (fun ns => L (ns ++ [k])) (by show _ < 16777216; omega) (fun ns hns => ?_) ?_
    · have hn := lot_len (mem_lotsU.mp hns).1 (mem_lotsU.mp hns).2
      simp? only [List.length_map]
      refine ⟨by decide, by show _ + 1 ≤ 16777216; omega, ?_⟩
      show D.tup _ = D.tup ((ns ++ [k]).map I)
      rw [List.map_append]
      rfl
    · simp? only [List.length_map]
      refine ⟨by show _ ≤ 16777216; omega, some (.v (I k)), ?_⟩
      rw [lotsU, List.map_append, List.map_map]
      rfl
  · rintro τ ⟨l3, rfl⟩
    simp? only [b77_3, sort_L (xss := lotsU m) (by show _ ≤ 16777216; omega)]
end
/-! stands as keys of dicts; all stands that calls lead to -/
def kL (ns : List Nat) : List L2.Key := ns.map fun (x : Nat) => Sum.inl (x : Int)
theorem nodup_len {α : Type} [DecidableEq α] : ∀ {xs ys : List α}, xs.Nodup → (∀ x ∈ xs, x ∈ ys) → xs.length ≤ ys.length
  | [], _, _, _ => Nat.zero_le _
  | x :: xs, ys, h, s => by
    have hx : x ∈ ys := s x (by simp)
    have h1 := List.nodup_cons.mp h
    have := nodup_len (xs := xs) (ys := ys.erase x) h1.2 fun y hy => by
      have ne : y ≠ x := fun e => h1.1 (e ▸ hy)
      exact (List.mem_erase_of_ne ne).mpr (s y (by simp [hy]))
    rw [List.length_erase_of_mem hx] at this
    have := List.length_pos_of_mem hx
    rw [List.length_cons]; omega
/-- a stand is come to -/
def Rch (m : Nat) (ts : List (Nat × Nat)) (s t : List Nat) : Prop := ∃ ps : List Nat, (∀ p ∈ ps, p < m) ∧ rowF ts s ps = t
theorem Rch.refl {m : Nat} {ts : List (Nat × Nat)} {s : List Nat} : Rch m ts s s := ⟨[], fun _ h => (nomatch h), rfl⟩
theorem Rch.step {m : Nat} {ts : List (Nat × Nat)} {s t : List Nat} {p : Nat} (h : Rch m ts s t) (hp : p < m) : Rch m ts s (behindF ts t p) := by
  obtain ⟨ps, h1, rfl⟩ := h
  refine ⟨ps ++ [p], fun q hq => ?_, rowF_snoc⟩
  rcases List.mem_append.mp hq with z | z
  · exact h1 q z
  · rw [List.mem_singleton.mp z]; exact hp
theorem Rch.inv {m : Nat} {ts : List (Nat × Nat)} {P : List Nat → Prop} {s t : List Nat} (h0 : P s) (hs : ∀ x p, P x → p < m → P (behindF ts x p)) (h : Rch m ts s t) : P t := by
  obtain ⟨ps, h1, rfl⟩ := h
  induction ps generalizing s with
  | nil => exact h0
  | cons p ps ih => exact ih (hs s p h0 (h1 p (by simp))) fun q hq => h1 q (by simp [hq])
structure Bfs (m : Nat) (ts : List (Nat × Nat)) (s : List Nat) (K W : List (List Nat)) (h : List Nat) (k : Nat) : Prop where
  nd : K.Nodup
  sub : ∀ x ∈ W, x ∈ K
  ok : ∀ x ∈ K, (x.Pairwise (· < ·) ∧ ∀ i ∈ x, i < m) ∧ Rch m ts s x
  s0 : s ∈ K
  cl : ∀ x ∈ K, x ∈ W ∨ (∀ p, p < m → behindF ts x p ∈ K) ∨ (x = h ∧ ∀ p, p < k → behindF ts x p ∈ K)
  hK : k < m → h ∈ K
section
variable {m k : Nat} {ts : List (Nat × Nat)} {s h : List Nat} {K W : List (List Nat)}
theorem Bfs.begin (h1 : s.Pairwise (· < ·)) (h2 : ∀ i ∈ s, i < m) : Bfs m ts s [s] [s] s m :=
  ⟨by simp, fun x hx => hx, fun x hx => by rw [List.mem_singleton.mp hx]; exact ⟨⟨h1, h2⟩, .refl⟩, by simp, fun x hx => .inl hx, fun h => absurd h (by omega)⟩
theorem Bfs.len (B : Bfs m ts s K W h k) : K.length ≤ 2 ^ m := by
  rw [← lotsU_len m]
  exact nodup_len B.nd fun x hx => mem_lotsU.mpr (B.ok x hx).1
theorem Bfs.pop {W' : List (List Nat)} {g : List Nat} (B : Bfs m ts s K (W' ++ [g]) h m) : Bfs m ts s K W' g 0 := by
  refine ⟨B.nd, fun x hx => B.sub x (by simp [hx]), B.ok, B.s0, fun x hx => ?_, fun _ => B.sub g (by simp)⟩
  rcases B.cl x hx with z | z | z
  · rcases List.mem_append.mp z with y | y
    · exact .inl y
    · exact .inr (.inr ⟨List.mem_singleton.mp y, fun p hp => absurd hp (by omega)⟩)
  · exact .inr (.inl z)
  · exact .inr (.inl z.2)
theorem Bfs.old (B : Bfs m ts s K W h k) (hin : behindF ts h k ∈ K) : Bfs m ts s K W h (k + 1) := by
  refine ⟨B.nd, B.sub, B.ok, B.s0, fun x hx => ?_, fun q => B.hK (by omega)⟩
  rcases B.cl x hx with z | z | ⟨rfl, z⟩
  · exact .inl z
  · exact .inr (.inl z)
  · refine .inr (.inr ⟨rfl, fun p hp => ?_⟩)
    by_cases e : p = k
    · rw [e]; exact hin
    · exact z p (by omega)
theorem Bfs.new (B : Bfs m ts s K W h k) (hk : k < m) (hno : behindF ts h k ∉ K) : Bfs m ts s (K ++ [behindF ts h k]) (W ++ [behindF ts h k]) h (k + 1) := by
  have hh := B.ok h (B.hK hk)
  have nin : ∀ x ∈ K, x ∈ K ++ [behindF ts h k] := fun x hx => List.mem_append_left _ hx
  refine ⟨List.nodup_append.mpr ⟨B.nd, by simp, fun a ha b hb e => hno (by rw [List.mem_singleton.mp hb] at e; exact e ▸ ha)⟩, fun x hx => ?_, fun x hx => ?_, nin _ B.s0, fun x hx => ?_, fun q => nin _ (B.hK hk)⟩
  · rcases List.mem_append.mp hx with z | z
    · exact nin x (B.sub x z)
    · exact List.mem_append_right _ z
  · rcases List.mem_append.mp hx with z | z
    · exact B.ok x z
    · rw [List.mem_singleton.mp z]
      exact ⟨⟨behind_up hh.1.1, behind_lt hh.1.2 hk⟩, hh.2.step hk⟩
  · rcases List.mem_append.mp hx with z | z
    · rcases B.cl x z with y | y | ⟨rfl, y⟩
      · exact .inl (List.mem_append_left _ y)
      · exact .inr (.inl fun p hp => nin _ (y p hp))
      · refine .inr (.inr ⟨rfl, fun p hp => ?_⟩)
        by_cases e : p = k
        · rw [e]; exact List.mem_append_right _ (by simp)
        · exact nin _ (y p (by omega))
    · exact .inl (List.mem_append_right _ z)
theorem Bfs.done (B : Bfs m ts s K [] h m) {t : List Nat} : t ∈ K ↔ Rch m ts s t := by
  have cl : ∀ x ∈ K, ∀ p, p < m → behindF ts x p ∈ K := fun x hx p hp => by
    rcases B.cl x hx with z | z | z
    · cases z
    · exact z p hp
    · exact z.2 p hp
  exact ⟨fun q => (B.ok t q).2, fun q => Rch.inv (P := fun x => x ∈ K) B.s0 (fun x p hx hp => cl x hx p hp) q⟩
open Classical in
/-- the rests to which calls lead, ascending -/
noncomputable def endsL (m : Nat) (ts : List (Nat × Nat)) (s : List Nat) : List (List Nat) := (restsL m ts).filter fun r => decide (Rch m ts s r)
open Classical in
theorem mem_endsL {r : List Nat} : r ∈ endsL m ts s ↔ r ∈ restsL m ts ∧ Rch m ts s r := by
  unfold endsL
  rw [List.mem_filter, decide_eq_true_eq]
theorem Bfs.ends (B : Bfs m ts s K [] h m) : (K.filter (restF m ts)).mergeSort leL = endsL m ts s := by
  have e1 : (endsL m ts s).mergeSort leL = endsL m ts s := List.mergeSort_of_pairwise (restsL_up.filter _)
  rw [← e1]
  refine lots_ext (B.nd.filter _) (restsL_nodup.filter _) fun ns => ?_
  rw [List.mem_filter, mem_endsL, mem_restsL, B.done]
  constructor
  · rintro ⟨h1, h2⟩
    exact ⟨⟨(B.ok ns (B.done.mpr h1)).1, h2⟩, h1⟩
  · rintro ⟨⟨_, h2⟩, h1⟩
    exact ⟨h1, h2⟩
end
section
variable {G : GS} [HasF G 77 f77]
variable {n m : Nat} {ts : List (Nat × Nat)} {ns : List Nat}
end

/-! pieces: parts that hang together -/
/-- come to by ties among some parts -/
inductive Conn (ts : List (Nat × Nat)) (B : Nat) : Nat → Nat → Prop where
  | refl (p : Nat) : Conn ts B p p
  | step {p q r : Nat} : Conn ts B p q → Tied ts q r → B.testBit r = true → Conn ts B p r
theorem Conn.trans {ts : List (Nat × Nat)} {B p q r : Nat} (h1 : Conn ts B p q) (h2 : Conn ts B q r) : Conn ts B p r := by
  induction h2 with
  | refl => exact h1
  | step _ t b ih => exact .step ih t b
theorem Conn.inB {ts : List (Nat × Nat)} {B p q : Nat} (hp : B.testBit p = true) (h : Conn ts B p q) : B.testBit q = true := by
  cases h with
  | refl => exact hp
  | step _ _ b => exact b
theorem Conn.symm {ts : List (Nat × Nat)} {B p q : Nat} (hp : B.testBit p = true) (h : Conn ts B p q) : Conn ts B q p := by
  induction h with
  | refl => exact .refl _
  | step h1 t b ih => exact (Conn.step (.refl _) t.symm (h1.inB hp)).trans ih
theorem Conn.sub {ts : List (Nat × Nat)} {B C p q : Nat} (h : Conn ts C p q) (hs : ∀ i, C.testBit i = true → B.testBit i = true) : Conn ts B p q := by
  induction h with
  | refl => exact .refl _
  | step _ t b ih => exact .step ih t (hs _ b)
open Classical in
/-- the piece with a part -/
noncomputable def pieceF (m : Nat) (ts : List (Nat × Nat)) (B p : Nat) : Nat := bm ((List.range m).filter fun q => decide (Conn ts B p q))
open Classical in
theorem piece_bit {m : Nat} {ts : List (Nat × Nat)} {B p q : Nat} (hB : ∀ i, B.testBit i = true → i < m) (hp : B.testBit p = true) : (pieceF m ts B p).testBit q = true ↔ Conn ts B p q := by
  unfold pieceF
  rw [bm_bit, decide_eq_true_eq, List.mem_filter, List.mem_range, decide_eq_true_eq]
  exact ⟨fun h => h.2, fun h => ⟨hB q (h.inB hp), h⟩⟩
/-- parts not in -/
def outN (m f : Nat) : Nat := ((List.range m).filter fun q => !f.testBit q).length
theorem filter_lt {α : Type} {P Q : α → Bool} : ∀ {xs : List α}, (∀ x ∈ xs, P x = true → Q x = true) → (∃ x ∈ xs, Q x = true ∧ P x = false) → (xs.filter P).length < (xs.filter Q).length
  | [], _, h => by obtain ⟨x, hx, _⟩ := h; cases hx
  | x :: xs, hs, h => by
    have hle : (xs.filter P).length ≤ (xs.filter Q).length := by
      clear h
      induction xs with
      | nil => simp
      | cons y ys ih =>
        have := ih fun z hz => hs z (by rcases List.mem_cons.mp hz with e | e <;> simp [e])
        by_cases hy : P y = true
        · have := hs y (by simp) hy
          simp [List.filter_cons, hy, this]; omega
        · rw [List.filter_cons, if_neg hy, List.filter_cons]
          split
          · rw [List.length_cons]; omega
          · exact this
    obtain ⟨z, hz, h1, h2⟩ := h
    rcases List.mem_cons.mp hz with e | e
    · subst e
      rw [List.filter_cons, if_neg (by rw [h2]; decide), List.filter_cons, if_pos h1, List.length_cons]
      omega
    · have ih := filter_lt (xs := xs) (fun y hy => hs y (by simp [hy])) ⟨z, e, h1, h2⟩
      by_cases hx : P x = true
      · have := hs x (by simp) hx
        rw [List.filter_cons, if_pos hx, List.filter_cons, if_pos this, List.length_cons, List.length_cons]
        omega
      · rw [List.filter_cons, if_neg hx, List.filter_cons]
        split
        · rw [List.length_cons]; omega
        · exact ih
theorem ne_bit {b : Nat} (h : b ≠ 0) : ∃ i, b.testBit i = true := Nat.exists_testBit_of_ne_zero h
/-- a piece as it is found -/
structure Pce (m : Nat) (ts : List (Nat × Nat)) (B p f e : Nat) : Prop where
  sub : ∀ i, e.testBit i = true → f.testBit i = true
  has : f.testBit p = true
  ok : ∀ i, f.testBit i = true → Conn ts B p i
  cl : ∀ i, f.testBit i = true → e.testBit i = true ∨ ∀ j, Tied ts i j → B.testBit j = true → f.testBit j = true
section
variable {m : Nat} {ts : List (Nat × Nat)} {B p f e : Nat}
theorem Pce.step (T : Ties m ts) (P : Pce m ts B p f e) : Pce m ts B p (f ||| andN (silF ts (lotOf e) &&& B) f) (andN (silF ts (lotOf e) &&& B) f) := by
  have lt1 : ∀ q ∈ ts, q.1 < q.2 := fun q hq => (T.lt q hq).1
  have sil : ∀ j, (andN (silF ts (lotOf e) &&& B) f).testBit j = true ↔ (∃ q, e.testBit q = true ∧ Tied ts q j) ∧ B.testBit j = true ∧ f.testBit j = false := fun j => by
    rw [andN_bit, Nat.testBit_and, Bool.and_eq_true, Bool.and_eq_true, silF_bit ts lt1, Bool.not_eq_true', and_assoc]
    exact and_congr ⟨fun ⟨q, h1, h2⟩ => ⟨q, mem_lotOf.mp h1, h2⟩, fun ⟨q, h1, h2⟩ => ⟨q, mem_lotOf.mpr h1, h2⟩⟩ Iff.rfl
  have bit : ∀ i, (f ||| andN (silF ts (lotOf e) &&& B) f).testBit i = true ↔ f.testBit i = true ∨ (andN (silF ts (lotOf e) &&& B) f).testBit i = true := fun i => by rw [Nat.testBit_or, Bool.or_eq_true]
  refine ⟨fun i hi => (bit i).mpr (.inr hi), (bit p).mpr (.inl P.has), fun i hi => ?_, fun i hi => ?_⟩
  · rcases (bit i).mp hi with z | z
    · exact P.ok i z
    · obtain ⟨⟨q, h1, h2⟩, h3, _⟩ := (sil i).mp z
      exact .step (P.ok q (P.sub q h1)) h2 h3
  · rcases (bit i).mp hi with z | z
    · right
      intro j ht hj
      rcases P.cl i z with y | y
      · cases hf : f.testBit j with
        | true => exact (bit j).mpr (.inl hf)
        | false => exact (bit j).mpr (.inr ((sil j).mpr ⟨⟨i, y, ht⟩, hj, hf⟩))
      · exact (bit j).mpr (.inl (y j ht hj))
    · exact .inl z
theorem Pce.done (hB : ∀ i, B.testBit i = true → i < m) (hp : B.testBit p = true) (P : Pce m ts B p f 0) : f = pieceF m ts B p := by
  apply Nat.eq_of_testBit_eq
  intro i
  rw [Bool.eq_iff_iff, piece_bit hB hp]
  refine ⟨P.ok i, fun h => ?_⟩
  induction h with
  | refl => exact P.has
  | step _ t b ih =>
    rcases P.cl _ ih with z | z
    · simp at z
    · exact z _ t b
theorem Pce.begin : Pce m ts B p (2 ^ p) (2 ^ p) := by
  have bit : ∀ i, (2 ^ p : Nat).testBit i = true ↔ i = p := fun i => by
    rw [Nat.testBit_two_pow, decide_eq_true_eq]; exact eq_comm
  exact ⟨fun i h => h, (bit p).mpr rfl, fun i h => by rw [(bit i).mp h]; exact .refl _, fun i h => .inl h⟩
end
section
variable {G : GS} [HasF G 8 f8] [HasF G 9 f9] [HasF G 56 f56] [HasF G 0 f0] [HasF G 1 f1] [HasF G 2 f2] [HasF G 3 f3] [HasF G 4 f4] [HasF G 5 f5] [HasF G 6 f6]
variable {n m : Nat} {ts : List (Nat × Nat)} {B p : Nat} {w : M}
/-- lumps of some parts -/
structure Lmps (m : Nat) (ts : List (Nat × Nat)) (B : Nat) (gs : List Nat) (C : Nat) : Prop where
  all : ∀ i, B.testBit i = true ↔ C.testBit i = true ∨ ∃ g ∈ gs, g.testBit i = true
  pc : ∀ g ∈ gs, ∃ p, B.testBit p = true ∧ g = pieceF m ts B p
  off : ∀ g ∈ gs, ∀ i, g.testBit i = true → C.testBit i = false
  cl : ∀ i j, C.testBit i = true → Conn ts B i j → C.testBit j = true
  dis : gs.Pairwise fun g h => ∀ i, ¬ (g.testBit i = true ∧ h.testBit i = true)
theorem conn_in {C i j : Nat} (hC : ∀ i j, C.testBit i = true → Conn ts B i j → C.testBit j = true) (hi : C.testBit i = true) (h : Conn ts B i j) : Conn ts C i j := by
  induction h with
  | refl => exact .refl _
  | step h1 t b ih => exact .step ih t (hC _ _ hi (.step h1 t b))
theorem Lmps.step {gs : List Nat} {C q : Nat} (hB : ∀ i, B.testBit i = true → i < m) (L : Lmps m ts B gs C) (hq : C.testBit q = true) : Lmps m ts B (gs ++ [pieceF m ts C q]) (andN C (pieceF m ts C q)) := by
  have sub : ∀ i, C.testBit i = true → B.testBit i = true := fun i hi => (L.all i).mpr (.inl hi)
  have hC : ∀ i, C.testBit i = true → i < m := fun i hi => hB i (sub i hi)
  have same : ∀ i, (pieceF m ts C q).testBit i = true ↔ Conn ts B q i := fun i => by
    rw [piece_bit hC hq]
    exact ⟨fun h => h.sub sub, fun h => conn_in L.cl hq h⟩
  have eqp : pieceF m ts C q = pieceF m ts B q := by
    apply Nat.eq_of_testBit_eq
    intro i
    rw [Bool.eq_iff_iff, same, piece_bit hB (sub q hq)]
  have bit : ∀ i, (andN C (pieceF m ts C q)).testBit i = true ↔ C.testBit i = true ∧ ¬ Conn ts B q i := fun i => by
    rw [andN_bit, Bool.and_eq_true, Bool.not_eq_true', ← Bool.not_eq_true, same]
  refine ⟨fun i => ?_, fun g hg => ?_, fun g hg i hi => ?_, fun i j hi hj => ?_, List.pairwise_append.mpr ⟨L.dis, List.pairwise_singleton _ _, fun g hg h hh i hi => ?_⟩⟩
  · rw [L.all i, bit]
    constructor
    · rintro (h | ⟨g, h1, h2⟩)
      · by_cases c : Conn ts B q i
        · exact .inr ⟨_, by simp, (same i).mpr c⟩
        · exact .inl ⟨h, c⟩
      · exact .inr ⟨g, by simp [h1], h2⟩
    · rintro (h | ⟨g, h1, h2⟩)
      · exact .inl h.1
      · rcases List.mem_append.mp h1 with z | z
        · exact .inr ⟨g, z, h2⟩
        · rw [List.mem_singleton.mp z, same] at h2
          exact .inl (L.cl q i hq h2)
  · rcases List.mem_append.mp hg with z | z
    · exact L.pc g z
    · rw [List.mem_singleton.mp z]
      exact ⟨q, sub q hq, eqp⟩
  · rw [← Bool.not_eq_true, bit]
    rintro ⟨h1, h2⟩
    rcases List.mem_append.mp hg with z | z
    · rw [L.off g z i hi] at h1; cases h1
    · rw [List.mem_singleton.mp z, same] at hi
      exact h2 hi
  · rw [bit] at hi ⊢
    exact ⟨L.cl i j hi.1 hj, fun h => hi.2 (h.trans (hj.symm (sub i hi.1)))⟩
  · rw [List.mem_singleton.mp hh] at hi
    obtain ⟨h1, h2⟩ := hi
    rw [same] at h2
    have := L.cl q i hq h2
    rw [L.off g hg i h1] at this
    cases this
end

/-! a law's source of numbers (laws k17 to k32) -/
def Src (xs : List D) : Prop := ∃ a b c d e : Int, xs = [.int a, .int b, .int c, .int d, .int e]
section
variable {G : GS}
end

/-! a law's own web: bits (laws k17 to k32) -/
def lotIn (m k : Nat) : List Nat := (List.range m).filter fun p => k.testBit p
section
variable {G : GS} [HasF G 0 f0] [HasF G 1 f1] [HasF G 2 f2] [HasF G 3 f3] [HasF G 4 f4] [HasF G 5 f5] [HasF G 56 f56] [HasF G 6 f6] [HasF G 77 f77] [HasF G 8 f8] [HasF G 9 f9]
variable {n m b p : Nat} {ts : List (Nat × Nat)} {ns : List Nat}
/-- a lump as it grows -/
structure Grow (m : Nat) (ts : List (Nat × Nat)) (C l f : Nat) : Prop where
  has : f.testBit l = true
  ok : ∀ i, f.testBit i = true → Conn ts C l i
theorem Grow.done (T : Ties m ts) {C l f : Nat} (hC : ∀ i, C.testBit i = true → i < m) (hl : C.testBit l = true) (g : Grow m ts C l f) (h : ∀ q, q < m → C.testBit q = true → f.testBit q = false → nearF ts q &&& f = 0) : f = pieceF m ts C l := by
  have lt1 : ∀ q ∈ ts, q.1 < q.2 := fun q hq => (T.lt q hq).1
  apply Nat.eq_of_testBit_eq
  intro i
  rw [Bool.eq_iff_iff, piece_bit hC hl]
  refine ⟨g.ok i, fun c => ?_⟩
  induction c with
  | refl => exact g.has
  | @step q r _ t b ih =>
    cases e : f.testBit r with
    | true => rfl
    | false =>
      have := congrArg (Nat.testBit · q) (h r (hC r b) b e)
      simp only [Nat.testBit_and, Nat.zero_testBit, ih, (nearF_bit ts lt1 r q).mpr t.symm, Bool.and_self] at this
      cases this
theorem Grow.put (T : Ties m ts) {C l f q : Nat} (g : Grow m ts C l f) (hq : C.testBit q = true) (h : nearF ts q &&& f ≠ 0) : Grow m ts C l (f ||| 2 ^ q) := by
  have lt1 : ∀ q ∈ ts, q.1 < q.2 := fun q hq => (T.lt q hq).1
  refine ⟨by rw [Nat.testBit_or, g.has]; rfl, fun i hi => ?_⟩
  rw [Nat.testBit_or, Nat.testBit_two_pow, Bool.or_eq_true, decide_eq_true_eq] at hi
  rcases hi with z | z
  · exact g.ok i z
  · subst z
    obtain ⟨j, hj⟩ := ne_bit h
    rw [Nat.testBit_and, Bool.and_eq_true] at hj
    exact .step (g.ok j hj.2) ((nearF_bit ts lt1 q j).mp hj.1).symm hq
end

/-! how far calls lead: layers of stands, as bits -/
def rowN (ts : List (Nat × Nat)) (b : Nat) (ps : List Nat) : Nat := ps.foldl (afterF ts) b
theorem rowN_snoc {ts : List (Nat × Nat)} {b p : Nat} {ps : List Nat} : rowN ts b (ps ++ [p]) = afterF ts (rowN ts b ps) p := by unfold rowN; rw [List.foldl_append]; rfl
theorem afterN_lt {m : Nat} {ts : List (Nat × Nat)} {b p : Nat} (hb : ∀ i, b.testBit i = true → i < m) (hp : p < m) : ∀ i, (afterF ts b p).testBit i = true → i < m := fun i hi => by
  unfold afterF at hi
  split at hi
  · rw [Nat.testBit_or, Nat.testBit_two_pow, Bool.or_eq_true, decide_eq_true_eq] at hi
    rcases hi with z | z
    · exact hb i z
    · omega
  · rw [andN_bit, Bool.and_eq_true] at hi
    exact hb i hi.1
theorem bits_lt {m b : Nat} (hb : ∀ i, b.testBit i = true → i < m) : b < 2 ^ m := Nat.lt_pow_two_of_testBit _ fun i hi => by
  cases e : b.testBit i with
  | false => rfl
  | true => exact absurd (hb i e) (by omega)
def kI (q : Nat × Nat) : L2.Key := .inl (q.1 : Int)
def vI (q : Nat × Nat) : D := I q.2
structure Keys (m : Nat) (ts : List (Nat × Nat)) (B : Nat) (ps : List (Nat × Nat)) : Prop where
  nd : (ps.map (·.1)).Nodup
  lt : ∀ q ∈ ps, ∀ i, q.1.testBit i = true → i < m
  ok : ∀ q ∈ ps, ∃ row : List Nat, (∀ p ∈ row, p < m) ∧ row.length = q.2 ∧ rowN ts B row = q.1
theorem Keys.len {m : Nat} {ts : List (Nat × Nat)} {B : Nat} {ps : List (Nat × Nat)} (K : Keys m ts B ps) : ps.length ≤ 2 ^ m := by
  have := nodup_len K.nd (ys := List.range (2 ^ m)) fun x hx => by
    obtain ⟨q, hq, rfl⟩ := List.mem_map.mp hx
    exact List.mem_range.mpr (bits_lt (K.lt q hq))
  rwa [List.length_map, List.length_range] at this
/-- a layer -/
structure Wave (m : Nat) (ts : List (Nat × Nat)) (B : Nat) (ps : List (Nat × Nat)) (lay : List Nat) (d : Nat) : Prop where
  keys : Keys m ts B ps
  all : ∀ row : List Nat, (∀ p ∈ row, p < m) → row.length ≤ d → ∃ v, (rowN ts B row, v) ∈ ps ∧ v ≤ row.length
  lay : ∀ x, x ∈ lay ↔ (x, d) ∈ ps
  top : ∀ q ∈ ps, q.2 ≤ d
/-- within a layer -/
structure Wav2 (m : Nat) (ts : List (Nat × Nat)) (B d : Nat) (ps0 ps : List (Nat × Nat)) (later : List Nat) (Dn : Nat → Nat → Prop) : Prop where
  keys : Keys m ts B ps
  old : ∀ q ∈ ps0, q ∈ ps
  new : ∀ q ∈ ps, q ∈ ps0 ∨ q.2 = d + 1
  lay : ∀ x, x ∈ later ↔ (x, d + 1) ∈ ps
  dn : ∀ x p, Dn x p → ∃ v, (afterF ts x p, v) ∈ ps
section
variable {m : Nat} {ts : List (Nat × Nat)} {B d : Nat} {ps ps0 : List (Nat × Nat)} {lay later : List Nat}
theorem Wave.begin (hB : ∀ i, B.testBit i = true → i < m) : Wave m ts B [(B, 0)] [B] 0 := by
  refine ⟨⟨by simp, fun q hq => ?_, fun q hq => ?_⟩, fun row hr hl => ?_, fun x => by simp, fun q hq => ?_⟩
  · rw [List.mem_singleton.mp hq]; exact hB
  · rw [List.mem_singleton.mp hq]; exact ⟨[], fun _ h => (nomatch h), rfl, rfl⟩
  · have : row = [] := List.eq_nil_of_length_eq_zero (by omega)
    subst this
    exact ⟨0, by simp [rowN], by simp⟩
  · rw [List.mem_singleton.mp hq]; exact Nat.le_refl _
theorem Wave.open (W : Wave m ts B ps lay d) : Wav2 m ts B d ps ps [] fun _ _ => False :=
  ⟨W.keys, fun _ h => h, fun _ h => .inl h, fun x => ⟨fun h => (nomatch h), fun h => absurd (W.top _ h) (by simp)⟩, fun _ _ h => h.elim⟩
theorem Wave.end (W : Wave m ts B ps [] d) : ∀ row : List Nat, (∀ p ∈ row, p < m) → ∃ v, (rowN ts B row, v) ∈ ps ∧ v ≤ row.length := by
  intro row
  induction row using List.reverseRecOn' with
  | h0 => exact fun h => W.all [] h (by simp)
  | h1 row p ih =>
    intro h
    obtain ⟨v, h1, h2⟩ := ih fun q hq => h q (by simp [hq])
    have h3 : v < d := by
      have := W.top _ h1
      refine Nat.lt_of_le_of_ne this fun e => ?_
      have e' : v = d := e
      rw [e'] at h1
      exact absurd ((W.lay _).mpr h1) (by simp)
    obtain ⟨r2, h4, h5, h6⟩ := W.keys.ok _ h1
    simp only at h5 h6
    obtain ⟨v2, h7, h8⟩ := W.all (r2 ++ [p]) (fun q hq => by
      rcases List.mem_append.mp hq with z | z
      · exact h4 q z
      · exact h q (by simp [List.mem_singleton.mp z])) (by rw [List.length_append, List.length_singleton]; omega)
    rw [rowN_snoc, h6, ← rowN_snoc] at h7
    rw [List.length_append, List.length_singleton] at h8 ⊢
    exact ⟨v2, h7, by omega⟩
theorem Wav2.mono {D1 D2 : Nat → Nat → Prop} (V : Wav2 m ts B d ps0 ps later D1) (h : ∀ x p, D2 x p → D1 x p) : Wav2 m ts B d ps0 ps later D2 := ⟨V.keys, V.old, V.new, V.lay, fun x p q => V.dn x p (h x p q)⟩
theorem Wav2.seen {Dn : Nat → Nat → Prop} {x p : Nat} (V : Wav2 m ts B d ps0 ps later Dn) (hin : afterF ts x p ∈ ps.map (·.1)) : Wav2 m ts B d ps0 ps later fun y q => Dn y q ∨ (y = x ∧ q = p) := by
  refine ⟨V.keys, V.old, V.new, V.lay, fun y q h => ?_⟩
  rcases h with h | ⟨rfl, rfl⟩
  · exact V.dn y q h
  · obtain ⟨z, hz, e⟩ := List.mem_map.mp hin
    exact ⟨z.2, by rw [← e]; exact hz⟩
theorem Wav2.put {Dn : Nat → Nat → Prop} {x p : Nat} (V : Wav2 m ts B d ps0 ps later Dn) (hx : (x, d) ∈ ps) (hp : p < m) (hin : afterF ts x p ∉ ps.map (·.1)) : Wav2 m ts B d ps0 (ps ++ [(afterF ts x p, d + 1)]) (later ++ [afterF ts x p]) fun y q => Dn y q ∨ (y = x ∧ q = p) := by
  refine ⟨⟨?_, fun q hq => ?_, fun q hq => ?_⟩, fun q hq => by simp [V.old q hq], fun q hq => ?_, fun y => ?_, fun y q h => ?_⟩
  · rw [List.map_append]
    refine List.nodup_append.mpr ⟨V.keys.nd, by simp, fun a ha b hb e => ?_⟩
    simp only [List.map_cons, List.map_nil, List.mem_singleton] at hb
    rw [e, hb] at ha
    exact hin ha
  · rcases List.mem_append.mp hq with z | z
    · exact V.keys.lt q z
    · rw [List.mem_singleton.mp z]
      exact afterN_lt (V.keys.lt _ hx) hp
  · rcases List.mem_append.mp hq with z | z
    · exact V.keys.ok q z
    · rw [List.mem_singleton.mp z]
      obtain ⟨r, h1, h2, h3⟩ := V.keys.ok _ hx
      refine ⟨r ++ [p], fun q hq => ?_, by rw [List.length_append, h2]; rfl, by rw [rowN_snoc, h3]⟩
      rcases List.mem_append.mp hq with z | z
      · exact h1 q z
      · rw [List.mem_singleton.mp z]; exact hp
  · rcases List.mem_append.mp hq with z | z
    · exact V.new q z
    · rw [List.mem_singleton.mp z]; exact .inr rfl
  · rw [List.mem_append, List.mem_append, V.lay, List.mem_singleton, List.mem_singleton]
    constructor
    · rintro (h | h)
      · exact .inl h
      · exact .inr (by rw [h])
    · rintro (h | h)
      · exact .inl h
      · exact .inr (by injection h)
  · rcases h with h | ⟨rfl, rfl⟩
    · obtain ⟨v, hv⟩ := V.dn y q h
      exact ⟨v, by simp [hv]⟩
    · exact ⟨d + 1, by simp⟩
end
section
variable {G : GS} [HasF G 0 f0] [HasF G 1 f1] [HasF G 2 f2] [HasF G 3 f3] [HasF G 4 f4] [HasF G 5 f5] [HasF G 56 f56] [HasF G 6 f6] [HasF G 77 f77] [HasF G 8 f8] [HasF G 9 f9]
variable {n m : Nat} {ts : List (Nat × Nat)}
end

/-! how many greatest free lots of some parts there are that silence others, too (plain) -/
structure OkN (ts : List (Nat × Nat)) (F S c : Nat) : Prop where
  sub : ∀ i, c.testBit i = true → F.testBit i = true
  free : ∀ i j, c.testBit i = true → c.testBit j = true → ¬ Tied ts i j
  sil : ∀ i, F.testBit i = true ∨ S.testBit i = true → c.testBit i = true ∨ ∃ j, c.testBit j = true ∧ Tied ts i j
noncomputable instance okDec (ts : List (Nat × Nat)) (F S c : Nat) : Decidable (OkN ts F S c) := Classical.propDecidable _
noncomputable def goodL (m : Nat) (ts : List (Nat × Nat)) (F S : Nat) : List Nat := (List.range (2 ^ m)).filter fun c => decide (OkN ts F S c)
noncomputable def cntN (m : Nat) (ts : List (Nat × Nat)) (F S : Nat) : Nat := (goodL m ts F S).length
theorem nodup_map_on {α β : Type} {f : α → β} {l : List α} (nd : l.Nodup) (h : ∀ a ∈ l, ∀ b ∈ l, f a = f b → a = b) : (l.map f).Nodup :=
  List.pairwise_map.mpr (List.Pairwise.imp_of_mem (fun {a b} ha hb hab e => hab (h a ha b hb e)) nd)
section
variable {m : Nat} {ts : List (Nat × Nat)}
theorem andN_iff {a b i : Nat} : (andN a b).testBit i = true ↔ a.testBit i = true ∧ ¬ b.testBit i = true := by rw [andN_bit, Bool.and_eq_true, Bool.not_eq_true', Bool.not_eq_true]
theorem and_iff' {a b i : Nat} : (a &&& b).testBit i = true ↔ a.testBit i = true ∧ b.testBit i = true := by rw [Nat.testBit_and, Bool.and_eq_true]
theorem bits_ext {a b : Nat} (h : ∀ i, a.testBit i = true ↔ b.testBit i = true) : a = b := Nat.eq_of_testBit_eq fun i => Bool.eq_iff_iff.mpr (h i)
/-- blocks that are not tied to one another -/
structure Blk (ts : List (Nat × Nat)) (U : Nat) (gs : List Nat) : Prop where
  all : ∀ i, U.testBit i = true ↔ ∃ g ∈ gs, g.testBit i = true
  dis : gs.Pairwise fun g h => (∀ i, ¬ (g.testBit i = true ∧ h.testBit i = true)) ∧ ∀ i j, g.testBit i = true → h.testBit j = true → ¬ Tied ts i j
theorem Lmps.blk {B : Nat} (hB : ∀ i, B.testBit i = true → i < m) {gs : List Nat} (L : Lmps m ts B gs 0) : Blk ts B gs := by
  refine ⟨fun i => ?_, List.Pairwise.imp_of_mem (fun {g h} hg hh q => ⟨q, fun i j hi hj t => ?_⟩) L.dis⟩
  · rw [L.all i]; simp
  · obtain ⟨p, hp, e⟩ := L.pc g hg
    have hj2 : B.testBit j = true := (L.all j).mpr (.inr ⟨h, hh, hj⟩)
    refine q j ⟨?_, hj⟩
    rw [e, piece_bit hB hp] at hi ⊢
    exact .step hi t hj2
end

/-! rests: fork, Counter, listed_from -/
def hereF (ts : List (Nat × Nat)) (F p : Nat) : Nat := (nearF ts p ||| 2 ^ p) &&& F
/-- how many new things one piece of so many parts can bring to what is known -/
def wT (s : Nat) : Nat := ([0, 1, 2, 3, 5, 7, 11, 16, 23, 34, 49, 70, 103, 148, 211, 310, 445, 634, 931, 1336, 1903, 2794, 4009, 5710, 8383, 12028, 17131, 25150, 36085, 51394, 75451] : List Nat).getD s 0
theorem up_nodup {ns : List Nat} (h : ns.Pairwise (· < ·)) : ns.Nodup := h.imp fun h => Nat.ne_of_lt h
def szN (U : Nat) : Nat := (lotOf U).length
theorem sz_two {X Y U : Nat} (hX : ∀ i, X.testBit i = true → U.testBit i = true) (hY : ∀ i, Y.testBit i = true → U.testBit i = true) (hd : ∀ i, ¬ (X.testBit i = true ∧ Y.testBit i = true)) : szN X + szN Y ≤ szN U := by
  have nd : (lotOf X ++ lotOf Y).Nodup := List.nodup_append.mpr ⟨up_nodup (lotOf_up X), up_nodup (lotOf_up Y), fun a ha b hb e => hd a ⟨mem_lotOf.mp ha, by rw [e]; exact mem_lotOf.mp hb⟩⟩
  have := nodup_len nd (ys := lotOf U) fun x hx => by
    rcases List.mem_append.mp hx with z | z
    · exact mem_lotOf.mpr (hX x (mem_lotOf.mp z))
    · exact mem_lotOf.mpr (hY x (mem_lotOf.mp z))
  rw [List.length_append] at this
  exact this
theorem Blk.size {ts : List (Nat × Nat)} {gs : List Nat} : ∀ {U : Nat}, Blk ts U gs → (gs.map szN).sum ≤ szN U := by
  induction gs with
  | nil => intro U _; exact Nat.zero_le _
  | cons g gs ih =>
    intro U b
    obtain ⟨d1, d2⟩ := List.pairwise_cons.mp b.dis
    have bit : ∀ i, (andN U g).testBit i = true ↔ ∃ h ∈ gs, h.testBit i = true := fun i => by
      rw [andN_iff, b.all i]
      constructor
      · rintro ⟨⟨h, hh, hi⟩, hg⟩
        rcases List.mem_cons.mp hh with rfl | hh
        · exact absurd hi hg
        · exact ⟨h, hh, hi⟩
      · rintro ⟨h, hh, hi⟩
        exact ⟨⟨h, by simp [hh], hi⟩, fun z => (d1 h hh).1 i ⟨z, hi⟩⟩
    have h1 := ih (U := andN U g) ⟨bit, d2⟩
    have h2 := sz_two (X := g) (Y := andN U g) (U := U) (fun i hi => (b.all i).mpr ⟨g, by simp, hi⟩) (fun i hi => (andN_iff.mp hi).1) fun i h => (andN_iff.mp h.2).2 h.1
    rw [List.map_cons, List.sum_cons]
    omega
/-- what a counter knows -/
def kK (q : Nat × Nat × Nat) : List L2.Key := [.inl (q.1 : Int), .inl (q.2.1 : Int)]
def kV (q : Nat × Nat × Nat) : D := I q.2.2
def Kn (m : Nat) (ts : List (Nat × Nat)) (ps : List (Nat × Nat × Nat)) : Prop := ∀ q ∈ ps, q.2.2 = cntN m ts q.1 q.2.1
abbrev CT (m : Nat) (ts : List (Nat × Nat)) (ps : List (Nat × Nat × Nat)) : M := .ins 1 [(6, .v (webD m ts)), (7, .dT (ps.map kK) (ps.map kV))]
structure Bd (m F S : Nat) : Prop where
  lt : ∀ i, (F ||| S).testBit i = true → i < m
  dis : ∀ i, ¬ (F.testBit i = true ∧ S.testBit i = true)
def OfOK (G : GS) (m : Nat) (ts : List (Nat × Nat)) (i d s : Nat) (P : Nat → Prop) : Prop := ∀ (n F S : Nat) (ps : List (Nat × Nat × Nat)), Bd m F S → szN (F ||| S) ≤ s → P (F ||| S) → Kn m ts ps → ps.length + wT (szN (F ||| S)) ≤ 1000000 →
  WC (callN G (n + d) i [CT m ts ps, .v (I F), .v (I S)]) fun r os => ∃ ps', r = .v (I (cntN m ts F S)) ∧ os = [CT m ts ps', .v (I F), .v (I S)] ∧ Kn m ts ps' ∧ ps'.length ≤ ps.length + wT (szN (F ||| S))
section
variable {G : GS} [HasF G 0 f0] [HasF G 1 f1] [HasF G 2 f2] [HasF G 3 f3] [HasF G 4 f4] [HasF G 5 f5] [HasF G 56 f56] [HasF G 6 f6] [HasF G 8 f8] [HasF G 9 f9]
variable {n m : Nat} {ts : List (Nat × Nat)} {w : M}
end

/-! rests: listed_from, rests_within, all_rests, many_rests, rests -/
/-- how many turns a pair of lots of so many parts takes -/
def vT (s : Nat) : Nat := ([1, 2, 3, 5, 7, 11, 16, 23, 34, 49, 70, 103, 148, 211, 310, 445, 634, 931, 1336, 1903, 2794, 4009, 5710, 8383, 12028] : List Nat).getD s 0
abbrev T3 (q : Nat × Nat × Nat) : D := .tup [I q.1, I q.2.1, I q.2.2]
noncomputable def perW (m : Nat) (ts : List (Nat × Nat)) (q : Nat × Nat × Nat) : List Nat := (goodL m ts q.2.1 q.2.2).map (q.1 ||| ·)
structure Wait (m : Nat) (ts : List (Nat × Nat)) (C F S : Nat) (W : List (Nat × Nat × Nat)) (Fd : List Nat) : Prop where
  all : (Fd ++ W.flatMap (perW m ts)).Perm (perW m ts (C, F, S))
  bd : ∀ q ∈ W, Bd m q.2.1 q.2.2
def wSum (W : List (Nat × Nat × Nat)) : Nat := (W.map fun q => vT (szN (q.2.1 ||| q.2.2))).sum
section
variable {G : GS} [HasF G 0 f0] [HasF G 1 f1] [HasF G 2 f2] [HasF G 3 f3] [HasF G 4 f4] [HasF G 5 f5] [HasF G 56 f56] [HasF G 6 f6] [HasF G 8 f8] [HasF G 9 f9]
variable {n m : Nat} {ts : List (Nat × Nat)} {w : M}
end

/-! rests of a web: counted, listed -/
def withN (m : Nat) (ts : List (Nat × Nat)) (Y N : Nat) : List Nat := (List.range (2 ^ m)).filter fun k => restF m ts (lotOf k) && decide (Y &&& k = Y) && decide (N &&& k = 0)
theorem whole_bit {m i : Nat} : (2 ^ m - 1).testBit i = true ↔ i < m := by rw [Nat.testBit_two_pow_sub_one, decide_eq_true_eq]
theorem and_no {Y k : Nat} : Y &&& k = 0 ↔ ∀ i, ¬ (Y.testBit i = true ∧ k.testBit i = true) := by
  constructor
  · intro h i hi
    have := and_iff'.mpr hi
    rw [h] at this; simp at this
  · intro h
    exact bits_ext fun i => ⟨fun z => absurd (and_iff'.mp z) (h i), fun z => by simp at z⟩
section
variable {m : Nat} {ts : List (Nat × Nat)}
end
section
variable {G : GS} [HasF G 0 f0] [HasF G 1 f1] [HasF G 2 f2] [HasF G 3 f3] [HasF G 4 f4] [HasF G 5 f5] [HasF G 56 f56] [HasF G 6 f6] [HasF G 77 f77] [HasF G 8 f8] [HasF G 9 f9]
variable {n m : Nat} {ts : List (Nat × Nat)} {w : M}
end

/-! webs beside one another: ties, and how many rests (plain) -/
def movL (k : Nat) (ts : List (Nat × Nat)) : List (Nat × Nat) := ts.map fun p => (p.1 + k, p.2 + k)
def besT (k : Nat) (ts us : List (Nat × Nat)) : List (Nat × Nat) := sprP ((ts ++ movL k us).map mmP)
section
variable {m u : Nat} {ts us : List (Nat × Nat)}
end

/-! webs joined, renamed: ties, and how many rests (plain) -/
/-- all pairs of one of the first and one of the second -/
def allP (as bs : List Nat) : List (Nat × Nat) := as.flatMap fun a => bs.map fun b => (a, b)
def jonP (m : Nat) (ts : List (Nat × Nat)) (u : Nat) (us : List (Nat × Nat)) : List (Nat × Nat) := ts ++ movL m us ++ allP (List.range m) ((List.range u).map (m + ·))
def jonT (m : Nat) (ts : List (Nat × Nat)) (u : Nat) (us : List (Nat × Nat)) : List (Nat × Nat) := sprP ((jonP m ts u us).map mmP)
section
variable {m u : Nat} {ts us : List (Nat × Nat)}
end

/-! webs renamed (plain): ties, and how many rests -/
/-- names for all parts, each once -/
structure Nms (m : Nat) (f : Nat → Nat) : Prop where
  lt : ∀ i, i < m → f i < m
  inj : ∀ i j, i < m → j < m → f i = f j → i = j
def nmP (f : Nat → Nat) (ts : List (Nat × Nat)) : List (Nat × Nat) := ts.map fun p => (f p.1, f p.2)
def nmT (f : Nat → Nat) (ts : List (Nat × Nat)) : List (Nat × Nat) := sprP ((nmP f ts).map mmP)
section
variable {m : Nat} {ts : List (Nat × Nat)} {f : Nat → Nat}
/-- every part has a name that is its -/
theorem Nms.onto (N : Nms m f) {p : Nat} (hp : p < m) : ∃ i, i < m ∧ f i = p := by
  have hnd : ((List.range m).map f).Nodup := nodup_map_on List.nodup_range fun a ha b hb e => N.inj a b (List.mem_range.mp ha) (List.mem_range.mp hb) e
  refine Classical.byContradiction fun hn => ?_
  have hn' : p ∉ (List.range m).map f := fun h => by
    obtain ⟨i, hi, e⟩ := List.mem_map.mp h
    exact hn ⟨i, List.mem_range.mp hi, e⟩
  have := nodup_len (xs := p :: (List.range m).map f) (ys := List.range m) (List.nodup_cons.mpr ⟨hn', hnd⟩) fun x hx => by
    rw [List.mem_range]
    rcases List.mem_cons.mp hx with rfl | hx
    · exact hp
    · obtain ⟨i, hi, rfl⟩ := List.mem_map.mp hx
      exact N.lt i (List.mem_range.mp hi)
  rw [List.length_cons, List.length_map, List.length_range] at this
  omega
/-- a rest with other names -/
def nmR (f : Nat → Nat) (r : List Nat) : List Nat := lotOf (bm (r.map f))
theorem Ties.ext {us : List (Nat × Nat)} (T : Ties m ts) (U : Ties m us) (h : ∀ i j, i < m → j < m → (Tied ts i j ↔ Tied us i j)) : ts = us := by
  refine tl_ext T.up U.up fun p => ?_
  have one : ∀ {ts us : List (Nat × Nat)}, Ties m ts → Ties m us → (∀ i j, i < m → j < m → (Tied ts i j → Tied us i j)) → ∀ p ∈ ts, p ∈ us := fun {ts us} T U h p hp => by
    have hl := T.lt p hp
    rcases h p.1 p.2 (by omega) hl.2 (.inl hp) with z | z
    · exact z
    · have := U.lt _ z; simp only at this; omega
  exact ⟨one T U (fun i j hi hj => (h i j hi hj).mp) p, one U T (fun i j hi hj => (h i j hi hj).mpr) p⟩
/-- names back -/
theorem Nms.back (N : Nms m f) : ∃ g, Nms m g ∧ ∀ i, i < m → g (f i) = i := by
  classical
  let g : Nat → Nat := fun p => if h : p < m then Classical.choose (N.onto h) else p
  have hg : ∀ p (h : p < m), g p < m ∧ f (g p) = p := fun p h => by
    have : g p = Classical.choose (N.onto h) := dif_pos h
    rw [this]
    exact Classical.choose_spec (N.onto h)
  refine ⟨g, ⟨fun i hi => (hg i hi).1, fun i j hi hj e => ?_⟩, fun i hi => ?_⟩
  · rw [← (hg i hi).2, e, (hg j hj).2]
  · exact N.inj _ _ (hg _ (N.lt i hi)).1 hi (hg _ (N.lt i hi)).2
end

/-! webs joined, renamed: the walks -/
/-- names told by a list -/
def nmF (ns : List Nat) (i : Nat) : Nat := (ns[i]?).getD 0
section
variable {G : GS} [HasF G 0 f0] [HasF G 1 f1] [HasF G 2 f2] [HasF G 3 f3] [HasF G 4 f4] [HasF G 5 f5] [HasF G 6 f6] [HasF G 8 f8] [HasF G 9 f9]
variable {n m u : Nat} {ts us : List (Nat × Nat)} {w v : M}
end

/-! lots, each once, ascending: sorted(set(..)); lists of stands -/
abbrev LS (xss : List (List Nat)) : D := .tup (xss.map L)
def setL (xss : List (List Nat)) : List (List Nat) := (nub xss).mergeSort leL
def LLt (a b : List Nat) : Prop := leL a b = true ∧ a ≠ b
theorem LLt.trans {a b c : List Nat} (h1 : LLt a b) (h2 : LLt b c) : LLt a c := ⟨leL_tr a b c h1.1 h2.1, fun e => by
  subst e
  exact h1.2 (leL_anti a b h1.1 h2.1)⟩
theorem ll_sorted {xss : List (List Nat)} (nd : xss.Nodup) : (xss.mergeSort leL).Pairwise LLt := by
  have h1 := List.pairwise_mergeSort (le := leL) leL_tr leL_tot xss
  have h2 : (xss.mergeSort leL).Nodup := (List.mergeSort_perm _ _).nodup_iff.mpr nd
  exact (h1.and h2).imp fun {a b} h => h
theorem ll_nodup {xss : List (List Nat)} (h : xss.Pairwise LLt) : xss.Nodup := h.imp fun {a b} q => q.2
theorem setL_up (xss : List (List Nat)) : (setL xss).Pairwise LLt := ll_sorted (nub_nodup xss)
theorem mem_setL {xss : List (List Nat)} {p : List Nat} : p ∈ setL xss ↔ p ∈ xss := by
  unfold setL
  rw [List.mem_mergeSort, mem_nub]
theorem nub_len {α : Type} [DecidableEq α] : ∀ xs : List α, (nub xs).length ≤ xs.length
  | [] => Nat.le_refl _
  | x :: xs => by
    rw [nub]
    have := nub_len xs
    split
    · rw [List.length_cons]; omega
    · rw [List.length_cons, List.length_cons]; omega
theorem setL_len (xss : List (List Nat)) : (setL xss).length ≤ xss.length := by
  unfold setL
  rw [List.length_mergeSort]
  exact nub_len xss
theorem setL_ne {xss : List (List Nat)} (h : xss ≠ []) : setL xss ≠ [] := by
  obtain ⟨x, r, rfl⟩ := List.exists_cons_of_ne_nil h
  exact List.ne_nil_of_mem (mem_setL.mpr (show x ∈ x :: r by simp))
abbrev enL (ns : List Nat) : List Int := ns.map fun (c : Nat) => (c : Int)
/-- stands as a list takes them -/
structure LsOk (p : Nat) (xss : List (List Nat)) : Prop where
  up : xss.Pairwise LLt
  lot : ∀ ns ∈ xss, ns.Pairwise (· < ·) ∧ ∀ x ∈ ns, x < p
  pos : xss ≠ []
  len : xss.length ≤ 64
/-- lots below p, each once, are no more than 2 ^ p -/
theorem lots_few {p : Nat} {xss : List (List Nat)} (nd : xss.Nodup) (h : ∀ ns ∈ xss, ns.Pairwise (· < ·) ∧ ∀ x ∈ ns, x < p) : xss.length ≤ 2 ^ p := by
  have e := lots_ext (xss := xss) (yss := (lotsU p).filter fun ns => decide (ns ∈ xss)) nd ((lotsU_nodup p).filter _) fun ns => by
    rw [List.mem_filter, decide_eq_true_eq, mem_lotsU]
    exact ⟨fun q => ⟨h ns q, q⟩, fun q => q.2⟩
  have e2 := congrArg List.length e
  rw [List.length_mergeSort, List.length_mergeSort] at e2
  have e3 := List.length_filter_le (fun ns => decide (ns ∈ xss)) (lotsU p)
  rw [lotsU_len] at e3
  omega
theorem pow_6 {p : Nat} (h : p ≤ 6) : 2 ^ p ≤ 64 := Nat.pow_le_pow_right (n := 2) (by decide) h
theorem LsOk.small {p : Nat} {xss : List (List Nat)} (hp : p ≤ 6) (h : ∀ ns ∈ xss, ns.Pairwise (· < ·) ∧ ∀ x ∈ ns, x < p) (h0 : xss ≠ []) : LsOk p (setL xss) where
  up := setL_up xss
  lot := fun ns hn => h ns (mem_setL.mp hn)
  pos := setL_ne h0
  len := by
    have := lots_few (ll_nodup (setL_up xss)) fun ns hn => h ns (mem_setL.mp hn)
    have := pow_6 hp
    omega
theorem LsOk.sub {p : Nat} {xss yss : List (List Nat)} (h : LsOk p xss) (hs : yss.Sublist xss) (h0 : yss ≠ []) : LsOk p yss where
  up := h.up.sublist hs
  lot := fun ns hn => h.lot ns (hs.subset hn)
  pos := h0
  len := Nat.le_trans hs.length_le h.len
/-! lists of stands: the class, lists of some lots, of both, of either -/
abbrev listM (p : Nat) (xss : List (List Nat)) : M := .ins 3 [(20, .v (I p)), (21, .v (LS xss))]
abbrev listD (p : Nat) (xss : List (List Nat)) : D := .ins 3 [(20, I p), (21, LS xss)]
section
variable {G : GS} [HasF G 0 f0] [HasF G 1 f1] [HasF G 2 f2] [HasF G 3 f3] [HasF G 4 f4] [HasF G 5 f5] [HasF G 6 f6]
variable {n p q : Nat} {xss yss lots a b : List (List Nat)}
def IsLst (x : M) (p : Nat) (a : List (List Nat)) : Prop := x = listM p a ∨ x = .v (listD p a)
end

/-! laws of lists of stands: what is drawn *) -/
/-- what a rest shows at places -/
def seenF (sh r : List Nat) : List Nat := (List.range sh.length).filter fun j => decide (sh.getD j 0 ∈ r)
/-- the names of a lot's places -/
def renL (ns lot : List Nat) : List Nat := (lot.map fun j => ns.getD j 0).mergeSort fun a b => decide (a ≤ b)
def renS (ns : List Nat) (xss : List (List Nat)) : List (List Nat) := (xss.map (renL ns)).mergeSort leL
section
variable {G : GS} [HasF G 0 f0] [HasF G 1 f1] [HasF G 2 f2] [HasF G 3 f3] [HasF G 4 f4] [HasF G 5 f5] [HasF G 56 f56] [HasF G 6 f6] [HasF G 77 f77] [HasF G 8 f8] [HasF G 9 f9]
variable {n p m k : Nat} {xs : List D}
end

/-! laws of lists of stands: wide ones, put together of small webs *)  -/
/-- lots over places, each once -/
structure Lots (p : Nat) (lots : List (List Nat)) : Prop where
  nd : lots.Nodup
  lot : ∀ r ∈ lots, r.Pairwise (· < ·) ∧ ∀ x ∈ r, x < p
  pos : lots ≠ []
def catL (p : Nat) (lot r : List Nat) : List Nat := lot ++ r.map fun x => p + x
/-- all put together -/
def catS (p : Nat) (lots K : List (List Nat)) : List (List Nat) := K.flatMap fun r => lots.map fun a => catL p a r
section
variable {G : GS} [HasF G 0 f0] [HasF G 1 f1] [HasF G 2 f2] [HasF G 3 f3] [HasF G 4 f4] [HasF G 5 f5] [HasF G 56 f56] [HasF G 6 f6] [HasF G 77 f77] [HasF G 8 f8] [HasF G 9 f9]
variable {n p m k : Nat} {xs : List D}
end

/-! few rests: at most 63 of seven or eight parts -/
theorem nodup_le {α : Type} [DecidableEq α] : ∀ {xs U : List α}, xs.Nodup → (∀ x ∈ xs, x ∈ U) → xs.length ≤ U.length
  | [], _, _, _ => Nat.zero_le _
  | x :: xs, U, nd, h => by
    obtain ⟨n1, n2⟩ := List.nodup_cons.mp nd
    have hx := h x (by simp)
    have := nodup_le (xs := xs) (U := U.erase x) n2 fun y hy => (List.mem_erase_of_ne (fun e : y = x => n1 (e ▸ hy))).mpr (h y (List.mem_cons_of_mem _ hy))
    rw [List.length_erase_of_mem hx] at this
    have := List.length_pos_of_mem hx
    rw [List.length_cons]
    omega
def cutR (a b : Nat) (r : List Nat) : List Nat := r.filter fun x => decide (x ≠ a ∧ x ≠ b)
def uniR (m a b : Nat) : List (List Nat) := (lotsU m).filter fun r => decide (a ∉ r ∧ b ∉ r)
section
variable {m a b : Nat} {ts : List (Nat × Nat)}
/-- the lot of all others but one -/
def butR (m a b d : Nat) : List Nat := (List.range m).filter fun x => decide (x ≠ a ∧ x ≠ b ∧ x ≠ d)
def othR (a b k : Nat) : Nat := ((List.range 8).filter fun x => decide (x ≠ a ∧ x ≠ b)).getD k 0
def okR (a b : Nat) : Bool := decide (othR a b 0 < 8) && decide (othR a b 1 < 8) && decide (othR a b 2 < 8) && decide (othR a b 0 ≠ othR a b 1) && decide (othR a b 0 ≠ othR a b 2) && decide (othR a b 1 ≠ othR a b 2) && decide (othR a b 0 ≠ a) && decide (othR a b 0 ≠ b) && decide (othR a b 1 ≠ a) && decide (othR a b 1 ≠ b) && decide (othR a b 2 ≠ a) && decide (othR a b 2 ≠ b)
end

/-! what webs show at places -/
structure Shw (m : Nat) (sh : List Nat) : Prop where
  nd : sh.Nodup
  lt : ∀ x ∈ sh, x < m
  pos : sh ≠ []
  len : sh.length ≤ 12
/-- the stands that a web shows -/
def shwS (m : Nat) (ts : List (Nat × Nat)) (sh : List Nat) : List (List Nat) := setL ((restsL m ts).map (seenF sh))
section
variable {G : GS} [HasF G 0 f0] [HasF G 1 f1] [HasF G 2 f2] [HasF G 3 f3] [HasF G 4 f4] [HasF G 5 f5] [HasF G 56 f56] [HasF G 6 f6] [HasF G 77 f77] [HasF G 8 f8] [HasF G 9 f9]
variable {n m p : Nat} {ts : List (Nat × Nat)} {sh : List Nat} {w l : M}
end

/-! stands within stands -/
def subB (a b : List Nat) : Bool := a.all fun x => decide (x ∈ b)
def winB (xss : List (List Nat)) (i j : Nat) : Bool := decide (i ≠ j) && subB (xss.getD i []) (xss.getD j [])
/-- all pairs of numbers of stands, the one within the other, ascending -/
def wL (xss : List (List Nat)) : List (Nat × Nat) := (List.range xss.length).flatMap fun i => ((List.range xss.length).filter (winB xss i)).map fun j => (i, j)
def withF (xss : List (List Nat)) : Option (Nat × Nat) := (wL xss).head?
def optP : Option (Nat × Nat) → D
  | none => .non
  | some p => P2 p
section
variable {G : GS} [HasF G 0 f0] [HasF G 1 f1] [HasF G 2 f2] [HasF G 3 f3] [HasF G 4 f4] [HasF G 5 f5] [HasF G 6 f6]
variable {n p : Nat} {xss : List (List Nat)} {l : M}
end

/-! lacks of lists -/
def majN (a b c : Nat) : Nat := (a &&& b) ||| (a &&& c) ||| (b &&& c)
def nevB (xss : List (List Nat)) (q : Nat) : Bool := xss.all fun r => decide (q ∉ r)
/-- no stand holds these bits -/
def outB (xss : List (List Nat)) (x : Nat) : Bool := xss.all fun r => decide (andN x (bm r) ≠ 0)
def majS (xss : List (List Nat)) (i j k : Nat) : Nat := majN (bm (xss.getD i [])) (bm (xss.getD j [])) (bm (xss.getD k []))
def lakB (xss : List (List Nat)) (i j k : Nat) : Bool := outB xss (majS xss i j k)
inductive Lk where
  | never (q : Nat) | three (i j k : Nat)
def lkD : Option Lk → D
  | none => .non
  | some (.never q) => .tup [.str "never", I q]
  | some (.three i j k) => .tup [.str "three", I i, I j, I k]
abbrev Tri := Nat × Nat × Nat
def trisL (n : Nat) : List Tri := (List.range n).flatMap fun i => ((List.range n).filter fun j => decide (i < j)).flatMap fun j => ((List.range n).filter fun k => decide (j < k)).map fun k => (i, j, k)
def TL3 (s t : Tri) : Prop := s.1 < t.1 ∨ (s.1 = t.1 ∧ (s.2.1 < t.2.1 ∨ (s.2.1 = t.2.1 ∧ s.2.2 < t.2.2)))
def lackF (p : Nat) (xss : List (List Nat)) : Option Lk := match (List.range p).find? (nevB xss) with
  | some q => some (.never q)
  | none => ((trisL xss.length).find? fun t => lakB xss t.1 t.2.1 t.2.2).map fun t => .three t.1 t.2.1 t.2.2
section
variable {G : GS} [HasF G 0 f0] [HasF G 1 f1] [HasF G 2 f2] [HasF G 3 f3] [HasF G 4 f4] [HasF G 5 f5] [HasF G 6 f6]
variable {n p : Nat} {xss : List (List Nat)} {l : M}
end

/-! a law's own looks at lacks; what is a lack; lists that webs show have none -/
def holdB (xss : List (List Nat)) (c : List Nat) : Bool := xss.any fun r => c.all fun x => decide (x ∈ r)
def majL (a b c : List Nat) : List Nat := lotOf (majN (bm a) (bm b) (bm c))
section
variable {G : GS}
variable {n p : Nat} {xss : List (List Nat)} {l : M}
end

/-! lists put side by side, seen at places; lacks of these: plain -/
theorem LsOk.lots {p : Nat} {xss : List (List Nat)} (ok : LsOk p xss) : Lots p xss := ⟨ll_nodup ok.up, ok.lot, ok.pos⟩
/-- no place of no stand, and what two of three stands have lies in a stand -/
structure NoLack (p : Nat) (xss : List (List Nat)) : Prop where
  all : ∀ q, q < p → ∃ r ∈ xss, q ∈ r
  maj : ∀ a ∈ xss, ∀ b ∈ xss, ∀ c ∈ xss, ∃ r ∈ xss, ∀ x, (x ∈ a ∧ x ∈ b) ∨ (x ∈ a ∧ x ∈ c) ∨ (x ∈ b ∧ x ∈ c) → x ∈ r
def sideS (p : Nat) (A B : List (List Nat)) : List (List Nat) := A.flatMap fun a => B.map fun b => catL p a b
theorem Lots.ok {p : Nat} {A : List (List Nat)} (h : Lots p A) (h64 : A.length ≤ 64) : LsOk p (setL A) := ⟨setL_up A, fun r hr => h.lot r (mem_setL.mp hr), setL_ne h.pos, Nat.le_trans (setL_len A) h64⟩
def offL (p q : Nat) : List Nat := (List.range q).map fun k => p + k
/-- seen twice -/
def atL (lot inner : List Nat) : List Nat := inner.map fun k => lot.getD k 0
def shBes (m : Nat) (sh s2 : List Nat) : List Nat := sh ++ s2.map fun x => x + m
/-! how many rests there are at most (Moon and Moser) -/
def mm (n : Nat) : Nat := if n < 2 then 1 else if n % 3 = 0 then 3 ^ (n / 3) else if n % 3 = 1 then 4 * 3 ^ (n / 3 - 1) else 2 * 3 ^ (n / 3)
structure Fam (R : Nat → Nat → Prop) (V : List Nat) (F : List (List Nat)) : Prop where
  nd : F.Nodup
  up : ∀ a ∈ F, a.Pairwise (· < ·)
  sub : ∀ a ∈ F, ∀ x ∈ a, x ∈ V
  max : ∀ a ∈ F, ∀ x ∈ V, x ∈ a ↔ ∀ y ∈ a, ¬ R x y
theorem least_in {f : Nat → Nat} : ∀ {V : List Nat}, V ≠ [] → ∃ v ∈ V, ∀ w ∈ V, f v ≤ f w
  | [], h => absurd rfl h
  | [a], _ => ⟨a, by simp, fun w hw => by rw [List.mem_singleton.mp hw]; exact Nat.le_refl _⟩
  | a :: b :: r, _ => by
    obtain ⟨v, hv, h⟩ := least_in (f := f) (V := b :: r) (by simp)
    by_cases q : f a ≤ f v
    · exact ⟨a, by simp, fun w hw => by
        rcases List.mem_cons.mp hw with z | z
        · rw [z]; exact Nat.le_refl _
        · exact Nat.le_trans q (h w z)⟩
    · exact ⟨v, List.mem_cons_of_mem _ hv, fun w hw => by
        rcases List.mem_cons.mp hw with z | z
        · rw [z]; omega
        · exact h w z⟩
/-! wide lists: their stands are the rests of their ties -/
theorem tl_nd {ts : List (Nat × Nat)} (h : ts.Pairwise TLt) : ts.Nodup := h.imp fun {a b} q e => by
  rw [e] at q
  rcases q with z | z <;> omega
structure Wd (p : Nat) (lots : List (List Nat)) (ps : List (Nat × Nat)) : Prop where
  nd : ps.Nodup
  lt : ∀ q ∈ ps, q.1 < q.2 ∧ q.2 < p
  mem : ∀ x, x ∈ lots ↔ x ∈ restsL p (sprP ps)
theorem Wd.ties {p : Nat} {lots : List (List Nat)} {ps : List (Nat × Nat)} (W : Wd p lots ps) : Ties p (sprP ps) := sprP_ties W.lt
def wdT (ns : List Nat) (ps : List (Nat × Nat)) : List (Nat × Nat) := (ps.map fun q => (min (ns.getD q.1 0) (ns.getD q.2 0), max (ns.getD q.1 0) (ns.getD q.2 0))).mergeSort fun a b => decide (a.1 < b.1 ∨ (a.1 = b.1 ∧ a.2 ≤ b.2))
section
variable {G : GS} [HasF G 0 f0] [HasF G 1 f1] [HasF G 2 f2] [HasF G 3 f3] [HasF G 4 f4] [HasF G 5 f5] [HasF G 56 f56] [HasF G 6 f6] [HasF G 77 f77] [HasF G 8 f8] [HasF G 9 f9]
variable {n p m k : Nat} {xs : List D}
end

/-! a law's pool of numbers (laws k77 to k93) -/
def Pool (xs : List D) : Prop := ∃ (gs qs : List Int) (c d : Int), xs = [.lst (gs.map .int), .lst (qs.map .int), .int c, .int d] ∧ 0 ≤ d
theorem cutI_len {xs : List Int} {lo hi : Option Int} : (cutI xs lo hi).length ≤ xs.length := by
  unfold cutI
  rw [List.length_take, List.length_drop]
  omega
theorem cut_tail {gs : List Int} : cutD (gs.map .int) (some 1) none = (cutI gs (some 1) none).map .int := by
  unfold cutD cutI
  rw [List.length_map, List.map_take, List.map_drop]
def deepD : Nat → D
  | 0 => .tup []
  | k + 1 => .tup [deepD k]
section
variable {G : GS} [HasF G 119 f119] [HasF G 120 f120] [HasF G 121 f121] [HasF G 124 f124]
variable {n : Nat}
theorem p_pool {ns : List Int} (hl : ns.length ≤ 63) : WC (callN G (n + 1) 119 [.v (.scr ns)]) fun m os => ∃ xs, m = .lst xs ∧ os = [.v (.scr ns)] ∧ Pool xs := by
  have hc := cutI_len (xs := ns) (lo := none) (hi := some 63)
  refine call_wp ⟨rfl, by decide⟩ ?_
  simp? only [f119, b119_0, isNonK, slc_s]
  refine lc_map (f := .int) (fun ds rs acc τ => (∃ gs : List Int, acc = gs.map .int) ∧ ∃ l1, τ = [some (.v (.scr ns)), l1, none, none]) ⟨⟨[], rfl⟩, none, rfl⟩ ?_ ?_
  · rintro ds x rs acc τ e hla ⟨⟨gs, rfl⟩, l1, rfl⟩
    have hds : ds.length ≤ ns.length := by
      have := congrArg List.length e
      rw [List.length_append] at this
      omega
    simp? only [wo_some]
    refine ⟨by decide, ?_⟩
    repeat' split
    all_goals first
      | exact ⟨show (gs.map D.int).length < 16777216 by omega, ⟨gs ++ [_], by rw [List.map_append, List.map_cons, List.map_nil]⟩, _, rfl⟩
      | exact ⟨⟨gs, rfl⟩, _, rfl⟩
  rintro acc τ ⟨⟨gs, rfl⟩, l1, rfl⟩
  simp? only [b119_1, isNonK, slc_s]
  refine lc_map (f := .int) (fun ds rs acc τ => (∃ qs : List Int, acc = qs.map .int) ∧ ∃ l1, τ = [some (.v (.scr ns)), l1, some (.lst (gs.map .int)), none]) ⟨⟨[], rfl⟩, _, rfl⟩ ?_ ?_
  · rintro ds x rs acc τ e hla ⟨⟨qs, rfl⟩, l1, rfl⟩
    have hds : ds.length ≤ ns.length := by
      have := congrArg List.length e
      rw [List.length_append] at this
      omega
    simp? only [wo_some]
    refine ⟨by decide, ?_⟩
    repeat' split
    all_goals first
      | exact ⟨by decide, show (qs.map D.int).length < 16777216 by omega, ⟨qs ++ [_], by rw [List.map_append, List.map_cons, List.map_nil]⟩, _, rfl⟩
      | exact ⟨⟨qs, rfl⟩, _, rfl⟩
  rintro acc τ ⟨⟨qs, rfl⟩, l1, rfl⟩
  simp? only [b119_2]
  exact ⟨by decide, _, rfl, gs, qs, 0, 0, rfl, by decide⟩
theorem p_draw0 {k : Int} {xs : List D} (ht : Pool xs) (hk : 0 < k) (hk2 : k < 1073741824) : WC (callN G (n + 1) 120 [.lst xs, .v (.int k)]) fun m os => ∃ i xs', m = .v (.int i) ∧ os = [.lst xs', .v (.int k)] ∧ 0 ≤ i ∧ i < k ∧ Pool xs' := by
  obtain ⟨gs, qs, c, d, rfl, hd⟩ := ht
  refine call_wp ⟨rfl, by decide⟩ ?_
  have dm : ∀ z : Int, 0 ≤ z % k ∧ z % k < k := fun z => ⟨Int.emod_nonneg _ (by omega), Int.emod_lt_of_pos _ hk⟩
  have mix : ∀ (gs : List Int) (c d z : Int) (w : Wh), 0 ≤ d → (∀ (i : Int) (gs : List Int) (c d : Int), 0 ≤ i → i < k → 0 ≤ d → ∀ l2 l3 l4, w.rt (.v (.int i)) [some (.lst [.lst (gs.map .int), .lst (qs.map .int), .int c, .int d]), some (.v (.int k)), l2, l3, l4]) →
      wpSs G (callN G n) [0, 1] b120_11 [some (.lst [.lst (gs.map .int), .lst (qs.map .int), .int c, .int d]), some (.v (.int k)), none, some (.v (.int z)), none] w := by
    intro gs c d z w hd hw
    simp? only [b120_11]
    refine ⟨.inl (by decide), .inr (by decide), by decide, ?_⟩
    generalize he : ((z + 7919 * d + 1) * 48271) % 2147483647 = f
    have e0 : 0 ≤ f := by omega
    have e1 : f < 2147483647 := by omega
    simp? only [b120_12]
    refine ⟨by decide, .inl (by omega), by decide, ?_⟩
    generalize hf : (f * (f / 1009 + 69621)) % 2147483647 = g
    have g0 : 0 ≤ g := by omega
    have g1 : g < 2147483647 := by omega
    simp? only [b120_13]
    refine ⟨by decide, .inl (by omega), by decide, ?_⟩
    simp? only [b120_14, hk]
    exact ⟨by decide, hw _ _ _ _ (dm _).1 (dm _).2 hd _ _ _⟩
  have fin : ∀ (gs : List Int) (c : Int) (w : Wh), (∀ (i : Int) (gs : List Int) (c d : Int), 0 ≤ i → i < k → 0 ≤ d → ∀ l2 l3 l4, w.rt (.v (.int i)) [some (.lst [.lst (gs.map .int), .lst (qs.map .int), .int c, .int d]), some (.v (.int k)), l2, l3, l4]) →
      wpSs G (callN G n) [0, 1] b120_3 [some (.lst [.lst (gs.map .int), .lst (qs.map .int), .int c, .int d]), some (.v (.int k)), none, none, none] w := by
    intro gs c w hw
    simp? only [b120_3]
    split
    · simp? only [b120_4, b120_5, b120_6, hk, hk2]
      exact hw _ _ _ _ (dm _).1 (dm _).2 hd _ _ _
    · simp? only [b120_7]
      simp? only [b120_8]
      simp? only [b120_9, List.length_map]
      split
      · rename_i hb
        have hm : 0 ≤ (d + 1) % (qs.length : Int) := Int.emod_nonneg _ (by omega)
        have hm2 : (d + 1) % (qs.length : Int) < qs.length := Int.emod_lt_of_pos _ hb
        simp? only [b120_10, List.length_map, ix_i hm hm2]
        exact ⟨hb, mix _ _ _ _ _ (by omega) hw⟩
      · exact mix _ _ _ _ _ (by omega) hw
  have rt : ∀ (gs qs : List Int) (c d i : Int), 0 ≤ i → i < k → 0 ≤ d → ∃ i' xs', M.v (.int i) = .v (.int i') ∧ [M.lst [.lst (gs.map .int), .lst (qs.map .int), .int c, .int d], .v (.int k)] = [.lst xs', .v (.int k)] ∧ 0 ≤ i' ∧ i' < k ∧ Pool xs' := fun gs qs c d i h1 h2 h3 => ⟨_, _, rfl, rfl, h1, h2, gs, qs, c, d, rfl, h3⟩
  simp? only [f120, b120_0, List.length_map]
  have go : ∀ (gs : List Int) (c : Int), wpSs G (callN G n) [0, 1] b120_3 [some (.lst [.lst (gs.map .int), .lst (qs.map .int), .int c, .int d]), some (.v (.int k)), none, none, none]
      { nx := fun τ => WO (outs [0, 1] 0 [.lst [.lst (gs.map .int), .lst (qs.map .int), .int c, .int d], .v (.int k)] τ) fun os => ∃ i xs', M.v .non = .v (.int i) ∧ os = [.lst xs', .v (.int k)] ∧ 0 ≤ i ∧ i < k ∧ Pool xs',
        rt := fun r τ => WO (outs [0, 1] 0 [.lst [.lst (gs.map .int), .lst (qs.map .int), .int c, .int d], .v (.int k)] τ) fun os => ∃ i xs', r = .v (.int i) ∧ os = [.lst xs', .v (.int k)] ∧ 0 ≤ i ∧ i < k ∧ Pool xs' } := fun gs c => fin gs c _ fun i gs c d h1 h2 h3 l2 l3 l4 => by
    simp? only [wo_some]
    exact rt _ _ _ _ _ h1 h2 h3
  split
  · split
    · rename_i hc ha
      simp? only [b120_1, ix_i (k := 0) (by decide) (show (0 : Int) < gs.length by omega)]
      simp? only [b120_2, isNonK, slt_l, slc_l, cut_tail]
      refine fin _ _ _ fun i gs c d h1 h2 h3 l2 l3 l4 => ?_
      simp? only [wo_some]
      exact rt _ _ _ _ _ h1 h2 h3
    · refine fin _ _ _ fun i gs c d h1 h2 h3 l2 l3 l4 => ?_
      simp? only [wo_some]
      exact rt _ _ _ _ _ h1 h2 h3
  · refine fin _ _ _ fun i gs c d h1 h2 h3 l2 l3 l4 => ?_
    simp? only [wo_some]
    exact rt _ _ _ _ _ h1 h2 h3
theorem p_draw {k : Nat} {xs : List D} (ht : Pool xs) (hk : 0 < k) (hk2 : k < 1073741824) : WC (callN G (n + 1) 120 [.lst xs, .v (I k)]) fun m os => ∃ (i : Nat) (xs' : List D), m = .v (I i) ∧ os = [.lst xs', .v (I k)] ∧ i < k ∧ Pool xs' :=
  (p_draw0 ht (show (0 : Int) < k by omega) (by omega)).mono fun m os h => by
    obtain ⟨i, xs', rfl, rfl, h0, h1, h⟩ := h
    refine ⟨i.toNat, _, ?_, rfl, by omega, h⟩
    show M.v (.int i) = M.v (.int ((i.toNat : Nat) : Int))
    rw [show ((i.toNat : Nat) : Int) = i by omega]
theorem p_drawL {z : Int} (k : Nat) {xs : List D} (e : z = (k : Int)) (ht : Pool xs) (hk : 0 < k) (hk2 : k < 1073741824) : WC (callN G (n + 1) 120 [.lst xs, .v (.int z)]) fun m os => ∃ (i : Nat) (xs' : List D), m = .v (I i) ∧ os = [.lst xs', .v (.int z)] ∧ i < k ∧ Pool xs' := by
  subst e
  exact p_draw ht hk hk2
theorem p_pick {xs ds : List D} (ht : Pool xs) (hd : 0 < ds.length) (hd2 : ds.length < 1073741824) : WC (callN G (n + 2) 121 [.lst xs, .v (.lst ds)]) fun m os => ∃ d ∈ ds, ∃ xs', m = .v d ∧ os = [.lst xs', .v (.lst ds)] ∧ Pool xs' := by
  refine call_wp ⟨rfl, by decide⟩ ?_
  simp? only [f121, b121_0, f120]
  refine WC.mono (p_draw ht hd hd2) ?_
  rintro _ _ ⟨i, xs', rfl, rfl, hi, ht⟩
  have e : idxD (.lst ds) (I i) = some ds[i] := L2.atI_nat (List.getElem?_eq_getElem hi)
  simp? only [e]
  exact ⟨_, List.getElem_mem hi, _, rfl, rfl, ht⟩
/-- ties as they are drawn: below (i, j) -/
structure Low (m : Nat) (ts : List (Nat × Nat)) (i j : Nat) : Prop where
  T : Ties m ts
  lt : ∀ p ∈ ts, p.1 < i ∨ (p.1 = i ∧ p.2 < j)
theorem Low.len {m i j : Nat} {ts : List (Nat × Nat)} (h : Low m ts i j) : ts.length ≤ m * m := ties_len h.T
theorem Low.next {m i j : Nat} {ts : List (Nat × Nat)} (h : Low m ts i j) : Low m ts (i + 1) 0 := ⟨h.T, fun p hp => by have := h.lt p hp; omega⟩
theorem Low.skip {m i j k : Nat} {ts : List (Nat × Nat)} (h : Low m ts i j) (hk : j ≤ k) : Low m ts i k := ⟨h.T, fun p hp => by have := h.lt p hp; omega⟩
theorem Low.put {m i j : Nat} {ts : List (Nat × Nat)} (h : Low m ts i j) (h1 : i < j) (h2 : j < m) : Low m (ts ++ [(i, j)]) i (j + 1) := ⟨⟨List.pairwise_append.mpr ⟨h.T.up, List.pairwise_singleton _ _, fun a ha b hb => by
    rw [List.mem_singleton.mp hb]
    exact h.lt a ha⟩, fun p hp => by
    rcases List.mem_append.mp hp with q | q
    · exact h.T.lt p q
    · rw [List.mem_singleton.mp q]; exact ⟨h1, h2⟩⟩, fun p hp => by
    rcases List.mem_append.mp hp with q | q
    · have := h.lt p q; omega
    · rw [List.mem_singleton.mp q]; simp⟩
theorem p_lot {m : Nat} {xs : List D} (ht : Pool xs) (hm : m < 1000000) : WC (callN G (n + 2) 124 [.lst xs, .v (I m)]) fun r os => ∃ (ns : List Nat) (xs' : List D), r = .v (L ns) ∧ ns.Pairwise (· < ·) ∧ (∀ x ∈ ns, x < m) ∧ os = [.lst xs', .v (I m)] ∧ Pool xs' := by
  refine call_wp ⟨rfl, by decide⟩ ?_
  simp? only [f124, b124_0]
  refine ⟨rng_ok (by omega) (by omega) (by omega) (by omega), ?_⟩
  rw [rng_map]
  refine lc_map (f := fun k : Nat => .int (k : Int)) (fun ds rs acc τ => ∃ xs ns, τ = [some (.lst xs), some (.v (I m)), none] ∧ Pool xs ∧ acc = ns.map I ∧ List.Sublist ns ds) ⟨xs, [], rfl, ht, rfl, .slnil⟩ ?_ ?_
  · rintro ds x rs acc τ e hl ⟨xs, ns, rfl, ht, rfl, hs⟩
    have hlen : ds.length ≤ m := by
      have := congrArg List.length e
      rw [List.length_range, List.length_append] at this
      omega
    simp? only [f120]
    refine WC.mono (p_drawL 2 rfl ht (by decide) (by decide)) ?_
    rintro _ _ ⟨i, xs', rfl, rfl, hi, ht⟩
    simp? only [wo_some]
    split
    · refine ⟨show _ < 16777216 by omega, xs', ns ++ [x], rfl, ht, by simp, hs.append (.refl _)⟩
    · exact ⟨xs', ns, rfl, ht, rfl, hs.trans (List.sublist_append_left _ _)⟩
  · rintro acc τ ⟨xs, ns, rfl, ht, rfl, hs⟩
    simp? only [wo_some]
    exact ⟨ns, xs, rfl, List.Pairwise.sublist hs List.pairwise_lt_range, fun x hx => by have := hs.subset hx; simpa using this, rfl, ht⟩
end

/-! @PLAIN nets (k77 to k83) -/
structure Arr (m : Nat) (gs : List (Nat × Nat)) : Prop where
  up : gs.Pairwise TLt
  lt : ∀ p ∈ gs, p.1 ≠ p.2 ∧ p.1 < m ∧ p.2 < m
def ontoF (gs : List (Nat × Nat)) (i : Nat) : Nat := gs.foldl (fun b p => if p.1 = i then b ||| 2 ^ p.2 else b) 0
def byF (gs : List (Nat × Nat)) (i : Nat) : Nat := gs.foldl (fun b p => if p.2 = i then b ||| 2 ^ p.1 else b) 0
section
variable {gs : List (Nat × Nat)} {i j m : Nat} {p : Nat × Nat}
theorem onto_snoc : ontoF (gs ++ [p]) i = if p.1 = i then ontoF gs i ||| 2 ^ p.2 else ontoF gs i := by
  unfold ontoF; rw [List.foldl_append]; rfl
theorem by_snoc : byF (gs ++ [p]) i = if p.2 = i then byF gs i ||| 2 ^ p.1 else byF gs i := by
  unfold byF; rw [List.foldl_append]; rfl
theorem onto_bit : (ontoF gs i).testBit j = true ↔ (i, j) ∈ gs := by
  induction gs using List.reverseRecOn' with
  | h0 => simp [ontoF]
  | h1 gs p ih =>
    rw [onto_snoc, List.mem_append, List.mem_singleton]
    split
    · rename_i e
      rw [Nat.testBit_or, Nat.testBit_two_pow, Bool.or_eq_true, ih, decide_eq_true_eq]
      subst e
      exact ⟨fun h => h.imp id fun z => by rw [← z], fun h => h.imp id fun z => by rw [← z]⟩
    · rename_i e
      rw [ih]
      exact ⟨.inl, fun h => h.resolve_right fun z => e (by rw [← z])⟩
theorem by_bit : (byF gs i).testBit j = true ↔ (j, i) ∈ gs := by
  induction gs using List.reverseRecOn' with
  | h0 => simp [byF]
  | h1 gs p ih =>
    rw [by_snoc, List.mem_append, List.mem_singleton]
    split
    · rename_i e
      rw [Nat.testBit_or, Nat.testBit_two_pow, Bool.or_eq_true, ih, decide_eq_true_eq]
      subst e
      exact ⟨fun h => h.imp id fun z => by rw [← z], fun h => h.imp id fun z => by rw [← z]⟩
    · rename_i e
      rw [ih]
      exact ⟨.inl, fun h => h.resolve_right fun z => e (by rw [← z])⟩
def ontoL (m : Nat) (gs : List (Nat × Nat)) : List D := (List.range m).map fun i => I (ontoF gs i)
def byL (m : Nat) (gs : List (Nat × Nat)) : List D := (List.range m).map fun i => I (byF gs i)
theorem ontoL_len : (ontoL m gs).length = m := by unfold ontoL; simp
theorem byL_len : (byL m gs).length = m := by unfold byL; simp
theorem ix_onto (h : i < m) : idxD (.lst (ontoL m gs)) (I i) = some (I (ontoF gs i)) := by
  refine L2.atI_nat ?_
  unfold ontoL
  simp [List.getElem?_map, List.getElem?_range h]
theorem ix_by (h : i < m) : idxD (.lst (byL m gs)) (I i) = some (I (byF gs i)) := by
  refine L2.atI_nat ?_
  unfold byL
  simp [List.getElem?_map, List.getElem?_range h]
theorem onto_step (h : p.1 < m) : (ontoL m gs).set p.1 (I (ontoF gs p.1 ||| 2 ^ p.2)) = ontoL m (gs ++ [p]) := by
  apply List.ext_getElem?
  intro k
  unfold ontoL
  simp only [List.getElem?_set, List.getElem?_map, List.length_map, List.length_range]
  by_cases hk : k < m
  · rw [List.getElem?_range hk]
    simp only [Option.map_some, onto_snoc]
    by_cases h1 : p.1 = k
    · subst h1
      rw [if_pos rfl, if_pos h, if_pos rfl]
    · rw [if_neg h1, if_neg h1]
  · rw [List.getElem?_eq_none (by simp; omega), if_neg (by omega)]
    simp
theorem by_step (h : p.2 < m) : (byL m gs).set p.2 (I (byF gs p.2 ||| 2 ^ p.1)) = byL m (gs ++ [p]) := by
  apply List.ext_getElem?
  intro k
  unfold byL
  simp only [List.getElem?_set, List.getElem?_map, List.length_map, List.length_range]
  by_cases hk : k < m
  · rw [List.getElem?_range hk]
    simp only [Option.map_some, by_snoc]
    by_cases h1 : p.2 = k
    · subst h1
      rw [if_pos rfl, if_pos h, if_pos rfl]
    · rw [if_neg h1, if_neg h1]
  · rw [List.getElem?_eq_none (by simp; omega), if_neg (by omega)]
    simp
theorem repO : (List.replicate ((m : Int)).toNat [D.int 0]).flatten = ontoL m [] := rep0
theorem repB : (List.replicate ((m : Int)).toNat [D.int 0]).flatten = byL m [] := rep0
/-- a net, held by its own -/
abbrev netM (m : Nat) (gs : List (Nat × Nat)) : M := .ins 5 [(0, .v (I m)), (40, .v (TS gs)), (2, .v (I (2 ^ m - 1))), (37, .lst (byL m gs)), (38, .lst (ontoL m gs))]
end
section
variable {G : GS} [HasF G 0 f0] [HasF G 1 f1] [HasF G 2 f2] [HasF G 3 f3] [HasF G 4 f4] [HasF G 414 f414] [HasF G 418 f418] [HasF G 419 f419] [HasF G 437 f437] [HasF G 5 f5] [HasF G 56 f56] [HasF G 6 f6]
variable {n m : Nat} {gs : List (Nat × Nat)}
theorem n_has (b p : Nat) : callN G (n + 1) 56 [.v (I b), .v (I p)] = some (.v (.bl (b.testBit p)), [.v (I b), .v (I p)]) := by
  refine wc_eq (call_wp ⟨rfl, by decide⟩ ?_)
  simp? only [f56, b56_0, b_and1]
  refine ⟨by omega, ?_⟩
  cases b.testBit p <;> rfl
/-- a way of an odd round, or none -/
def WayD (m : Nat) (d : D) : Prop := d = .non ∨ ∃ ns : List Nat, d = L ns ∧ (∀ x ∈ ns, x < m) ∧ ns.length ≤ 24
end

/-! repr of data: lots, lists of lots, numbers -/
mutual
/-- no strings, no dicts, numbers of up to twelve figures -/
def smP : PyData → Bool
  | .none => true
  | .bool _ => true
  | .int i => decide (-999999999999 ≤ i) && decide (i ≤ 999999999999)
  | .list xs => smPs xs
  | .tuple xs => smPs xs
  | .str _ => false
  | .dict _ => false
def smPs : List PyData → Bool
  | [] => true
  | x :: xs => smP x && smPs xs
end
def lowS (s : Str) : Prop := ∀ c ∈ s.cps.toList, c < 0x110000
theorem low_cat {a b : Str} (ha : lowS a) (hb : lowS b) : lowS (a ++ b) := fun c hc => by
  rw [PyProof.Rows.mem_cps_append] at hc
  exact hc.elim (ha c) (hb c)
theorem low_join {sep : Str} {ts : List Str} (hs : lowS sep) (ht : ∀ t ∈ ts, lowS t) : lowS (Str.join sep ts) := fun c hc => by
  rcases (PyProof.Rows.mem_join sep c ts).mp hc with ⟨t, h1, h2⟩ | ⟨_, h⟩
  · exact ht t h1 c h2
  · exact hs c h
theorem low_int (i : Int) : lowS (((toString i : String) : Str)) := fun c hc => by
  refine Decidable.byContradiction fun z => ?_
  exact PyProof.Rows.int_text_free' c ⟨by omega, .inr (by omega)⟩ i hc
theorem low_of {s : Str} (h : s.cps.toList.all (fun c => decide (c < 0x110000)) = true) : lowS s := fun c hc => of_decide_eq_true (List.all_eq_true.mp h c hc)
mutual
theorem sm_low : ∀ p : PyData, smP p = true → lowS p.shown
  | .none, _ => by rw [PyData.shown_none]; exact low_of (by decide +kernel)
  | .bool b, _ => by rw [PyData.shown_bool]; cases b <;> exact low_of (by decide +kernel)
  | .int i, _ => by rw [PyData.shown_int]; exact low_int i
  | .list xs, h => by
    rw [PyData.shown_list]
    exact low_cat (low_cat (low_of (by decide +kernel)) (low_join (low_of (by decide +kernel)) (sm_lows xs (by simpa only [smP] using h)))) (low_of (by decide +kernel))
  | .tuple xs, h => by
    rw [PyData.shown_tuple]
    refine low_cat (low_cat (low_of (by decide +kernel)) (low_join (low_of (by decide +kernel)) (sm_lows xs (by simpa only [smP] using h)))) ?_
    split <;> exact low_of (by decide +kernel)
  | .str _, h => by simp [smP] at h
  | .dict _, h => by simp [smP] at h
theorem sm_lows : ∀ xs : List PyData, smPs xs = true → ∀ t ∈ PyData.shownAll xs, lowS t
  | [], _, t, ht => by simp [PyData.shownAll] at ht
  | x :: xs, h, t, ht => by
    simp only [smPs, Bool.and_eq_true] at h
    simp only [PyData.shownAll, List.mem_cons] at ht
    rcases ht with rfl | ht
    · exact sm_low x h.1
    · exact sm_lows xs h.2 t ht
end
mutual
theorem sm_all : ∀ p : PyData, smP p = true → p.showable = true ∧ p.hasDict = false ∧ p.leavesShort 13 = true
  | .none, _ => ⟨by simp [PyData.showable], by simp [PyData.hasDict], by simp [PyData.leavesShort]⟩
  | .bool _, _ => ⟨by simp [PyData.showable], by simp [PyData.hasDict], by simp [PyData.leavesShort]⟩
  | .int i, h => by
    simp only [smP, Bool.and_eq_true, decide_eq_true_eq] at h
    refine ⟨?_, by simp [PyData.hasDict], ?_⟩
    · simp only [PyData.showable, decide_eq_true_eq]
      have : i.natAbs < 2 ^ 40 := by omega
      by_cases z : i.natAbs = 0
      · rw [z]; decide
      · have := (Nat.log2_lt z).mpr this
        omega
    · simp only [PyData.leavesShort, decide_eq_true_eq]
      exact PyData.shown_int_le2 h.1 h.2
  | .list xs, h => by
    have := sm_alls xs (by simpa only [smP] using h)
    simpa only [PyData.showable, PyData.hasDict, PyData.leavesShort] using this
  | .tuple xs, h => by
    have := sm_alls xs (by simpa only [smP] using h)
    simpa only [PyData.showable, PyData.hasDict, PyData.leavesShort] using this
  | .str _, h => by simp [smP] at h
  | .dict _, h => by simp [smP] at h
theorem sm_alls : ∀ xs : List PyData, smPs xs = true → PyData.showableAll xs = true ∧ PyData.hasDictAll xs = false ∧ PyData.leavesShortAll 13 xs = true
  | [], _ => ⟨by simp [PyData.showableAll], by simp [PyData.hasDictAll], by simp [PyData.leavesShortAll]⟩
  | x :: xs, h => by
    simp only [smPs, Bool.and_eq_true] at h
    obtain ⟨a1, a2, a3⟩ := sm_all x h.1
    obtain ⟨b1, b2, b3⟩ := sm_alls xs h.2
    simp only [PyData.showableAll, PyData.hasDictAll, PyData.leavesShortAll, a1, a2, a3, b1, b2, b3, Bool.and_self, Bool.or_self, and_self]
end
theorem okR_of {p : PyData} (s : smP p = true) (d : p.depth ≤ 60) (b : p.bulk ≤ 2 ^ 20) : Ev.okR p = true := by
  obtain ⟨h1, h2, h3⟩ := sm_all p s
  have h4 : p.shown.length ≤ SL := by rw [sl_eq]; exact PyData.shown_fits_bulk (by decide) (by decide) h3 b
  have key : (p.showable && !p.hasDict && decide (p.depth ≤ 60) && decide (p.shown.length ≤ SL)) = true := by
    rw [h1, h2, decide_eq_true d, decide_eq_true h4]; rfl
  cases p with
  | str _ => simp [smP] at s
  | _ => exact key
/-- the text of data -/
def shD (d : D) : Str := match toPy d with
  | some p => p.shown
  | none => ""
theorem rep_of {d : D} {p : PyData} (e : toPy d = some p) (s : smP p = true) (dp : p.depth ≤ 60) (b : p.bulk ≤ 2 ^ 20) : reprD d = some (.d (.str (shD d))) := by
  rw [repr_of e (okR_of s dp b)]
  unfold shD
  rw [e]
theorem eqS_of {d : D} {p : PyData} (e : toPy d = some p) (s : smP p = true) : eqD (.str (shD d)) (.str (shD d)) = some true := by
  refine eqD_self (p := .str (shD d)) (by simp only [toPy]) ?_
  have h := sm_low p s
  have e2 : shD d = p.shown := by unfold shD; rw [e]
  rw [e2]
  unfold SeqAt.shaped
  rw [Bool.and_eq_true]
  refine ⟨?_, by simp [PyData.depth]⟩
  simp only [PyData.canLay0, PyData.strOk]
  rw [Array.all_eq_true_iff_forall_mem]
  exact fun c hc => decide_eq_true (h c (by simpa using hc))
theorem smPs_map {α : Type} {f : α → PyData} : ∀ {xs : List α}, (∀ x ∈ xs, smP (f x) = true) → smPs (xs.map f) = true
  | [], _ => by simp [smPs]
  | x :: xs, h => by
    rw [List.map_cons]
    simp only [smPs, Bool.and_eq_true]
    exact ⟨h x (by simp), smPs_map fun y hy => h y (by simp [hy])⟩
theorem bulk_map {α : Type} {f : α → PyData} {k : Nat} : ∀ {xs : List α}, (∀ x ∈ xs, (f x).bulk ≤ k) → PyData.bulkAll (xs.map f) ≤ xs.length * (k + 1)
  | [], _ => by simp [PyData.bulkAll]
  | x :: xs, h => by
    rw [List.map_cons]
    simp only [PyData.bulkAll, List.length_cons]
    have h1 := h x (by simp)
    have h2 := bulk_map (f := f) (k := k) (xs := xs) fun y hy => h y (List.mem_cons_of_mem _ hy)
    have e : (xs.length + 1) * (k + 1) = xs.length * (k + 1) + (k + 1) := Nat.succ_mul _ _
    omega
theorem sm_I {x : Nat} (h : x ≤ 999999999999) : smP (gI x) = true := by
  show smP (.int (x : Int)) = true
  simp only [smP, Bool.and_eq_true, decide_eq_true_eq]
  omega
theorem sm_gL {ns : List Nat} (h : ∀ x ∈ ns, x ≤ 999999999999) : smP (gL ns) = true := by
  unfold gL
  simp only [smP]
  exact smPs_map fun x hx => sm_I (h x hx)
theorem bulk_gL {ns : List Nat} : (gL ns).bulk ≤ ns.length := by
  unfold gL
  simp only [PyData.bulk]
  have := bulk_map (f := gI) (k := 0) (xs := ns) fun x _ => by show (PyData.int x).bulk ≤ 0; simp [PyData.bulk]
  omega
/-- lots -/
theorem rep_L {ns : List Nat} (h : ∀ x ∈ ns, x ≤ 999999999999) (hl : ns.length ≤ 1000000) : reprD (L ns) = some (.d (.str (shD (L ns)))) := by
  have := dL ns
  have := bulk_gL (ns := ns)
  exact rep_of (toPy_L ns) (sm_gL h) (by omega) (by omega)
theorem eqS_L {ns : List Nat} (h : ∀ x ∈ ns, x ≤ 999999999999) : eqD (.str (shD (L ns))) (.str (shD (L ns))) = some true := eqS_of (toPy_L ns) (sm_gL h)
/-- lists of lots -/
theorem sm_LL {xss : List (List Nat)} (h : ∀ r ∈ xss, ∀ x ∈ r, x ≤ 999999999999) : smP (.list (xss.map gL)) = true := by
  simp only [smP]
  exact smPs_map fun r hr => sm_gL (h r hr)
theorem toPy_LL {xss : List (List Nat)} : toPy (.lst (xss.map L)) = some (.list (xss.map gL)) := by simp only [toPy, toPys_map toPy_L, Option.map_some]
theorem rep_LL {xss : List (List Nat)} {k : Nat} (h : ∀ r ∈ xss, ∀ x ∈ r, x ≤ 999999999999) (hk : ∀ r ∈ xss, r.length ≤ k) (hl : xss.length * (k + 1) ≤ 1000000) : reprD (.lst (xss.map L)) = some (.d (.str (shD (.lst (xss.map L))))) := by
  refine rep_of toPy_LL (sm_LL h) ?_ ?_
  · have := depth_map (n := 9) dL xss
    simp only [PyData.depth]; omega
  · simp only [PyData.bulk]
    have := bulk_map (f := gL) (k := k) (xs := xss) fun r hr => Nat.le_trans bulk_gL (hk r hr)
    omega
theorem eqS_LL {xss : List (List Nat)} (h : ∀ r ∈ xss, ∀ x ∈ r, x ≤ 999999999999) : eqD (.str (shD (.lst (xss.map L)))) (.str (shD (.lst (xss.map L)))) = some true := eqS_of toPy_LL (sm_LL h)

/-! logs of calls: stands, barred ties, choices -/
abbrev CF (c : Nat × Bool) : D := .tup [I c.1, .bl c.2]
abbrev LG (m : Nat) (ns : List Nat) (cs : List (Nat × Bool)) : D := .tup [I m, L ns, .tup (cs.map CF)]
/-- the stand in which a part tells so -/
def putS (ns : List Nat) (p : Nat) (b : Bool) : List Nat := if b = true then (ns.filter (· ≠ p) ++ [p]).mergeSort (fun a b => decide (a ≤ b)) else ns.filter (· ≠ p)
theorem mem_putS {ns : List Nat} {p i : Nat} {b : Bool} : i ∈ putS ns p b ↔ if i = p then b = true else i ∈ ns := by
  unfold putS
  cases b with
  | true =>
    rw [if_pos rfl, (List.mergeSort_perm _ _).mem_iff, List.mem_append, List.mem_filter, List.mem_singleton]
    by_cases e : i = p
    · simp [e]
    · simp [e]
  | false =>
    rw [if_neg (by simp), List.mem_filter]
    by_cases e : i = p
    · simp [e]
    · simp [e]
theorem putS_up {ns : List Nat} {p : Nat} {b : Bool} (h : ns.Pairwise (· < ·)) : (putS ns p b).Pairwise (· < ·) := by
  unfold putS
  split
  · have h1 := sorted_I (ns.filter (· ≠ p) ++ [p])
    have nd : (ns.filter (· ≠ p) ++ [p]).Nodup := List.nodup_append.mpr ⟨(up_nodup h).filter _, by simp, fun a ha c hc e => by
      rw [List.mem_singleton.mp hc] at e
      subst e
      simpa using (List.mem_filter.mp ha).2⟩
    have h2 := (List.mergeSort_perm (ns.filter (· ≠ p) ++ [p]) fun a b => decide (a ≤ b)).nodup_iff.mpr nd
    exact List.Pairwise.imp₂ (fun a b h1 h2 => by omega) h1 h2
  · exact h.filter _
theorem putS_lt {m : Nat} {ns : List Nat} {p : Nat} {b : Bool} (h : ∀ x ∈ ns, x < m) (hp : p < m) : ∀ x ∈ putS ns p b, x < m := fun x hx => by
  have := mem_putS.mp hx
  by_cases e : x = p
  · omega
  · rw [if_neg e] at this; exact h x this
abbrev cgt (cs : List (Nat × Bool)) (k : Nat) : Nat × Bool := cs.getD k (0, false)
/-- the stand ahead of call k -/
def stA (ns : List Nat) (cs : List (Nat × Bool)) (k : Nat) : List Nat := (cs.take k).foldl (fun s c => putS s c.1 c.2) ns
theorem stA_zero {ns : List Nat} {cs : List (Nat × Bool)} : stA ns cs 0 = ns := by unfold stA; simp
theorem stA_succ {ns : List Nat} {cs : List (Nat × Bool)} {k : Nat} (h : k < cs.length) : stA ns cs (k + 1) = putS (stA ns cs k) (cgt cs k).1 (cgt cs k).2 := by
  unfold stA
  have e : cs.take (k + 1) = cs.take k ++ [cgt cs k] := by
    rw [List.take_add_one, List.getElem?_eq_getElem h]
    simp [cgt, List.getD, List.getElem?_eq_getElem h]
  rw [e, List.foldl_append]; rfl
structure LogOk (m : Nat) (ns : List Nat) (cs : List (Nat × Bool)) : Prop where
  h1 : 1 ≤ m
  hm : m ≤ 12
  up : ns.Pairwise (· < ·)
  lt : ∀ x ∈ ns, x < m
  cl : ∀ c ∈ cs, c.1 < m
  len : cs.length ≤ 200
theorem LogOk.at {m : Nat} {ns : List Nat} {cs : List (Nat × Bool)} (O : LogOk m ns cs) {k : Nat} (h : k < cs.length) : (cgt cs k).1 < m := by
  refine O.cl _ ?_
  simp only [cgt, List.getD, List.getElem?_eq_getElem h, Option.getD_some]
  exact List.getElem_mem h
theorem LogOk.st {m : Nat} {ns : List Nat} {cs : List (Nat × Bool)} (O : LogOk m ns cs) : ∀ k, k ≤ cs.length → (stA ns cs k).Pairwise (· < ·) ∧ ∀ x ∈ stA ns cs k, x < m
  | 0, _ => by rw [stA_zero]; exact ⟨O.up, O.lt⟩
  | k + 1, h => by
    have ih := O.st k (by omega)
    rw [stA_succ (by omega)]
    exact ⟨putS_up ih.1, putS_lt ih.2 (O.at (by omega))⟩
def norP (a b : Nat) : Nat × Nat := (min a b, max a b)
/-- the parts of a stand but one -/
def butS (ns : List Nat) (p : Nat) : List Nat := ns.filter (· ≠ p)
/-- the pairs that are barred, by the calls ahead of one -/
def barP (ns : List Nat) (cs : List (Nat × Bool)) (k : Nat) : List (Nat × Nat) := (List.range k).flatMap fun j => if (cgt cs j).2 = true then (butS (stA ns cs j) (cgt cs j).1).map (norP (cgt cs j).1) else []
/-- the pairs of numbers below m whose bit is there -/
def bitP (m : Nat) (P : List (Nat × Nat)) (k : Nat) : List (Nat × Nat) := (List.range k).flatMap fun i => (((List.range (m - (i + 1))).map fun j => i + 1 + j).filter fun j => (nearF P i).testBit j).map fun j => (i, j)
/-- the calls that told no -/
def noK (cs : List (Nat × Bool)) (k : Nat) : List Nat := (List.range k).filter fun j => !(cgt cs j).2
/-- what a call has to choose from -/
def chL (P : List (Nat × Nat)) (ns : List Nat) (cs : List (Nat × Bool)) (k : Nat) : List Nat := (butS (stA ns cs k) (cgt cs k).1).filter fun o => decide (norP (cgt cs k).1 o ∉ P)
/-! logs of calls: the program's and the law's walks -/
section
variable {G : GS} [HasF G 0 f0] [HasF G 1 f1] [HasF G 2 f2] [HasF G 3 f3] [HasF G 4 f4] [HasF G 5 f5] [HasF G 56 f56] [HasF G 6 f6] [HasF G 8 f8] [HasF G 9 f9]
variable {n m : Nat} {ns : List Nat} {cs : List (Nat × Bool)} {ts P : List (Nat × Nat)}
/-- what the calls that told no have to choose from -/
def chD (P : List (Nat × Nat)) (ns : List Nat) (cs : List (Nat × Bool)) (k : Nat) : D := .tup [I k, I (cgt cs k).1, I (bm (chL P ns cs k))]
/-- what the law lists: a call that told no, the parts of its choice -/
abbrev chR (P : List (Nat × Nat)) (ns : List Nat) (cs : List (Nat × Bool)) (k : Nat) : D := .tup [I k, L (chL P ns cs k)]
/-- the first call that has nothing to choose from -/
def stuckF (ns : List Nat) (cs : List (Nat × Bool)) : Option Nat := (noK cs cs.length).find? fun k => decide (chL (barP ns cs cs.length) ns cs k = [])
def optI : Option Nat → D
  | none => .non
  | some k => I k
end

/-! logs: the law's own walks, a drawn log -/
section
variable {G : GS}
variable {n m : Nat} {ns : List Nat} {cs : List (Nat × Bool)} {ts P : List (Nat × Nat)}
theorem putS_eq {p : Nat} {b : Bool} : putS ns p b = if b = true then (butS ns p ++ [p]).mergeSort (fun a b => decide (a ≤ b)) else butS ns p := rfl
end

/-! arrows as they are drawn -/
section
variable {G : GS} [HasF G 119 f119] [HasF G 120 f120] [HasF G 121 f121] [HasF G 124 f124] [HasF G 427 f427]
variable {n m : Nat} {xs : List D}
theorem pick4 {d : D} (hd : d ∈ ([.int 2, .int 3, .int 3, .int 4] : List D)) : ∃ t : Nat, d = I t ∧ 0 < t ∧ t < 100 := by
  simp only [List.mem_cons, List.mem_nil_iff, or_false] at hd
  rcases hd with rfl | rfl | rfl | rfl
  · exact ⟨2, rfl, by decide, by decide⟩
  · exact ⟨3, rfl, by decide, by decide⟩
  · exact ⟨3, rfl, by decide, by decide⟩
  · exact ⟨4, rfl, by decide, by decide⟩
/-- arrows as they are drawn: below (i, j) -/
structure LowA (m : Nat) (ts : List (Nat × Nat)) (i j : Nat) : Prop where
  A : Arr m ts
  lt : ∀ p ∈ ts, p.1 < i ∨ (p.1 = i ∧ p.2 < j)
theorem LowA.len {i j : Nat} {ts : List (Nat × Nat)} (h : LowA m ts i j) : ts.length ≤ m * m := by
  have nd : (ts.map fun p => p.1 * m + p.2).Nodup := nodup_map_on (tl_nd h.A.up) fun a ha b hb e => by
    have h1 := h.A.lt a ha
    have h2 := h.A.lt b hb
    have e1 : a.1 = b.1 := by
      rcases Nat.lt_trichotomy a.1 b.1 with q | q | q
      · have : (a.1 + 1) * m ≤ b.1 * m := Nat.mul_le_mul_right m q
        rw [Nat.add_mul] at this
        omega
      · exact q
      · have : (b.1 + 1) * m ≤ a.1 * m := Nat.mul_le_mul_right m q
        rw [Nat.add_mul] at this
        omega
    rw [e1] at e
    exact Prod.ext e1 (by omega)
  have := nodup_len (ys := List.range (m * m)) nd fun x hx => by
    obtain ⟨p, hp, rfl⟩ := List.mem_map.mp hx
    have h1 := h.A.lt p hp
    have : (p.1 + 1) * m ≤ m * m := Nat.mul_le_mul_right m h1.2.1
    rw [Nat.add_mul] at this
    exact List.mem_range.mpr (by omega)
  rwa [List.length_map, List.length_range] at this
theorem LowA.next {i j : Nat} {ts : List (Nat × Nat)} (h : LowA m ts i j) : LowA m ts (i + 1) 0 := ⟨h.A, fun p hp => by have := h.lt p hp; omega⟩
theorem LowA.skip {i j k : Nat} {ts : List (Nat × Nat)} (h : LowA m ts i j) (hk : j ≤ k) : LowA m ts i k := ⟨h.A, fun p hp => by have := h.lt p hp; omega⟩
theorem LowA.put {i j : Nat} {ts : List (Nat × Nat)} (h : LowA m ts i j) (h0 : i ≠ j) (h1 : i < m) (h2 : j < m) : LowA m (ts ++ [(i, j)]) i (j + 1) := ⟨⟨List.pairwise_append.mpr ⟨h.A.up, List.pairwise_singleton _ _, fun a ha b hb => by
    rw [List.mem_singleton.mp hb]
    exact h.lt a ha⟩, fun p hp => by
    rcases List.mem_append.mp hp with q | q
    · exact h.A.lt p q
    · rw [List.mem_singleton.mp q]; exact ⟨h0, h1, h2⟩⟩, fun p hp => by
    rcases List.mem_append.mp hp with q | q
    · have := h.lt p q; omega
    · rw [List.mem_singleton.mp q]; simp⟩
theorem p_arrows (ht : Pool xs) (hm : m ≤ 24) : WC (callN G (n + 3) 427 [.lst xs, .v (I m)]) fun r os => ∃ (gs : List (Nat × Nat)) (xs' : List D), r = .v (TS gs) ∧ Arr m gs ∧ gs.length ≤ 576 ∧ os = [.lst xs', .v (I m)] ∧ Pool xs' := by
  have hmm : m * m ≤ 24 * 24 := Nat.mul_le_mul hm hm
  refine call_wp ⟨rfl, by decide⟩ ?_
  simp? only [f427, b427_0, f121]
  refine ⟨by decide, ?_⟩
  refine WC.mono (p_pick (n := n) (ds := [.int 2, .int 3, .int 3, .int 4]) ht (by decide) (by decide)) ?_
  rintro _ _ ⟨d, hd, xs, rfl, rfl, ht⟩
  obtain ⟨t, rfl, ht1, ht2⟩ := pick4 hd
  simp? only [b427_1, f120]
  refine WC.mono (p_drawL 4 rfl ht (by decide) (by decide)) ?_
  rintro _ _ ⟨z, xs, rfl, rfl, hz, ht⟩
  simp? only [b427_2]
  refine ⟨by decide, ?_⟩
  simp? only [b427_3]
  refine ⟨rng_ok (by omega) (by omega) (by omega) (by omega), ?_⟩
  refine for_rng (fun i τ => ∃ xs ps l5 l6 l7, τ = [some (.lst xs), some (.v (I m)), some (.v (I t)), some (.v (I z)), some (.lst (ps.map P2)), l5, l6, l7] ∧ Pool xs ∧ LowA m ps i 0) ⟨xs, [], none, none, none, rfl, ht, ⟨.nil, fun _ h => nomatch h⟩, fun _ h => nomatch h⟩ ?_ ?_
  · rintro i τ hi ⟨xs, ps, l5, l6, l7, rfl, ht, g⟩
    simp? only [wo_some]
    simp? only [b427_4]
    refine ⟨rng_ok (by omega) (by omega) (by omega) (by omega), ?_⟩
    refine for_rng (fun j τ => ∃ xs ps l6 l7, τ = [some (.lst xs), some (.v (I m)), some (.v (I t)), some (.v (I z)), some (.lst (ps.map P2)), some (.v (I i)), l6, l7] ∧ Pool xs ∧ LowA m ps i j) ⟨xs, ps, l6, l7, rfl, ht, g⟩ ?_ ?_
    · rintro j τ hj ⟨xs, ps, l6, l7, rfl, ht, g⟩
      have hpl := g.len
      have fin : ∀ (wb : T → Prop) (wr : M → T → Prop) (xs : List D) (b : Bool), Pool xs → (b = true → i ≠ j) → wpSs G (callN G (n + 2)) [0, 1] b427_6 [some (.lst xs), some (.v (I m)), some (.v (I t)), some (.v (I z)), some (.lst (ps.map P2)), some (.v (I i)), some (.v (I j)), some (.v (.bl b))]
          { nx := fun τ => ∃ xs ps l6 l7, τ = [some (.lst xs), some (.v (I m)), some (.v (I t)), some (.v (I z)), some (.lst (ps.map P2)), some (.v (I i)), l6, l7] ∧ Pool xs ∧ LowA m ps i (j + 1),
            ct := fun τ => ∃ xs ps l6 l7, τ = [some (.lst xs), some (.v (I m)), some (.v (I t)), some (.v (I z)), some (.lst (ps.map P2)), some (.v (I i)), l6, l7] ∧ Pool xs ∧ LowA m ps i (j + 1), bk := wb, rt := wr } := by
        intro wb wr xs b ht hb
        cases b with
        | false =>
          simp? only [b427_6]
          exact ⟨xs, ps, _, _, rfl, ht, g.skip (by omega)⟩
        | true =>
          simp? only [b427_6, f120]
          refine WC.mono (p_draw (n := n + 1) ht ht1 (by omega)) ?_
          rintro _ _ ⟨q, xs, rfl, rfl, hq, ht⟩
          simp? only [wo_some]
          split
          · simp? only [b427_7]
            refine ⟨by decide, by rw [List.length_map]; show _ < 16777216; omega, xs, ps ++ [(i, j)], some (.v (I j)), some (.v (.bl true)), ?_, ht, g.put (hb rfl) hi hj⟩
            rw [List.map_append]
            rfl
          · exact ⟨xs, ps, _, _, rfl, ht, g.skip (by omega)⟩
      simp? only [wo_some]
      simp? only [b427_5]
      by_cases h0 : (i : Int) = (j : Int)
      · simp? only [h0, decide_true]
        exact fin _ _ xs false ht fun h => by cases h
      · have hne : i ≠ j := fun e => h0 (by rw [e])
        have go : ∀ (wb : T → Prop) (wr : M → T → Prop) (b : Bool), wpSs G (callN G (n + 2)) [0, 1] b427_6 [some (.lst xs), some (.v (I m)), some (.v (I t)), some (.v (I z)), some (.lst (ps.map P2)), some (.v (I i)), some (.v (I j)), some (.v (.bl b))] _ := fun wb wr b => fin wb wr xs b ht fun _ => hne
        simp? only [h0, decide_false]
        repeat' split
        all_goals first
          | exact go _ _ _
          | exact ⟨by decide, go _ _ _⟩
    · rintro τ ⟨xs, ps, l6, l7, rfl, ht, g⟩
      exact ⟨_, _, _, _, _, rfl, ht, g.next⟩
  · rintro τ ⟨xs, ps, l5, l6, l7, rfl, ht, g⟩
    have := g.len
    simp? only [b427_8]
    exact ⟨_, _, rfl, g.A, by omega, rfl, ht⟩
end

/-! rounds of an odd number; nets without one have a rest -/
/-- walks of so many steps -/
def Wlk (gs : List (Nat × Nat)) : Nat → Nat → Nat → Prop
  | 0, a, b => a = b
  | k + 1, a, b => ∃ c, (a, c) ∈ gs ∧ Wlk gs k c b
theorem Wlk.trans {gs : List (Nat × Nat)} : ∀ {k l a b c : Nat}, Wlk gs k a b → Wlk gs l b c → Wlk gs (k + l) a c
  | 0, l, a, b, c, h1, h2 => by cases h1; rw [Nat.zero_add]; exact h2
  | k + 1, l, a, b, c, ⟨d, h, h1⟩, h2 => by
    rw [show k + 1 + l = (k + l) + 1 by omega]
    exact ⟨d, h, Wlk.trans h1 h2⟩
theorem Wlk.one {gs : List (Nat × Nat)} {a b : Nat} (h : (a, b) ∈ gs) : Wlk gs 1 a b := ⟨b, h, rfl⟩
/-- no part comes back to itself by an odd number of steps -/
def NoOdd (gs : List (Nat × Nat)) : Prop := ∀ k a, k % 2 = 1 → ¬ Wlk gs k a a
/-- walks within some parts -/
def WlkV (gs : List (Nat × Nat)) (V : List Nat) : Nat → Nat → Nat → Prop
  | 0, a, b => a = b ∧ a ∈ V
  | k + 1, a, b => a ∈ V ∧ ∃ c, (a, c) ∈ gs ∧ WlkV gs V k c b
theorem WlkV.wlk {gs : List (Nat × Nat)} {V : List Nat} : ∀ {k a b : Nat}, WlkV gs V k a b → Wlk gs k a b
  | 0, _, _, h => h.1
  | _ + 1, _, _, ⟨_, c, h1, h2⟩ => ⟨c, h1, h2.wlk⟩
theorem WlkV.src {gs : List (Nat × Nat)} {V : List Nat} : ∀ {k a b : Nat}, WlkV gs V k a b → a ∈ V
  | 0, _, _, h => h.2
  | _ + 1, _, _, h => h.1
theorem WlkV.trans {gs : List (Nat × Nat)} {V : List Nat} : ∀ {k l a b c : Nat}, WlkV gs V k a b → WlkV gs V l b c → WlkV gs V (k + l) a c
  | 0, l, a, b, c, h1, h2 => by obtain ⟨rfl, _⟩ := h1; rw [Nat.zero_add]; exact h2
  | k + 1, l, a, b, c, ⟨ha, d, h, h1⟩, h2 => by
    rw [show k + 1 + l = (k + l) + 1 by omega]
    exact ⟨ha, d, h, WlkV.trans h1 h2⟩
theorem WlkV.last {gs : List (Nat × Nat)} {V : List Nat} : ∀ {k a b : Nat}, WlkV gs V (k + 1) a b → ∃ c, WlkV gs V k a c ∧ (c, b) ∈ gs ∧ b ∈ V
  | 0, a, b, ⟨ha, c, h1, h2⟩ => ⟨a, (show a = a ∧ a ∈ V from ⟨rfl, ha⟩), by rw [← h2.1]; exact h1, by rw [← h2.1]; exact h2.2⟩
  | k + 1, a, b, ⟨ha, c, h1, h2⟩ => by
    obtain ⟨d, h3, h4⟩ := h2.last
    exact ⟨d, ⟨ha, c, h1, h3⟩, h4⟩
/-- Richardson: without an odd walk back there is a rest of any parts -/
theorem kernel {gs : List (Nat × Nat)} (no : NoOdd gs) : ∀ (N : Nat) (V : List Nat), V.length ≤ N → ∃ K : List Nat, (∀ x ∈ K, x ∈ V) ∧ ∀ p ∈ V, p ∈ K ↔ ∀ q ∈ K, (q, p) ∉ gs := by
  classical
  intro N
  induction N with
  | zero =>
    intro V h
    have : V = [] := List.eq_nil_of_length_eq_zero (by omega)
    subst this
    exact ⟨[], fun x h => (by cases h), fun p h => (by cases h)⟩
  | succ N ih =>
    intro V hV
    by_cases h0 : V = []
    · subst h0
      exact ⟨[], fun x h => (by cases h), fun p h => (by cases h)⟩
    -- those that lead to a part
    let R : Nat → Nat → Prop := fun q p => ∃ k, WlkV gs V k q p
    let anc : Nat → List Nat := fun p => V.filter fun q => decide (R q p)
    have manc : ∀ {p q}, q ∈ anc p ↔ q ∈ V ∧ R q p := fun {p q} => by
      show q ∈ V.filter _ ↔ _
      rw [List.mem_filter, decide_eq_true_eq]
    obtain ⟨p0, hp0, least⟩ := least_in (f := fun p => (anc p).length) h0
    have self : p0 ∈ anc p0 := manc.mpr ⟨hp0, 0, rfl, hp0⟩
    -- they hang together both ways
    have back : ∀ q ∈ anc p0, R p0 q := fun q hq => by
      have hq' := manc.mp hq
      have hmono : ∀ x ∈ V, decide (R x q) = true → decide (R x p0) = true := fun x _ hx => by
        rw [decide_eq_true_eq] at hx ⊢
        obtain ⟨k, hk⟩ := hx
        obtain ⟨l, hl⟩ := hq'.2
        exact ⟨k + l, hk.trans hl⟩
      refine Classical.byContradiction fun n => ?_
      have lt := filter_lt (P := fun x => decide (R x q)) (Q := fun x => decide (R x p0)) (xs := V) hmono ⟨p0, hp0, decide_eq_true (manc.mp self).2, decide_eq_false n⟩
      have := least q hq'.1
      have e1 : (anc q).length = (V.filter fun x => decide (R x q)).length := rfl
      have e2 : (anc p0).length = (V.filter fun x => decide (R x p0)).length := rfl
      simp only [e1, e2] at this
      omega
    let ev : Nat → Prop := fun q => ∃ k, k % 2 = 0 ∧ WlkV gs V k q p0
    have evV : ∀ q, ev q → q ∈ anc p0 := fun q ⟨k, _, h⟩ => manc.mpr ⟨h.src, k, h⟩
    -- two of one colour silence one another not
    have free : ∀ a b, ev a → ev b → (a, b) ∉ gs := fun a b ha hb h => by
      obtain ⟨k, k2, hk⟩ := ha
      obtain ⟨l, l2, hl⟩ := hb
      obtain ⟨r, hr⟩ := back a (evV a ⟨k, k2, hk⟩)
      have w1 : Wlk gs (r + k) p0 p0 := hr.wlk.trans hk.wlk
      have w2 : Wlk gs (r + (1 + l)) p0 p0 := hr.wlk.trans ((Wlk.one h).trans hl.wlk)
      by_cases z : r % 2 = 1
      · exact no _ _ (by omega) w1
      · exact no _ _ (by omega) w2
    have cov : ∀ q, q ∈ anc p0 → ¬ ev q → ∃ r, ev r ∧ (r, q) ∈ gs := fun q hq nq => by
      obtain ⟨hqV, k, hk⟩ := manc.mp hq
      obtain ⟨l, hl⟩ := back q hq
      cases l with
      | zero =>
        obtain ⟨rfl, _⟩ := hl
        exact absurd ⟨0, rfl, rfl, hp0⟩ nq
      | succ l =>
        obtain ⟨r, h1, h2, _⟩ := hl.last
        have hr : r ∈ V := by
          cases l with
          | zero => obtain ⟨rfl, h⟩ := h1; exact h
          | succ l => obtain ⟨_, _, _, h⟩ := h1.last; exact h
        refine ⟨r, ⟨k + 1, ?_, hr, q, h2, hk⟩, h2⟩
        have : k % 2 ≠ 0 := fun z => nq ⟨k, z, hk⟩
        omega
    let K0 := V.filter fun q => decide (ev q)
    have mK0 : ∀ {q}, q ∈ K0 ↔ ev q := fun {q} => by
      show q ∈ V.filter _ ↔ _
      rw [List.mem_filter, decide_eq_true_eq]
      exact ⟨fun h => h.2, fun h => ⟨(manc.mp (evV q h)).1, h⟩⟩
    let V' := V.filter fun p => decide (p ∉ K0 ∧ ∀ q ∈ K0, (q, p) ∉ gs)
    have mV' : ∀ {p}, p ∈ V' ↔ p ∈ V ∧ p ∉ K0 ∧ ∀ q ∈ K0, (q, p) ∉ gs := fun {p} => by
      show p ∈ V.filter _ ↔ _
      rw [List.mem_filter, decide_eq_true_eq]
    have e0 : p0 ∈ K0 := mK0.mpr ⟨0, rfl, rfl, hp0⟩
    have lt : V'.length < V.length := by
      have := filter_lt (P := fun p => decide (p ∉ K0 ∧ ∀ q ∈ K0, (q, p) ∉ gs)) (Q := fun _ => true) (xs := V) (fun x _ _ => rfl) ⟨p0, hp0, rfl, decide_eq_false fun z => z.1 e0⟩
      rw [List.filter_eq_self.mpr (fun _ _ => rfl)] at this
      exact this
    obtain ⟨K', s', hK'⟩ := ih V' (by omega)
    refine ⟨K0 ++ K', fun x hx => ?_, fun p hp => ?_⟩
    · rcases List.mem_append.mp hx with z | z
      · exact (manc.mp (evV x (mK0.mp z))).1
      · exact (mV'.mp (s' x z)).1
    · constructor
      · intro h q hq hg
        rcases List.mem_append.mp h with z | z <;> rcases List.mem_append.mp hq with y | y
        · exact free q p (mK0.mp y) (mK0.mp z) hg
        · have hqV := mV'.mp (s' q y)
          have hp' := manc.mp (evV p (mK0.mp z))
          obtain ⟨k, hk⟩ := hp'.2
          have hqa : q ∈ anc p0 := manc.mpr ⟨hqV.1, k + 1, hqV.1, p, hg, hk⟩
          obtain ⟨r, h1, h2⟩ := cov q hqa fun e => hqV.2.1 (mK0.mpr e)
          exact hqV.2.2 r (mK0.mpr h1) h2
        · exact (mV'.mp (s' p z)).2.2 q y hg
        · exact (hK' p (s' p z)).mp z q y hg
      · intro h
        refine Classical.byContradiction fun n => ?_
        have n1 : p ∉ K0 := fun z => n (List.mem_append_left _ z)
        have n2 : p ∉ K' := fun z => n (List.mem_append_right _ z)
        have hp' : p ∈ V' := mV'.mpr ⟨hp, n1, fun q hq => h q (List.mem_append_left _ hq)⟩
        exact n2 ((hK' p hp').mpr fun q hq => h q (List.mem_append_right _ hq))
/-! a walk back of an odd number of steps holds a round of unlike parts -/
structure Clo (gs : List (Nat × Nat)) (n : Nat) (f : Nat → Nat) : Prop where
  pos : 0 < n
  st : ∀ k, k < n → (f k, f (k + 1)) ∈ gs
  cl : f n = f 0
theorem wlk_fun {gs : List (Nat × Nat)} : ∀ {k a b : Nat}, Wlk gs k a b → ∃ f : Nat → Nat, f 0 = a ∧ f k = b ∧ ∀ i, i < k → (f i, f (i + 1)) ∈ gs
  | 0, a, b, h => ⟨fun _ => a, rfl, h, fun i hi => absurd hi (Nat.not_lt_zero _)⟩
  | k + 1, a, b, ⟨c, h1, h2⟩ => by
    obtain ⟨f, f0, fk, fs⟩ := wlk_fun h2
    refine ⟨fun i => if i = 0 then a else f (i - 1), rfl, ?_, fun i hi => ?_⟩
    · simp only [Nat.add_sub_cancel]
      rw [if_neg (by omega)]
      exact fk
    · cases i with
      | zero =>
        simp only [Nat.zero_add, Nat.sub_self, if_true]
        rw [if_neg (by omega), f0]; exact h1
      | succ i =>
        simp only [Nat.add_sub_cancel]
        rw [if_neg (by omega), if_neg (by omega)]
        exact fs i (by omega)
theorem clo_short {gs : List (Nat × Nat)} : ∀ (N n : Nat) (f : Nat → Nat), n ≤ N → n % 2 = 1 → Clo gs n f → ∃ n' f', n' % 2 = 1 ∧ Clo gs n' f' ∧ ∀ i j, i < n' → j < n' → f' i = f' j → i = j := by
  intro N
  induction N with
  | zero => intro n f h1 h2 _; omega
  | succ N ih =>
    intro n f h1 h2 C
    by_cases h : ∀ i j, i < n → j < n → f i = f j → i = j
    · exact ⟨n, f, h2, C, h⟩
    · obtain ⟨i, j, hij, hj, e⟩ : ∃ i j, i < j ∧ j < n ∧ f i = f j := by
        refine Classical.byContradiction fun no => h fun i j hi hj e => ?_
        rcases Nat.lt_trichotomy i j with q | q | q
        · exact absurd ⟨i, j, q, hj, e⟩ no
        · exact q
        · exact absurd ⟨j, i, q, hi, e.symm⟩ no
      by_cases p : (j - i) % 2 = 1
      · refine ih (j - i) (fun k => f (i + k)) (by omega) p ⟨by omega, fun k hk => C.st (i + k) (by omega), ?_⟩
        show f (i + (j - i)) = f (i + 0)
        rw [show i + (j - i) = j by omega, Nat.add_zero, e]
      · refine ih (n - (j - i)) (fun k => if k ≤ i then f k else f (k + (j - i))) (by omega) (by omega) ⟨by omega, fun k hk => ?_, ?_⟩
        · show (if k ≤ i then f k else f (k + (j - i)), if k + 1 ≤ i then f (k + 1) else f (k + 1 + (j - i))) ∈ gs
          rcases Nat.lt_trichotomy k i with q | q | q
          · rw [if_pos (by omega), if_pos (by omega)]
            exact C.st k (by omega)
          · rw [if_pos (by omega), if_neg (by omega), q, e, show i + 1 + (j - i) = j + 1 by omega]
            exact C.st j hj
          · rw [if_neg (by omega), if_neg (by omega), show k + 1 + (j - i) = k + (j - i) + 1 by omega]
            exact C.st _ (by omega)
        · show (if n - (j - i) ≤ i then f (n - (j - i)) else f (n - (j - i) + (j - i))) = if 0 ≤ i then f 0 else _
          rw [if_neg (by omega), if_pos (by omega), show n - (j - i) + (j - i) = n by omega, C.cl]
/-- .. which begins at its least part -/
theorem clo_least {gs : List (Nat × Nat)} {n : Nat} {f : Nat → Nat} (C : Clo gs n f) (inj : ∀ i j, i < n → j < n → f i = f j → i = j) : ∃ f', Clo gs n f' ∧ (∀ i j, i < n → j < n → f' i = f' j → i = j) ∧ ∀ i, 0 < i → i < n → f' 0 < f' i := by
  have hn := C.pos
  have md : ∀ k, k % n < n := fun k => Nat.mod_lt _ hn
  obtain ⟨v, hv, least⟩ := least_in (f := f) (V := List.range n) (by simp; omega)
  have hvn := List.mem_range.mp hv
  have st : ∀ k, (f (k % n), f ((k + 1) % n)) ∈ gs := fun k => by
    have h1 := C.st (k % n) (md k)
    by_cases q : k % n + 1 < n
    · have e : (k + 1) % n = k % n + 1 := by rw [← Nat.mod_add_mod, Nat.mod_eq_of_lt q]
      rw [e]; exact h1
    · have e : k % n + 1 = n := by have := md k; omega
      have e2 : (k + 1) % n = 0 := by rw [← Nat.mod_add_mod, e, Nat.mod_self]
      rw [e, C.cl] at h1
      rw [e2]; exact h1
  have inj2 : ∀ i j, i < n → j < n → f ((v + i) % n) = f ((v + j) % n) → i = j := fun i j hi hj e => by
    have h1 := inj _ _ (md _) (md _) e
    have a1 := Nat.div_add_mod (v + i) n
    have a2 := Nat.div_add_mod (v + j) n
    by_cases p1 : v + i < n <;> by_cases p2 : v + j < n
    · rw [Nat.mod_eq_of_lt p1, Nat.mod_eq_of_lt p2] at h1; omega
    · rw [Nat.mod_eq_of_lt p1, Nat.mod_eq_sub_mod (by omega), Nat.mod_eq_of_lt (by omega)] at h1; omega
    · rw [Nat.mod_eq_of_lt p2, Nat.mod_eq_sub_mod (by omega), Nat.mod_eq_of_lt (by omega)] at h1; omega
    · rw [Nat.mod_eq_sub_mod (by omega), Nat.mod_eq_of_lt (by omega), Nat.mod_eq_sub_mod (a := v + j) (by omega), Nat.mod_eq_of_lt (by omega)] at h1; omega
  refine ⟨fun i => f ((v + i) % n), ⟨hn, fun k _ => st (v + k), ?_⟩, inj2, fun i hi hin => ?_⟩
  · show f ((v + n) % n) = f ((v + 0) % n)
    rw [Nat.add_mod_right, Nat.add_zero]
  · show f ((v + 0) % n) < f ((v + i) % n)
    have h1 := least ((v + i) % n) (List.mem_range.mpr (md _))
    have h2 : f ((v + 0) % n) = f v := by rw [Nat.add_zero, Nat.mod_eq_of_lt hvn]
    rcases Nat.lt_or_ge (f ((v + 0) % n)) (f ((v + i) % n)) with q | q
    · exact q
    · have : f ((v + i) % n) = f ((v + 0) % n) := by omega
      have := inj2 i 0 hin hn this
      omega
/-! the search for a round -/
def rfF (m : Nat) (gs : List (Nat × Nat)) (a : Nat) : Nat → List Nat → Option (List Nat)
  | 0, _ => none
  | k + 1, ns => if ns.length % 2 = 1 ∧ (ns.getLastD 0, a) ∈ gs then some ns else ((List.range m).filter fun q => decide ((ns.getLastD 0, q) ∈ gs ∧ q ∉ ns)).findSome? fun q => if a < q then rfF m gs a k (ns ++ [q]) else none
def odF (m : Nat) (gs : List (Nat × Nat)) : Option (List Nat) := (List.range m).findSome? fun a => rfF m gs a m [a]
/-- a way: unlike parts, each of which silences the next, none but the first as little as it -/
structure Way (m : Nat) (gs : List (Nat × Nat)) (a : Nat) (ns : List Nat) : Prop where
  nd : ns.Nodup
  lt : ∀ x ∈ ns, x < m
  st : ∀ i, i + 1 < ns.length → (ns.getD i 0, ns.getD (i + 1) 0) ∈ gs
  hd : ns.head? = some a
theorem getD_app {ns : List Nat} {q i : Nat} (h : i < ns.length) : (ns ++ [q]).getD i 0 = ns.getD i 0 := by
  simp [List.getD, List.getElem?_append_left h]
theorem getD_end {ns : List Nat} {q : Nat} : (ns ++ [q]).getD ns.length 0 = q := by
  simp [List.getD]
theorem lastD {ns : List Nat} (h : ns ≠ []) : ns.getLastD 0 = ns.getD (ns.length - 1) 0 := by
  obtain ⟨xs, x, rfl⟩ : ∃ xs x, ns = xs ++ [x] := ⟨ns.dropLast, ns.getLast h, (List.dropLast_concat_getLast h).symm⟩
  rw [List.length_append, List.length_singleton, Nat.add_sub_cancel, getD_end]
  exact List.getLastD_concat ..
theorem Way.ne {m a : Nat} {gs : List (Nat × Nat)} {ns : List Nat} (W : Way m gs a ns) : ns ≠ [] := fun e => by have := W.hd; rw [e] at this; cases this
theorem Way.put {m a q : Nat} {gs : List (Nat × Nat)} {ns : List Nat} (W : Way m gs a ns) (hq : q < m) (h1 : (ns.getLastD 0, q) ∈ gs) (h2 : q ∉ ns) : Way m gs a (ns ++ [q]) := by
  have hne := W.ne
  have hpos : 0 < ns.length := List.length_pos_iff.mpr hne
  refine ⟨List.nodup_append.mpr ⟨W.nd, by simp, fun x hx y hy e => ?_⟩, fun x hx => ?_, fun i hi => ?_, ?_⟩
  · rw [List.mem_singleton.mp hy] at e; subst e; exact h2 hx
  · rcases List.mem_append.mp hx with z | z
    · exact W.lt x z
    · rw [List.mem_singleton.mp z]; exact hq
  · rw [List.length_append, List.length_singleton] at hi
    by_cases z : i + 1 < ns.length
    · rw [getD_app (by omega), getD_app z]; exact W.st i z
    · have e : i + 1 = ns.length := by omega
      rw [getD_app (by omega), e, getD_end]
      rw [lastD hne, show ns.length - 1 = i by omega] at h1
      exact h1
  · cases ns with
    | nil => exact absurd rfl hne
    | cons x r => exact W.hd
theorem find_none {α β : Type} {f : α → Option β} {xs : List α} : xs.findSome? f = none ↔ ∀ x ∈ xs, f x = none := List.findSome?_eq_none_iff
/-- where nothing is found there is none -/
theorem rf_none {m a : Nat} {gs : List (Nat × Nat)} : ∀ (k : Nat) {ns w : List Nat}, Way m gs a ns → ns.length + k = m + 1 → rfF m gs a k ns = none → Way m gs a w → (∀ i, 0 < i → i < w.length → a < w.getD i 0) → ns <+: w → w.length % 2 = 1 → (w.getLastD 0, a) ∉ gs
  | 0, ns, w, W, hk, h, W', hm, hp, ho => by
    exfalso
    have h1 : ns.length ≤ (List.range m).length := nodup_le W.nd fun x hx => List.mem_range.mpr (W.lt x hx)
    rw [List.length_range] at h1
    omega
  | k + 1, ns, w, W, hk, h, W', hm, hp, ho => by
    unfold rfF at h
    split at h
    · cases h
    · rename_i c
      obtain ⟨r, rfl⟩ := hp
      cases r with
      | nil =>
        rw [List.append_nil] at ho ⊢
        exact fun z => c ⟨ho, z⟩
      | cons q r =>
        have hne := W.ne
        have hpos : 0 < ns.length := List.length_pos_iff.mpr hne
        have ea : ns ++ q :: r = (ns ++ [q]) ++ r := by simp
        have hqd : (ns ++ q :: r).getD ns.length 0 = q := by simp [List.getD]
        have hq : q < m := W'.lt q (by simp)
        have hs := W'.st (ns.length - 1) (by rw [List.length_append, List.length_cons]; omega)
        rw [show ns.length - 1 + 1 = ns.length by omega, hqd] at hs
        have e2 : (ns ++ q :: r).getD (ns.length - 1) 0 = ns.getLastD 0 := by
          rw [lastD hne]
          simp [List.getD, List.getElem?_append_left (show ns.length - 1 < ns.length by omega)]
        rw [e2] at hs
        have hnq : q ∉ ns := fun z => by
          have := W'.nd
          rw [List.nodup_append] at this
          exact this.2.2 q z q (by simp) rfl
        have haq : a < q := by
          have := hm ns.length hpos (by rw [List.length_append, List.length_cons]; omega)
          rwa [hqd] at this
        have hn := find_none.mp h q (List.mem_filter.mpr ⟨List.mem_range.mpr hq, decide_eq_true ⟨hs, hnq⟩⟩)
        rw [if_pos haq] at hn
        refine rf_none k (W.put hq hs hnq) (by rw [List.length_append, List.length_singleton]; omega) hn W' hm ?_ ho
        rw [ea]
        exact List.prefix_append _ _
theorem od_none {m : Nat} {gs : List (Nat × Nat)} (A : ∀ p ∈ gs, p.1 < m ∧ p.2 < m) (h : odF m gs = none) : NoOdd gs := by
  intro k a hk w
  obtain ⟨f, f0, fk, fs⟩ := wlk_fun w
  obtain ⟨n, g, hn, C, inj⟩ := clo_short k k f (Nat.le_refl _) hk ⟨by omega, fs, by rw [f0, fk]⟩
  obtain ⟨g, C, inj, least⟩ := clo_least C inj
  have hpos := C.pos
  have hlt : ∀ i, i < n → g i < m := fun i hi => (A _ (C.st i hi)).1
  have gd : ∀ i, i < n → ((List.range n).map g).getD i 0 = g i := fun i hi => by simp [List.getD, List.getElem?_range hi]
  have hlen : ((List.range n).map g).length = n := by rw [List.length_map, List.length_range]
  have W : Way m gs (g 0) ((List.range n).map g) := by
    refine ⟨?_, fun x hx => ?_, fun i hi => ?_, ?_⟩
    · refine nodup_map_on List.nodup_range fun x hx y hy e => ?_
      exact inj x y (List.mem_range.mp hx) (List.mem_range.mp hy) e
    · obtain ⟨i, hi, rfl⟩ := List.mem_map.mp hx
      exact hlt i (List.mem_range.mp hi)
    · rw [hlen] at hi
      rw [gd i (by omega), gd (i + 1) hi]
      exact C.st i (by omega)
    · cases n with
      | zero => omega
      | succ n => rw [List.range_succ_eq_map]; rfl
  have W0 : Way m gs (g 0) [g 0] := ⟨by simp, fun x hx => by rw [List.mem_singleton.mp hx]; exact hlt 0 hpos, fun i hi => by simp at hi, rfl⟩
  have e := find_none.mp h (g 0) (List.mem_range.mpr (hlt 0 hpos))
  refine rf_none m W0 (by simp; omega) e W (fun i h1 h2 => ?_) ?_ (by rw [hlen]; exact hn) ?_
  · rw [hlen] at h2
    rw [gd i h2]
    exact least i h1 h2
  · cases n with
    | zero => omega
    | succ n =>
      rw [List.range_succ_eq_map, List.map_cons]
      exact ⟨_, rfl⟩
  · rw [lastD (by rw [ne_eq, ← List.length_eq_zero_iff, hlen]; omega), hlen, gd _ (by omega)]
    have := C.st (n - 1) (by omega)
    rw [show n - 1 + 1 = n by omega, C.cl] at this
    exact this
/-! nets: rounds told, calls, rests -/
def wyD : Option (List Nat) → D
  | none => .non
  | some w => L w
/-- the stand of a net behind a call -/
def nbF (gs : List (Nat × Nat)) (b p : Nat) : Nat := if byF gs p &&& b = 0 then b ||| 2 ^ p else andN b (2 ^ p)
def stlN (m : Nat) (gs : List (Nat × Nat)) (b : Nat) : Bool := decide (∀ p, p < m → nbF gs b p = b)
theorem by_zero {gs : List (Nat × Nat)} {b p : Nat} : byF gs p &&& b = 0 ↔ ∀ q, b.testBit q = true → (q, p) ∉ gs := by
  rw [and_no]
  constructor
  · intro h q hq hg
    exact h q ⟨by_bit.mpr hg, hq⟩
  · rintro h q ⟨h1, h2⟩
    exact h q h2 (by_bit.mp h1)
theorem onto_zero {gs : List (Nat × Nat)} {b p : Nat} : ontoF gs p &&& b = 0 ↔ ∀ q, b.testBit q = true → (p, q) ∉ gs := by
  rw [and_no]
  constructor
  · intro h q hq hg
    exact h q ⟨onto_bit.mpr hg, hq⟩
  · rintro h q ⟨h1, h2⟩
    exact h q h2 (onto_bit.mp h1)
theorem nb_bit {gs : List (Nat × Nat)} {b p i : Nat} : (nbF gs b p).testBit i = true ↔ if i = p then ∀ q, b.testBit q = true → (q, p) ∉ gs else b.testBit i = true := by
  unfold nbF
  by_cases h : byF gs p &&& b = 0
  · rw [if_pos h, Nat.testBit_or, Nat.testBit_two_pow, Bool.or_eq_true, decide_eq_true_eq]
    by_cases e : i = p
    · rw [if_pos e]
      exact ⟨fun _ => by_zero.mp h, fun _ => .inr e.symm⟩
    · rw [if_neg e]
      exact ⟨fun z => z.resolve_right fun q => e q.symm, .inl⟩
  · rw [if_neg h, andN_iff, Nat.testBit_two_pow, decide_eq_true_eq]
    by_cases e : i = p
    · rw [if_pos e]
      exact ⟨fun z => absurd e.symm z.2, fun z => absurd (by_zero.mpr z) h⟩
    · rw [if_neg e]
      exact ⟨fun z => z.1, fun z => ⟨z, fun q => e q.symm⟩⟩
theorem stl_iff {m : Nat} {gs : List (Nat × Nat)} {b : Nat} : stlN m gs b = true ↔ ∀ p, p < m → (b.testBit p = true ↔ ∀ q, b.testBit q = true → (q, p) ∉ gs) := by
  unfold stlN
  rw [decide_eq_true_eq]
  constructor
  · intro h p hp
    have := nb_bit (gs := gs) (b := b) (p := p) (i := p)
    rw [h p hp, if_pos rfl] at this
    exact this
  · intro h p hp
    refine bits_ext fun i => ?_
    rw [nb_bit]
    by_cases e : i = p
    · rw [if_pos e, e]; exact (h p hp).symm
    · rw [if_neg e]
/-- the rests with what is told of the parts ahead of one -/
def rsF (m : Nat) (gs : List (Nat × Nat)) : Nat → Nat → Nat → List Nat
  | 0, _, y => if stlN m gs y = true then [y] else []
  | j + 1, p, y => (if byF gs p &&& y = 0 ∧ ontoF gs p &&& y = 0 then rsF m gs j (p + 1) (y ||| 2 ^ p) else []) ++ (if andN (byF gs p) (andN (2 ^ p - 1) y) ≠ 0 then rsF m gs j (p + 1) y else [])
theorem mem_rsF {m : Nat} {gs : List (Nat × Nat)} (ir : ∀ p ∈ gs, p.1 ≠ p.2 ∧ p.1 < m ∧ p.2 < m) : ∀ (j p y : Nat), p + j = m → (∀ i, y.testBit i = true → i < p) → ∀ b, b ∈ rsF m gs j p y ↔ stlN m gs b = true ∧ (∀ i, b.testBit i = true → i < m) ∧ ∀ i, i < p → b.testBit i = y.testBit i
  | 0, p, y, hp, hy, b => by
    unfold rsF
    constructor
    · intro h
      split at h
      · rename_i c
        rw [List.mem_singleton.mp h]
        exact ⟨c, fun i hi => by have := hy i hi; omega, fun _ _ => rfl⟩
      · cases h
    · rintro ⟨h1, h2, h3⟩
      have e : b = y := Nat.eq_of_testBit_eq fun i => by
        by_cases q : i < p
        · exact h3 i q
        · have a1 : b.testBit i = false := by
            cases e : b.testBit i with
            | false => rfl
            | true => have := h2 i e; omega
          have a2 : y.testBit i = false := by
            cases e : y.testBit i with
            | false => rfl
            | true => have := hy i e; omega
          rw [a1, a2]
      subst e
      rw [if_pos h1]
      simp
  | j + 1, p, y, hp, hy, b => by
    have hyp : y.testBit p = false := by
      cases e : y.testBit p with
      | false => rfl
      | true => have := hy p e; omega
    have ih1 := mem_rsF ir j (p + 1) (y ||| 2 ^ p) (by omega) (fun i hi => by
      rw [Nat.testBit_or, Nat.testBit_two_pow, Bool.or_eq_true, decide_eq_true_eq] at hi
      rcases hi with z | z
      · have := hy i z; omega
      · omega) b
    have ih2 := mem_rsF ir j (p + 1) y (by omega) (fun i hi => by have := hy i hi; omega) b
    have yp : ∀ i, (y ||| 2 ^ p).testBit i = if i = p then true else y.testBit i := fun i => by
      rw [Nat.testBit_or, Nat.testBit_two_pow]
      by_cases e : i = p
      · rw [if_pos e, e]; simp
      · rw [if_neg e, decide_eq_false (fun z => e z.symm), Bool.or_false]
    have spl1 : (∀ i, i < p + 1 → b.testBit i = (y ||| 2 ^ p).testBit i) ↔ (∀ i, i < p → b.testBit i = y.testBit i) ∧ b.testBit p = true := by
      constructor
      · intro h
        refine ⟨fun i hi => ?_, ?_⟩
        · have := h i (by omega)
          rwa [yp, if_neg (by omega)] at this
        · have := h p (by omega)
          rwa [yp, if_pos rfl] at this
      · rintro ⟨h1, h2⟩ i hi
        rw [yp]
        by_cases e : i = p
        · rw [if_pos e, e]; exact h2
        · rw [if_neg e]; exact h1 i (by omega)
    have spl2 : (∀ i, i < p + 1 → b.testBit i = y.testBit i) ↔ (∀ i, i < p → b.testBit i = y.testBit i) ∧ b.testBit p = false := by
      constructor
      · intro h
        exact ⟨fun i hi => h i (by omega), (h p (by omega)).trans hyp⟩
      · rintro ⟨h1, h2⟩ i hi
        by_cases e : i = p
        · rw [e, h2, hyp]
        · exact h1 i (by omega)
    have hpm : p < m := by omega
    have sub : ∀ i, (∀ i, i < p → b.testBit i = y.testBit i) → y.testBit i = true → b.testBit i = true := fun i h hi => by rw [h i (hy i hi)]; exact hi
    unfold rsF
    rw [List.mem_append]
    constructor
    · rintro (h | h)
      · split at h
        · obtain ⟨a1, a2, a3⟩ := ih1.mp h
          exact ⟨a1, a2, (spl1.mp a3).1⟩
        · cases h
      · split at h
        · obtain ⟨a1, a2, a3⟩ := ih2.mp h
          exact ⟨a1, a2, (spl2.mp a3).1⟩
        · cases h
    · rintro ⟨h1, h2, h3⟩
      have hs := stl_iff.mp h1
      cases e : b.testBit p with
      | true =>
        refine .inl ?_
        rw [if_pos]
        · exact ih1.mpr ⟨h1, h2, spl1.mpr ⟨h3, e⟩⟩
        · refine ⟨by_zero.mpr fun q hq => (hs p hpm).mp e q (sub q h3 hq), onto_zero.mpr fun q hq hg => ?_⟩
          have hqb := sub q h3 hq
          exact (hs q (h2 q hqb)).mp hqb p e hg
      | false =>
        refine .inr ?_
        rw [if_pos]
        · exact ih2.mpr ⟨h1, h2, spl2.mpr ⟨h3, e⟩⟩
        · intro z
          have : b.testBit p = true := (hs p hpm).mpr fun q hq hg => by
            have h5 : (andN (byF gs p) (andN (2 ^ p - 1) y)).testBit q = true := by
              rw [andN_iff, andN_iff]
              refine ⟨by_bit.mpr hg, fun h6 => h6.2 ?_⟩
              rw [← h3 q (whole_bit.mp h6.1)]; exact hq
            rw [z] at h5
            simp at h5
          rw [this] at e; cases e
theorem rsF_nd {m : Nat} {gs : List (Nat × Nat)} (ir : ∀ p ∈ gs, p.1 ≠ p.2 ∧ p.1 < m ∧ p.2 < m) : ∀ (j p y : Nat), p + j = m → (∀ i, y.testBit i = true → i < p) → (rsF m gs j p y).Nodup
  | 0, p, y, hp, hy => by unfold rsF; split <;> simp
  | j + 1, p, y, hp, hy => by
    have hy1 : ∀ i, (y ||| 2 ^ p).testBit i = true → i < p + 1 := fun i hi => by
      rw [Nat.testBit_or, Nat.testBit_two_pow, Bool.or_eq_true, decide_eq_true_eq] at hi
      rcases hi with z | z
      · have := hy i z; omega
      · omega
    have hy2 : ∀ i, y.testBit i = true → i < p + 1 := fun i hi => by have := hy i hi; omega
    unfold rsF
    refine List.nodup_append.mpr ⟨?_, ?_, ?_⟩
    · split
      · exact rsF_nd ir j (p + 1) _ (by omega) hy1
      · exact List.nodup_nil
    · split
      · exact rsF_nd ir j (p + 1) _ (by omega) hy2
      · exact List.nodup_nil
    · intro a ha b hb e
      subst e
      split at ha
      · split at hb
        · have q1 := ((mem_rsF ir j (p + 1) _ (by omega) hy1 a).mp ha).2.2 p (by omega)
          have q2 := ((mem_rsF ir j (p + 1) _ (by omega) hy2 a).mp hb).2.2 p (by omega)
          have hyp : y.testBit p = false := by
            cases e : y.testBit p with
            | false => rfl
            | true => have := hy p e; omega
          rw [q1, hyp, Nat.testBit_or, Nat.testBit_two_pow, hyp] at q2
          simp at q2
        · cases hb
      · cases ha
theorem rsF_len {m : Nat} {gs : List (Nat × Nat)} (ir : ∀ p ∈ gs, p.1 ≠ p.2 ∧ p.1 < m ∧ p.2 < m) {j p y : Nat} (hp : p + j = m) (hy : ∀ i, y.testBit i = true → i < p) : (rsF m gs j p y).length ≤ 2 ^ m := by
  have := nodup_le (U := List.range (2 ^ m)) (rsF_nd ir j p y hp hy) fun b hb => List.mem_range.mpr ?_
  · rwa [List.length_range] at this
  · have h := ((mem_rsF ir j p y hp hy b).mp hb).2.1
    exact Nat.lt_pow_two_of_testBit _ fun i hi => by
      cases e : b.testBit i with
      | false => rfl
      | true => have := h i e; omega
/-- the law's own: a stand that no call changes -/
def saysN (gs : List (Nat × Nat)) (ns : List Nat) (p : Nat) : Bool := decide (∀ q ∈ ns, (q, p) ∉ gs)
def netS (gs : List (Nat × Nat)) (ns : List Nat) (p : Nat) : List Nat := putS ns p (saysN gs ns p)
def stlL (m : Nat) (gs : List (Nat × Nat)) (ns : List Nat) : Bool := decide (∀ p, p < m → netS gs ns p = ns)
theorem netS_bits {gs : List (Nat × Nat)} {ns : List Nat} {p : Nat} (hn : ns.Pairwise (· < ·)) : lotOf (nbF gs (bm ns) p) = netS gs ns p := by
  refine up_ext (lotOf_up _) (putS_up hn) fun i => ?_
  rw [mem_lotOf, nb_bit, show (i ∈ netS gs ns p ↔ _) from mem_putS]
  by_cases e : i = p
  · rw [if_pos e, if_pos e]
    unfold saysN
    rw [decide_eq_true_eq]
    exact ⟨fun h q hq => h q (by rw [bm_bit]; exact decide_eq_true hq), fun h q hq => h q (by rw [bm_bit] at hq; simpa using hq)⟩
  · rw [if_neg e, if_neg e, bm_bit, decide_eq_true_eq]
theorem stl_lot {m : Nat} {gs : List (Nat × Nat)} {ns : List Nat} (hn : ns.Pairwise (· < ·)) : stlL m gs ns = stlN m gs (bm ns) := by
  unfold stlL stlN
  refine decide_eq_decide.mpr (forall_congr' fun p => forall_congr' fun _ => ?_)
  rw [← netS_bits hn]
  constructor
  · intro h
    have := congrArg bm h
    rwa [bm_lotOf] at this
  · intro h
    rw [h, lot_bm hn]
def nrL (m : Nat) (gs : List (Nat × Nat)) : List (List Nat) := ((lotsU m).mergeSort leL).filter (stlL m gs)
theorem mem_nrL {m : Nat} {gs : List (Nat × Nat)} {ns : List Nat} : ns ∈ nrL m gs ↔ (ns.Pairwise (· < ·) ∧ ∀ x ∈ ns, x < m) ∧ stlL m gs ns = true := by
  unfold nrL
  rw [List.mem_filter, (List.mergeSort_perm _ _).mem_iff, mem_lotsU]
theorem nrL_len {m : Nat} {gs : List (Nat × Nat)} : (nrL m gs).length ≤ 2 ^ m := by
  unfold nrL
  have := List.length_filter_le (stlL m gs) ((lotsU m).mergeSort leL)
  rwa [List.length_mergeSort, lotsU_len] at this
theorem nr_sorted {m : Nat} {gs : List (Nat × Nat)} (ir : ∀ p ∈ gs, p.1 ≠ p.2 ∧ p.1 < m ∧ p.2 < m) : ((rsF m gs m 0 0).map lotOf).mergeSort leL = nrL m gs := by
  have up : (nrL m gs).Pairwise fun a b => leL a b = true := (List.pairwise_mergeSort (le := leL) leL_tr leL_tot _).filter _
  have nd : (nrL m gs).Nodup := ((List.mergeSort_perm _ _).nodup_iff.mpr (lotsU_nodup m)).filter _
  have e : (nrL m gs).mergeSort leL = nrL m gs := List.mergeSort_of_pairwise up
  have h0 : ∀ i, (0 : Nat).testBit i = true → i < 0 := fun i hi => by simp at hi
  rw [← e]
  refine lots_ext ?_ nd fun ns => ?_
  · exact nodup_map_on (rsF_nd ir m 0 0 (by omega) h0) fun a _ b _ e => by rw [← bm_lotOf a, e, bm_lotOf]
  · rw [List.mem_map, mem_nrL]
    constructor
    · rintro ⟨b, hb, rfl⟩
      obtain ⟨a1, a2, -⟩ := (mem_rsF ir m 0 0 (by omega) h0 b).mp hb
      refine ⟨⟨lotOf_up b, fun x hx => a2 x (mem_lotOf.mp hx)⟩, ?_⟩
      rw [stl_lot (lotOf_up b), bm_lotOf]; exact a1
    · rintro ⟨⟨h1, h2⟩, h3⟩
      refine ⟨bm ns, (mem_rsF ir m 0 0 (by omega) h0 _).mpr ⟨?_, bm_lt h2, fun i hi => absurd hi (Nat.not_lt_zero _)⟩, lot_bm h1⟩
      rw [← stl_lot h1]; exact h3
/-- without an odd round there is a rest -/
theorem nr_some {m : Nat} {gs : List (Nat × Nat)} (ir : ∀ p ∈ gs, p.1 ≠ p.2 ∧ p.1 < m ∧ p.2 < m) (h : odF m gs = none) : 0 < (nrL m gs).length := by
  obtain ⟨K, hK, hk⟩ := kernel (od_none (fun p hp => (ir p hp).2) h) m (List.range m) (by rw [List.length_range]; exact Nat.le_refl _)
  have hb : ∀ i, (bm K).testBit i = true ↔ i ∈ K := fun i => by rw [bm_bit, decide_eq_true_eq]
  have : lotOf (bm K) ∈ nrL m gs := by
    rw [mem_nrL, stl_lot (lotOf_up _), bm_lotOf, stl_iff]
    refine ⟨⟨lotOf_up _, fun x hx => List.mem_range.mp (hK x ((hb x).mp (mem_lotOf.mp hx)))⟩, fun p hp => ?_⟩
    rw [hb, hk p (List.mem_range.mpr hp)]
    exact ⟨fun h q hq => h q ((hb q).mp hq), fun h q hq => h q ((hb q).mpr hq)⟩
  exact List.length_pos_of_mem this
section
variable {G : GS} [HasF G 0 f0] [HasF G 1 f1] [HasF G 2 f2] [HasF G 3 f3] [HasF G 4 f4] [HasF G 414 f414] [HasF G 416 f416] [HasF G 417 f417] [HasF G 418 f418] [HasF G 419 f419] [HasF G 426 f426] [HasF G 428 f428] [HasF G 429 f429] [HasF G 437 f437] [HasF G 491 f491] [HasF G 492 f492] [HasF G 493 f493] [HasF G 5 f5] [HasF G 56 f56] [HasF G 6 f6] [HasF G 77 f77] [HasF G 8 f8] [HasF G 9 f9]
variable {n m : Nat} {gs : List (Nat × Nat)} {ns : List Nat}
theorem c_rf {a : Nat} (hm : m ≤ 12) (ha : a < m) (hlt : ∀ p ∈ gs, p.1 < m ∧ p.2 < m) : ∀ (k : Nat) (ns : List Nat), Way m gs a ns → ns.length + k = m + 1 →
    callN G (n + k + 3) 418 [netM m gs, .v (I a), .v (L ns), .v (I (bm ns))] = some (.v (wyD (rfF m gs a k ns)), [netM m gs, .v (I a), .v (L ns), .v (I (bm ns))])
  | 0, ns, W, hk => by
    exfalso
    have h1 : ns.length ≤ (List.range m).length := nodup_le W.nd fun x hx => List.mem_range.mpr (W.lt x hx)
    rw [List.length_range] at h1
    omega
  | k + 1, ns, W, hk => by
    have ih := c_rf hm ha hlt k
    have h0 := W.ne
    obtain ⟨ns', l, e⟩ : ∃ ns' l, ns = ns' ++ [l] := ⟨ns.dropLast, ns.getLast h0, (List.dropLast_concat_getLast h0).symm⟩
    have hlm := W.lt l (by rw [e]; simp)
    have el : ns.getLastD 0 = l := by rw [e]; exact List.getLastD_concat ..
    have ei : idxD (.tup (ns.map I)) (.int (-1)) = some (I l) := by
      rw [e, List.map_append]
      exact L2.atI_last _ _
    have eK : lotOf (andN (ontoF gs l) (bm ns)) = (List.range m).filter fun q => decide ((ns.getLastD 0, q) ∈ gs ∧ q ∉ ns) := by
      refine up_ext (lotOf_up _) (List.Pairwise.filter _ List.pairwise_lt_range) fun i => ?_
      rw [mem_lotOf, andN_iff, onto_bit, bm_bit, decide_eq_true_eq, List.mem_filter, List.mem_range, decide_eq_true_eq, el]
      exact ⟨fun h => ⟨(hlt _ h.1).2, h⟩, fun h => h.2⟩
    have hKl : (lotOf (andN (ontoF gs l) (bm ns))).length ≤ m := by
      rw [eK]
      have := List.length_filter_le (fun q => decide ((ns.getLastD 0, q) ∈ gs ∧ q ∉ ns)) (List.range m)
      rwa [List.length_range] at this
    have g6 := c_lotof (n := n + k + 1) (G := G) (m := andN (ontoF gs l) (bm ns)) (by omega)
    have hl12 : ns.length ≤ 13 := by omega
    have step : ¬ (ns.length % 2 = 1 ∧ (ns.getLastD 0, a) ∈ gs) → wpSs G (callN G (n + k + 3)) [0, 1, 2, 3] b418_3 [some (netM m gs), some (.v (I a)), some (.v (L ns)), some (.v (I (bm ns))), some (.v (I l)), none, none]
        { nx := fun τ => WO (outs [0, 1, 2, 3] 0 [netM m gs, .v (I a), .v (L ns), .v (I (bm ns))] τ) fun os => M.v D.non = M.v (wyD (rfF m gs a (k + 1) ns)) ∧ os = [netM m gs, .v (I a), .v (L ns), .v (I (bm ns))],
          rt := fun r τ => WO (outs [0, 1, 2, 3] 0 [netM m gs, .v (I a), .v (L ns), .v (I (bm ns))] τ) fun os => r = M.v (wyD (rfF m gs a (k + 1) ns)) ∧ os = [netM m gs, .v (I a), .v (L ns), .v (I (bm ns))] } := by
      intro nc
      have er : rfF m gs a (k + 1) ns = ((List.range m).filter fun q => decide ((ns.getLastD 0, q) ∈ gs ∧ q ∉ ns)).findSome? fun q => if a < q then rfF m gs a k (ns ++ [q]) else none := by
        rw [rfF, if_neg nc]
      rw [er]
      simp? only [b418_3, ix_onto hlm, b_andn, f6, g6]
      rw [eK]
      refine for_end (fun rs τ => ∃ l5 l6, τ = [some (netM m gs), some (.v (I a)), some (.v (L ns)), some (.v (I (bm ns))), some (.v (I l)), l5, l6] ∧ (rs.findSome? fun q => if a < q then rfF m gs a k (ns ++ [q]) else none) = ((List.range m).filter fun q => decide ((ns.getLastD 0, q) ∈ gs ∧ q ∉ ns)).findSome? fun q => if a < q then rfF m gs a k (ns ++ [q]) else none) ⟨none, none, rfl, rfl⟩ ?_ ?_
      · rintro x rs τ ⟨l5, l6, rfl, ef⟩ hx
        rw [List.mem_filter, List.mem_range, decide_eq_true_eq] at hx
        have Wx := W.put hx.1 hx.2.1 hx.2.2
        have ihx := ih (ns ++ [x]) Wx (by rw [List.length_append, List.length_singleton]; omega)
        rw [List.findSome?_cons] at ef
        simp? only [wo_some]
        by_cases hax : a < x
        · have e1 : ((x : Nat) : Int) > ((a : Nat) : Int) := by omega
          rw [if_pos hax] at ef
          have e3 : ns.map I ++ [D.int (x : Int)] = (ns ++ [x]).map I := by rw [List.map_append]; rfl
          simp? only [b418_4, e1]
          simp? only [b418_5]
          rw [e3, b_or2]
          rw [show bm ns ||| 2 ^ x = bm (ns ++ [x]) from bm_put ns x]
          refine ⟨by decide, by rw [List.length_map]; show _ ≤ 16777216; omega, ⟨by omega, by omega, by decide⟩, ?_⟩
          simp? only [f418, ihx]
          cases er2 : rfF m gs a k (ns ++ [x]) with
          | none =>
            rw [er2] at ef
            simp? only [wyD, b418_6, cmp_isn, isN_non]
            exact ⟨_, _, rfl, ef⟩
          | some w =>
            rw [er2] at ef
            simp? only [wyD, b418_6, cmp_isn, isN_tup]
            simp? only [b418_7]
            rw [← ef]
        · have e1 : ¬ ((x : Nat) : Int) > ((a : Nat) : Int) := by omega
          rw [if_neg hax] at ef
          simp? only [b418_4, e1]
          exact ⟨_, _, rfl, ef⟩
      · rintro τ ⟨l5, l6, rfl, ef⟩
        simp? only [b418_8]
        rw [← ef]
        rfl
    refine wc_eq (call_wp ⟨rfl, by decide⟩ ?_)
    simp? only [f418, b418_0, ei]
    simp? only [b418_1, ix_onto hlm, f56, n_has, List.length_map]
    refine ⟨by decide, ?_⟩
    have ed : (ontoF gs l).testBit a = decide ((ns.getLastD 0, a) ∈ gs) := by
      rw [Bool.eq_iff_iff, onto_bit, decide_eq_true_eq, el]
    by_cases h1 : ns.length % 2 = 1
    · have e1 : (((ns.length : Nat) : Int) % 2 = 1) := by omega
      rw [if_pos e1, ed]
      by_cases h2 : (ns.getLastD 0, a) ∈ gs
      · rw [if_pos (decide_eq_true h2)]
        simp? only [b418_2]
        rw [rfF, if_pos ⟨h1, h2⟩]
        rfl
      · rw [if_neg (by rw [decide_eq_false h2]; simp)]
        exact step fun z => h2 z.2
    · have e1 : ¬ (((ns.length : Nat) : Int) % 2 = 1) := by omega
      rw [if_neg e1]
      exact step fun z => h1 z.1
theorem c_od (hm : m ≤ 12) (hlt : ∀ p ∈ gs, p.1 < m ∧ p.2 < m) : callN G (n + 17) 419 [netM m gs] = some (.v (wyD (odF m gs)), [netM m gs]) := by
  refine wc_eq (call_wp ⟨rfl, by decide⟩ ?_)
  simp? only [f419, b419_0]
  refine ⟨rng_ok (by omega) (by omega) (by omega) (by omega), ?_⟩
  rw [rng_map]
  refine for_end (fun rs τ => ∃ l1 l2, τ = [some (netM m gs), l1, l2] ∧ (rs.findSome? fun a => rfF m gs a m [a]) = odF m gs) ⟨none, none, rfl, rfl⟩ ?_ ?_
  · rintro k rs τ ⟨l1, l2, rfl, ef⟩ hk
    have hk := List.mem_range.mp hk
    have W : Way m gs k [k] := ⟨by simp, fun x hx => by rw [List.mem_singleton.mp hx]; exact hk, fun i hi => by simp at hi, rfl⟩
    have q := c_rf (n := n + 13 - m) (G := G) hm hk hlt m [k] W (by simp; omega)
    rw [show n + 13 - m + m + 3 = n + 16 by omega, show bm [k] = 2 ^ k from by unfold bm; simp] at q
    rw [List.findSome?_cons] at ef
    have e1 : (1 * 2 ^ ((k : Int)).toNat : Int) = ((2 ^ k : Nat) : Int) := by rw [Int.toNat_natCast, Int.one_mul]; norm_cast
    simp? only [wo_some]
    simp? only [b419_1]
    rw [e1]
    refine ⟨by decide, ⟨by omega, by omega, by decide⟩, ?_⟩
    rw [show M.v (.tup [.int (k : Int)]) = M.v (L [k]) from rfl]
    simp? only [f418, q]
    cases er2 : rfF m gs k m [k] with
    | none =>
      rw [er2] at ef
      simp? only [wyD, b419_2, cmp_isn, isN_non]
      exact ⟨_, _, rfl, ef⟩
    | some w =>
      rw [er2] at ef
      simp? only [wyD, b419_2, cmp_isn, isN_tup]
      simp? only [b419_3]
      rw [← ef]
  · rintro τ ⟨l1, l2, rfl, ef⟩
    simp? only [b419_4]
    rw [← ef]
    rfl
theorem c_ncall {b p : Nat} (hp : p < m) (hm : m ≤ 1000) : callN G (n + 1) 416 [netM m gs, .v (I b), .v (I p)] = some (.v (I (nbF gs b p)), [netM m gs, .v (I b), .v (I p)]) := by
  have e1 : (1 * 2 ^ ((p : Int)).toNat : Int) = ((2 ^ p : Nat) : Int) := by rw [Int.toNat_natCast, Int.one_mul]; norm_cast
  refine wc_eq (call_wp ⟨rfl, by decide⟩ ?_)
  unfold nbF
  by_cases h : byF gs p &&& b = 0
  · have h0 : decide (((byF gs p &&& b : Nat) : Int) = 0) = true := decide_eq_true (by omega)
    rw [if_pos h]
    simp? only [f416, b416_0, ix_by hp, b_and, h0, b416_1]
    exact ⟨⟨by omega, by omega, by decide⟩, by rw [b_or2]⟩
  · have h0 : decide (((byF gs p &&& b : Nat) : Int) = 0) = false := decide_eq_false (by omega)
    rw [if_neg h]
    simp? only [f416, b416_0, ix_by hp, b_and, h0, b416_2]
    exact ⟨⟨by omega, by omega, by decide⟩, by rw [e1, b_andn]⟩
theorem c_still {b : Nat} (hm : m ≤ 1000) : callN G (n + 2) 417 [netM m gs, .v (I b)] = some (.v (.bl (stlN m gs b)), [netM m gs, .v (I b)]) := by
  refine wc_eq (call_wp ⟨rfl, by decide⟩ ?_)
  simp? only [f417, b417_0]
  refine ⟨rng_ok (by omega) (by omega) (by omega) (by omega), ?_⟩
  rw [rng_map]
  refine lc_pur (fun p => .bl (decide (nbF gs b p = b))) (by rw [List.length_range]; show _ < 16777216; omega) ?_ ?_
  · intro p hp
    simp? only [f416, c_ncall (List.mem_range.mp hp) hm, cmp_eqx, eqD_i, Int.natCast_inj]
  · simp? only [bools_map, all_rng]
    rfl
theorem c_rfrom (ir : ∀ p ∈ gs, p.1 ≠ p.2 ∧ p.1 < m ∧ p.2 < m) (hm : m ≤ 12) : ∀ (j p y : Nat), p + j = m → (∀ i, y.testBit i = true → i < p) → callN G (n + j + 3) 492 [netM m gs, .v (I p), .v (I y), .v (I (andN (2 ^ p - 1) y))] = some (.lst ((rsF m gs j p y).map I), [netM m gs, .v (I p), .v (I y), .v (I (andN (2 ^ p - 1) y))])
  | 0, p, y, hp, hy => by
    have e0 : decide ((p : Int) = (m : Int)) = true := decide_eq_true (by omega)
    refine wc_eq (call_wp ⟨rfl, by decide⟩ ?_)
    simp? only [f492, b492_0, e0]
    simp? only [b492_1, f417, c_still (n := n) (show m ≤ 1000 by omega)]
    unfold rsF
    cases stlN m gs y with
    | true => simp? only [wo_some]; decide
    | false => simp? only [wo_some]; decide
  | j + 1, p, y, hp, hy => by
    have e0 : decide ((p : Int) = (m : Int)) = false := decide_eq_false (by omega)
    have hpm : p < m := by omega
    have hp12 : 2 ^ m ≤ 4096 := pow_12 hm
    have hy1 : ∀ i, (y ||| 2 ^ p).testBit i = true → i < p + 1 := fun i hi => by
      rw [Nat.testBit_or, Nat.testBit_two_pow, Bool.or_eq_true, decide_eq_true_eq] at hi
      rcases hi with z | z
      · have := hy i z; omega
      · omega
    have hy2 : ∀ i, y.testBit i = true → i < p + 1 := fun i hi => by have := hy i hi; omega
    have ih1 := c_rfrom ir hm j (p + 1) (y ||| 2 ^ p) (by omega) hy1
    have ih2 := c_rfrom ir hm j (p + 1) y (by omega) hy2
    have l1 := rsF_len ir (j := j) (p := p + 1) (y := y ||| 2 ^ p) (by omega) hy1
    have l2 := rsF_len ir (j := j) (p := p + 1) (y := y) (by omega) hy2
    have no1 : andN (2 ^ (p + 1) - 1) (y ||| 2 ^ p) = andN (2 ^ p - 1) y := bits_ext fun i => by
      rw [andN_iff, andN_iff, whole_bit, whole_bit, Nat.testBit_or, Nat.testBit_two_pow, Bool.or_eq_true, decide_eq_true_eq]
      constructor
      · rintro ⟨h1, h2⟩
        exact ⟨by have : i ≠ p := fun z => h2 (.inr z.symm); omega, fun z => h2 (.inl z)⟩
      · rintro ⟨h1, h2⟩
        exact ⟨by omega, fun z => z.elim h2 (by omega)⟩
    have no2 : andN (2 ^ p - 1) y ||| 2 ^ p = andN (2 ^ (p + 1) - 1) y := bits_ext fun i => by
      rw [andN_iff, whole_bit, Nat.testBit_or, Nat.testBit_two_pow, Bool.or_eq_true, decide_eq_true_eq, andN_iff, whole_bit]
      constructor
      · rintro (⟨h1, h2⟩ | h)
        · exact ⟨by omega, h2⟩
        · exact ⟨by omega, fun z => by have := hy i z; omega⟩
      · rintro ⟨h1, h2⟩
        by_cases e : i = p
        · exact .inr e.symm
        · exact .inl ⟨by omega, h2⟩
    rw [no1] at ih1
    rw [← no2] at ih2
    have ep : ((p : Int) + 1) = ((p + 1 : Nat) : Int) := by omega
    have b5 : ∀ (xs : List Nat) (W : Wh), xs.length ≤ 2 ^ m → (∀ l4, W.rt (.lst ((xs ++ if andN (byF gs p) (andN (2 ^ p - 1) y) ≠ 0 then rsF m gs j (p + 1) y else []).map I)) [some (netM m gs), some (.v (I p)), some (.v (I y)), some (.v (I (andN (2 ^ p - 1) y))), l4]) →
        wpSs G (callN G (n + j + 3)) [0, 1, 2, 3] b492_5 [some (netM m gs), some (.v (I p)), some (.v (I y)), some (.v (I (andN (2 ^ p - 1) y))), some (.lst (xs.map I))] W := by
      intro xs W hx hW
      by_cases h : andN (byF gs p) (andN (2 ^ p - 1) y) = 0
      · have h0 : decide (((andN (byF gs p) (andN (2 ^ p - 1) y) : Nat) : Int) = 0) = true := decide_eq_true (by omega)
        rw [if_neg (fun z => z h), List.append_nil] at hW
        simp? only [b492_5, ix_by hpm, b_andn, cmp_nex, eqD_i, h0]
        simp? only [b492_7]
        exact hW _
      · have h0 : decide (((andN (byF gs p) (andN (2 ^ p - 1) y) : Nat) : Int) = 0) = false := decide_eq_false (by omega)
        rw [if_pos h] at hW
        simp? only [b492_5, ix_by hpm, b_andn, cmp_nex, eqD_i, h0]
        simp? only [b492_6, ep, b_or2]
        refine ⟨⟨by omega, by omega, by decide⟩, ?_⟩
        simp? only [f492, ih2]
        refine ⟨by rw [List.length_map, List.length_map]; show _ ≤ 16777216; omega, ?_⟩
        simp? only [b492_7]
        rw [← List.map_append]
        exact hW _
    refine wc_eq (call_wp ⟨rfl, by decide⟩ ?_)
    rw [show n + (j + 1) + 2 = n + j + 3 by omega]
    simp? only [f492, b492_0, e0]
    simp? only [b492_2]
    refine ⟨by decide, ?_⟩
    have fin : ∀ (xs : List Nat), xs.length ≤ 2 ^ m → (xs = if byF gs p &&& y = 0 ∧ ontoF gs p &&& y = 0 then rsF m gs j (p + 1) (y ||| 2 ^ p) else []) →
        wpSs G (callN G (n + j + 3)) [0, 1, 2, 3] b492_5 [some (netM m gs), some (.v (I p)), some (.v (I y)), some (.v (I (andN (2 ^ p - 1) y))), some (.lst (xs.map I))]
          { nx := fun τ => WO (outs [0, 1, 2, 3] 0 [netM m gs, .v (I p), .v (I y), .v (I (andN (2 ^ p - 1) y))] τ) fun os => M.v D.non = M.lst ((rsF m gs (j + 1) p y).map I) ∧ os = [netM m gs, .v (I p), .v (I y), .v (I (andN (2 ^ p - 1) y))],
            rt := fun r τ => WO (outs [0, 1, 2, 3] 0 [netM m gs, .v (I p), .v (I y), .v (I (andN (2 ^ p - 1) y))] τ) fun os => r = M.lst ((rsF m gs (j + 1) p y).map I) ∧ os = [netM m gs, .v (I p), .v (I y), .v (I (andN (2 ^ p - 1) y))] } := by
      intro xs hx ex
      refine b5 xs _ hx fun l4 => ?_
      simp? only [wo_some]
      rw [ex]
      rfl
    by_cases h1 : byF gs p &&& y = 0
    · have k1 : decide (((byF gs p &&& y : Nat) : Int) = 0) = true := decide_eq_true (by omega)
      by_cases h2 : ontoF gs p &&& y = 0
      · have k2 : decide (((ontoF gs p &&& y : Nat) : Int) = 0) = true := decide_eq_true (by omega)
        simp? only [b492_3, ix_by hpm, ix_onto hpm, b_and, k1, k2]
        simp? only [b492_4, ep, b_or2]
        refine ⟨⟨by omega, by omega, by decide⟩, ?_⟩
        simp? only [f492, ih1]
        exact fin _ l1 (by rw [if_pos ⟨h1, h2⟩])
      · have k2 : decide (((ontoF gs p &&& y : Nat) : Int) = 0) = false := decide_eq_false (by omega)
        simp? only [b492_3, ix_by hpm, ix_onto hpm, b_and, k1, k2]
        exact fin [] (by simp) (by rw [if_neg fun z => h2 z.2])
    · have k1 : decide (((byF gs p &&& y : Nat) : Int) = 0) = false := decide_eq_false (by omega)
      simp? only [b492_3, ix_by hpm, ix_onto hpm, b_and, k1]
      exact fin [] (by simp) (by rw [if_neg fun z => h1 z.1])
theorem c_nrests (ir : ∀ p ∈ gs, p.1 ≠ p.2 ∧ p.1 < m ∧ p.2 < m) (hm : m ≤ 12) : callN G (n + 16) 493 [netM m gs] = some (.lst ((nrL m gs).map L), [netM m gs]) := by
  have h0 : ∀ i, (0 : Nat).testBit i = true → i < 0 := fun i hi => by simp at hi
  have q := c_rfrom (n := n + 12 - m) (G := G) ir hm m 0 0 (by omega) h0
  rw [show n + 12 - m + m + 3 = n + 15 by omega, show andN (2 ^ 0 - 1) 0 = 0 from by decide] at q
  have hl := rsF_len ir (j := m) (p := 0) (y := 0) (by omega) h0
  have hp12 : 2 ^ m ≤ 4096 := pow_12 hm
  have hlen : ((rsF m gs m 0 0).map lotOf).length ≤ SL := by rw [List.length_map]; show _ ≤ 16777216; omega
  have es := sort_L hlen
  rw [nr_sorted ir, List.map_map] at es
  refine wc_eq (call_wp ⟨rfl, by decide⟩ ?_)
  simp? only [f493, b493_0]
  rw [show (M.v (.int 0)) = M.v (I 0) from rfl]
  simp? only [f492, q]
  refine lc_pur (ns := rsF m gs m 0 0) (f := I) (fun b => L (lotOf b)) (by show _ < 16777216; omega) (fun b hb => ?_) ?_
  · have hb2 := ((mem_rsF ir m 0 0 (by omega) h0 b).mp hb).2.1
    have := lotOf_len hb2
    simp? only [f6, c_lotof (n := n + 13) (m := b) (show (lotOf b).length < 1000000 by omega)]
  · simp? only [wo_some]
    rw [show List.map (fun b => L (lotOf b)) (rsF m gs m 0 0) = List.map (L ∘ lotOf) (rsF m gs m 0 0) from rfl, es]
    simp? only [wo_some]
theorem n_part {p : Nat} (h : p < m) : callN G (n + 3) 8 [netM m gs, .v (I p)] = some (.v .non, [netM m gs, .v (I p)]) := by
  refine wc_eq (call_wp ⟨rfl, by decide⟩ ?_)
  have e1 : (0 : Int) ≤ (p : Int) := by omega
  have e2 : (p : Int) ≤ (m : Int) - 1 := by omega
  simp? only [f8, b8_0, c_btw, e1, e2, decide_true]
theorem n_stand (h : ns.Pairwise (· < ·)) (hm : ∀ x ∈ ns, x < m) : callN G (n + 4) 9 [netM m gs, .v (L ns)] = some (.v .non, [netM m gs, .v (L ns)]) := by
  refine wc_eq (call_wp ⟨rfl, by decide⟩ ?_)
  simp? only [f9, b9_0, c_lot h hm]
theorem c_ncalled {p : Nat} (h : ns.Pairwise (· < ·)) (hl : ∀ x ∈ ns, x < m) (hp : p < m) (hm : m ≤ 12) : callN G (n + 5) 491 [netM m gs, .v (L ns), .v (I p)] = some (.v (L (netS gs ns p)), [netM m gs, .v (L ns), .v (I p)]) := by
  have hnl := lot_len (putS_up (p := p) (b := saysN gs ns p) h) (putS_lt hl hp)
  have q6 := c_lotof (n := n + 2) (G := G) (m := nbF gs (bm ns) p) (by rw [netS_bits h]; show (putS ns p (saysN gs ns p)).length < _; omega)
  rw [netS_bits h] at q6
  refine wc_eq (call_wp ⟨rfl, by decide⟩ ?_)
  simp? only [f491, b491_0, f9, n_stand (n := n) h hl]
  simp? only [b491_1, f8, n_part (n := n + 1) hp]
  simp? only [b491_2, f4, c_bits (n := n + 3) (fun x hx => by have := hl x hx; omega : ∀ x ∈ ns, x ≤ 1000000), f416, c_ncall (n := n + 3) hp (show m ≤ 1000 by omega), f6, q6]
/-! the law's own -/
theorem l_set {p : Nat} {b : Bool} (hl : ns.length ≤ 1000) : callN G (n + 1) 426 [.v (L ns), .v (I p), .v (.bl b)] = some (.v (L (putS ns p b)), [.v (L ns), .v (I p), .v (.bl b)]) := by
  have hbl := List.length_filter_le (fun o => decide (o ≠ p)) ns
  refine wc_eq (call_wp ⟨rfl, by decide⟩ ?_)
  rw [putS_eq]
  unfold butS
  simp? only [f426, b426_0]
  refine lc_flt (ns := ns) (fun o => decide (o ≠ p)) (fun o => I o) (by show _ < 16777216; omega) (fun o ho => ?_) ?_
  · simp? only [Int.natCast_inj, decide_not]
  · cases b with
    | true =>
      have hs2 : (List.filter (fun o => decide (o ≠ p)) ns ++ [p]).length ≤ SL := by
        rw [List.length_append, List.length_singleton]; show _ ≤ 16777216; omega
      have es := sort_I hs2
      rw [List.map_append, List.map_singleton] at es
      simp? only [b426_1]
      refine ⟨by decide, by rw [List.length_map]; show _ ≤ 16777216; omega, ?_⟩
      simp? only [es]
    | false =>
      simp? only [b426_1]
theorem l_ncall {p : Nat} (hl : ns.length ≤ 1000) (hg : gs.length ≤ 1000000) : callN G (n + 2) 428 [.v (TS gs), .v (L ns), .v (I p)] = some (.v (L (netS gs ns p)), [.v (TS gs), .v (L ns), .v (I p)]) := by
  refine wc_eq (call_wp ⟨rfl, by decide⟩ ?_)
  simp? only [f428, b428_0]
  refine lc_flt (ns := gs) (f := P2) (fun q => decide (q.2 = p) && decide (q.1 ∈ ns)) (fun q => I q.1) (by show _ < 16777216; omega) (fun q hq => ?_) ?_
  · by_cases e : q.2 = p
    · have e1 : decide ((q.2 : Int) = (p : Int)) = true := decide_eq_true (by omega)
      rw [decide_eq_true e]
      simp? only [e1, inD_I]
    · have e1 : decide ((q.2 : Int) = (p : Int)) = false := decide_eq_false (by omega)
      rw [decide_eq_false e]
      simp? only [e1]
  · have es : decide ((((gs.filter fun q => decide (q.2 = p) && decide (q.1 ∈ ns)).length : Nat) : Int) = 0) = saysN gs ns p := by
      unfold saysN
      refine decide_eq_decide.mpr ?_
      rw [show ((((gs.filter fun q => decide (q.2 = p) && decide (q.1 ∈ ns)).length : Nat) : Int) = 0) ↔ (gs.filter fun q => decide (q.2 = p) && decide (q.1 ∈ ns)).length = 0 by omega, List.length_eq_zero_iff, List.filter_eq_nil_iff]
      constructor
      · intro h q hq hg
        exact h (q, p) hg (by simp [hq])
      · rintro h ⟨a, b⟩ hg hc
        simp only [Bool.and_eq_true, decide_eq_true_eq] at hc
        obtain ⟨rfl, hc⟩ := hc
        exact h a hc hg
    simp? only [List.length_map, es, f426, l_set (n := n) hl]
    rfl
theorem l_still {d : Unit} (hn : ns.length ≤ 1000) (hg : gs.length ≤ 1000000) (hm : m ≤ 1000) : callN G (n + 3) 429 [.v (I m), .v (TS gs), .v (L ns)] = some (.v (.bl (stlL m gs ns)), [.v (I m), .v (TS gs), .v (L ns)]) := by
  refine wc_eq (call_wp ⟨rfl, by decide⟩ ?_)
  simp? only [f429, b429_0]
  refine ⟨rng_ok (by omega) (by omega) (by omega) (by omega), ?_⟩
  rw [rng_map]
  refine lc_pur (fun p => .bl (decide (netS gs ns p = ns))) (by rw [List.length_range]; show _ < 16777216; omega) ?_ ?_
  · intro p hp
    simp? only [f428, l_ncall (n := n) hn hg, cmp_eqx, eqD_L]
  · simp? only [bools_map, all_rng]
    rfl
end

/-! the making of a net, where the look at its size is numbered anew -/
section
variable {G : GS} [HasC G 5 kl5i495] [HasF G 0 f0] [HasF G 1 f1] [HasF G 2 f2] [HasF G 3 f3] [HasF G 4 f4] [HasF G 414 f414] [HasF G 437 f437] [HasF G 495 f495] [HasF G 5 f5] [HasF G 6 f6] [HasG G 18 (.int 12)]
variable {n m : Nat} {gs : List (Nat × Nat)}
theorem c_nbegin2 (h : Arr m gs) (hm : m ≤ 1000) : callN G (n + 1) 437 [.ins 5 [], .v (I m), .v (TS gs)] = some (.v .non, [netM m gs, .v (I m), .v (TS gs)]) := by
  refine wc_eq (call_wp ⟨rfl, by decide⟩ ?_)
  have z : (2 : Int) ^ ((m : Int)).toNat = ((2 ^ m : Nat) : Int) := by rw [Int.toNat_natCast]; norm_cast
  have rl : 1 * ((m : Int)).toNat ≤ 16777216 := by rw [Int.toNat_natCast]; omega
  simp? only [f437, b437_0, kl5i495]
  simp? only [b437_1, kl5i495]
  simp? only [b437_2, kl5i495]
  refine ⟨⟨by omega, by omega, by decide⟩, ?_⟩
  simp? only [b437_3, kl5i495]
  refine ⟨by decide, ⟨by omega, by omega, rl⟩, ?_⟩
  simp? only [b437_4, kl5i495]
  refine ⟨by decide, ⟨by omega, by omega, rl⟩, ?_⟩
  simp? only [b437_5]
  rw [z]
  refine for_map (fun ds rs τ => ∃ l3 l4, τ = [some (.ins 5 [(0, .v (I m)), (40, .v (TS gs)), (2, .v (I (2 ^ m - 1))), (37, .lst (byL m ds)), (38, .lst (ontoL m ds))]), some (.v (I m)), some (.v (TS gs)), l3, l4]) ⟨none, none, ?_⟩ ?_ ?_
  · have : (1 * ((2 ^ m : Nat) : Int) - 1) = ((2 ^ m - 1 : Nat) : Int) := by have := Nat.two_pow_pos m; omega
    rw [this, ← repB, ← repO]
  · rintro ds x rs τ e ⟨l3, l4, rfl⟩
    have hx := h.lt x (by rw [e]; simp)
    simp? only [wo_some]
    simp? only [b437_6, ix_by hx.2.2, set_near byL_len hx.2.2]
    refine ⟨⟨by omega, by omega, by decide⟩, ?_⟩
    rw [b_or2, by_step hx.2.2]
    simp? only [b437_7, ix_onto hx.2.1, set_near ontoL_len hx.2.1]
    refine ⟨⟨by omega, by omega, by decide⟩, some (.v (I x.1)), some (.v (I x.2)), ?_⟩
    rw [b_or2, onto_step hx.2.1]
  · rintro τ ⟨l3, l4, rfl⟩
    simp? only [wo_some]
theorem c_arrow2 {a b : Nat} (h : a ≠ b) (ha : a < m) (hb : b < m) : callN G (n + 3) 414 [.v (.tup [I a, I b]), .v (I m)] = some (.v (.bl true), [.v (.tup [I a, I b]), .v (I m)]) := by
  have q1 : (0 : Int) ≤ (a : Int) := by omega
  have q2 : (a : Int) ≤ (m : Int) - 1 := by omega
  have q3 : (0 : Int) ≤ (b : Int) := by omega
  have q4 : (b : Int) ≤ (m : Int) - 1 := by omega
  have q5 : ¬ (a : Int) = (b : Int) := by omega
  refine wc_eq (call_wp ⟨rfl, by decide⟩ ?_)
  simp? only [f414, b414_0, f2, c_pair]
  refine lc_purD (fun _ => .bl true) (by show (2 : Nat) < 16777216; decide) (fun x hx => ?_) ?_
  · simp only [List.mem_cons, List.mem_nil_iff, or_false] at hx
    rcases hx with rfl | rfl
    · simp? only [f1, c_btw, q1, q2, decide_true]
    · simp? only [f1, c_btw, q3, q4, decide_true]
  · have hb2 : boolsOf [.bl true, .bl true] = some [true, true] := rfl
    simp? only [hb2, List.all_cons, List.all_nil, id]
    simp? only [b414_2, q5, decide_false]
theorem c_net2 (h : Arr m gs) (h1 : 1 ≤ m) (hm : m ≤ 12) : callN G (n + 4) 495 [.ins 5 [], .v (I m), .v (TS gs)] = some (.v .non, [netM m gs, .v (I m), .v (TS gs)]) := by
  refine wc_eq (call_wp ⟨rfl, by decide⟩ ?_)
  have e1 : (1 : Int) ≤ (m : Int) := by omega
  have e2 : (m : Int) ≤ 12 := by omega
  simp? only [f495, b495_0, f1, c_btw, e1, e2, decide_true]
  simp? only [b495_2]
  simp? only [b495_4]
  refine for_nat (fun k τ => ∃ l3 l4, τ = [some (.ins 5 []), some (.v (I m)), some (.v (TS gs)), l3, l4]) ⟨none, none, rfl⟩ ?_ ?_
  · rintro k x τ e ⟨l3, l4, rfl⟩
    rw [enum_get, List.getElem?_map] at e
    cases ek : gs[k]? with
    | none => rw [ek] at e; cases e
    | some p =>
      rw [ek] at e
      cases e
      have hp := h.lt p (List.mem_of_getElem? ek)
      simp? only [wo_some]
      simp? only [b495_5, f414, c_arrow2 hp.1 hp.2.1 hp.2.2, Nat.zero_add]
      split
      · rename_i hk
        obtain ⟨j, rfl⟩ : ∃ j, k = j + 1 := ⟨k - 1, by omega⟩
        have hj : j + 1 < gs.length := (List.getElem?_eq_some_iff.mp ek).1
        have ej : gs[j]? = some gs[j] := List.getElem?_eq_getElem (by omega)
        have ei : idxD (TS gs) (.int (((j + 1 : Nat) : Int) - 1)) = some (P2 gs[j]) := by
          rw [show (((j + 1 : Nat) : Int) - 1) = (j : Int) by omega]
          exact L2.atI_nat (by rw [List.getElem?_map, ej]; rfl)
        simp? only [ei]
        have lt : TLt gs[j] p := by
          have := List.pairwise_iff_getElem.mp h.up j (j + 1) (by omega) hj (by omega)
          rwa [(List.getElem?_eq_some_iff.mp ek).2] at this
        rw [if_neg]
        · exact ⟨_, _, rfl⟩
        · rcases lt with q | q <;> omega
      · exact ⟨_, _, rfl⟩
  · rintro τ ⟨l3, l4, rfl⟩
    simp? only [b495_7, kl5i495, f437, c_nbegin2 h (show m ≤ 1000 by omega)]
end

/-! law k78: calls and rests of nets -/
section
variable {G : GS} [HasC G 5 kl5i495] [HasF G 0 f0] [HasF G 1 f1] [HasF G 119 f119] [HasF G 120 f120] [HasF G 121 f121] [HasF G 124 f124] [HasF G 2 f2] [HasF G 3 f3] [HasF G 4 f4] [HasF G 414 f414] [HasF G 416 f416] [HasF G 417 f417] [HasF G 418 f418] [HasF G 419 f419] [HasF G 426 f426] [HasF G 427 f427] [HasF G 428 f428] [HasF G 429 f429] [HasF G 437 f437] [HasF G 491 f491] [HasF G 492 f492] [HasF G 493 f493] [HasF G 494 f494] [HasF G 495 f495] [HasF G 5 f5] [HasF G 56 f56] [HasF G 6 f6] [HasF G 77 f77] [HasF G 8 f8] [HasF G 9 f9] [HasG G 18 (.int 12)]
variable {n m : Nat} {gs : List (Nat × Nat)} {ns : List Nat} {sc : List Int}
theorem lots_eq {xss : List (List Nat)} : eqD (.lst (xss.map L)) (.lst (xss.map L)) = some true := lots_selfL
theorem tail78 {k : Nat} {xs : List D} {l1 l7 l8 l9 l10 l11 : Option M} {W : Wh} (A : Arr m gs) (hg : gs.length ≤ 576) (h1 : 1 ≤ m) (hm : m ≤ 8) (ht : Pool xs) (hl1 : l1 = none ∨ ∃ d, l1 = some (.v d))
    (hW : ∀ xs l7 l8 l9 l10 l11, Pool xs → W.nx [some (.v (.scr sc)), l1, some (.lst xs), some (.v (I k)), some (.v (I m)), some (.v (TS gs)), some (netM m gs), l7, l8, l9, l10, l11]) :
    wpSs G (callN G (n + 30)) [0] b494_7 [some (.v (.scr sc)), l1, some (.lst xs), some (.v (I k)), some (.v (I m)), some (.v (TS gs)), some (netM m gs), l7, l8, l9, l10, l11] W := by
  have hp12 : 2 ^ m ≤ 4096 := pow_12 (show m ≤ 12 by omega)
  have hp8 : 2 ^ m ≤ 256 := Nat.pow_le_pow_right (n := 2) (by decide) hm
  have hnl := nrL_len (m := m) (gs := gs)
  have ir : ∀ p ∈ gs, p.1 ≠ p.2 ∧ p.1 < m ∧ p.2 < m := A.lt
  have hlx : ∀ r ∈ nrL m gs, (∀ x ∈ r, x ≤ 999999999999) ∧ r.length ≤ 8 := fun r hr => by
    have h := mem_nrL.mp hr
    have := lot_len h.1.1 h.1.2
    exact ⟨fun x hx => by have := h.1.2 x hx; omega, by omega⟩
  have r1 := rep_LL (xss := nrL m gs) (k := 8) (fun r hr => (hlx r hr).1) (fun r hr => (hlx r hr).2) (by omega)
  have e1 := eqS_LL (xss := nrL m gs) fun r hr => (hlx r hr).1
  have after : wpSs G (callN G (n + 30)) [0] b494_11 [some (.v (.scr sc)), l1, some (.lst xs), some (.v (I k)), some (.v (I m)), some (.v (TS gs)), some (netM m gs), some (.lst ((nrL m gs).map L)), some (.lst ((nrL m gs).map L)), l9, l10, l11] W := by
    simp? only [b494_11]
    refine ⟨by decide, ?_⟩
    refine for_rng (n := 6) (fun j τ => ∃ xs l9 l10 l11, τ = [some (.v (.scr sc)), l1, some (.lst xs), some (.v (I k)), some (.v (I m)), some (.v (TS gs)), some (netM m gs), some (.lst ((nrL m gs).map L)), some (.lst ((nrL m gs).map L)), l9, l10, l11] ∧ Pool xs) ⟨_, _, _, _, rfl, ht⟩ ?_ ?_
    · rintro j τ hj ⟨xs, l9, l10, l11, rfl, ht⟩
      simp? only [wo_some]
      simp? only [b494_12, f124]
      refine WC.mono (p_lot (n := n + 28) ht (show m < 1000000 by omega)) ?_
      rintro _ _ ⟨ns, xs, rfl, hn, hnl, rfl, ht⟩
      simp? only [b494_13, f120]
      refine WC.mono (p_draw (n := n + 29) ht (show 0 < m by omega) (by omega)) ?_
      rintro _ _ ⟨p, xs, rfl, rfl, hp, ht⟩
      have hsl := lot_len hn hnl
      have h2 := putS_lt (p := p) (b := saysN gs ns p) hnl hp
      have h3 := lot_len (putS_up (p := p) (b := saysN gs ns p) hn) h2
      have r2 := rep_L (ns := netS gs ns p) (fun x hx => by have := h2 x hx; omega) (by show (putS ns p (saysN gs ns p)).length ≤ _; omega)
      have e2 := eqS_L (ns := netS gs ns p) fun x hx => by have := h2 x hx; omega
      simp? only [b494_14, f491, c_ncalled (n := n + 25) hn hnl hp (show m ≤ 12 by omega), r2, f428, l_ncall (n := n + 28) (show ns.length ≤ 1000 by omega) (show gs.length ≤ 1000000 by omega), cmp_nex, e2]
      exact ⟨_, _, _, _, rfl, ht⟩
    · rintro τ ⟨xs, l9, l10, l11, rfl, ht⟩
      simp? only [b494_16]
      refine ⟨by rw [List.length_map]; show _ < 16777216; omega, ?_⟩
      simp? only [b494_17, f493, c_nrests (n := n + 14) ir (show m ≤ 12 by omega), cmp_nex, lots_eq]
      exact hW _ _ _ _ _ _ ht
  have mid : wpSs G (callN G (n + 30)) [0] b494_8 [some (.v (.scr sc)), l1, some (.lst xs), some (.v (I k)), some (.v (I m)), some (.v (TS gs)), some (netM m gs), some (.lst ((nrL m gs).map L)), l8, l9, l10, l11] W := by
    simp? only [b494_8, f493, c_nrests (n := n + 14) ir (show m ≤ 12 by omega)]
    by_cases z : (nrL m gs).length = 0
    · have z0 : decide ((((nrL m gs).length : Nat) : Int) = 0) = true := decide_eq_true (by omega)
      cases ho : odF m gs with
      | none =>
        have := nr_some ir ho
        omega
      | some w =>
        have q := c_od (n := n + 13) (G := G) (gs := gs) (show m ≤ 12 by omega) fun p hp => (ir p hp).2
        rw [ho] at q
        simp? only [b494_9, r1, cmp_nex, e1, List.length_map, z0, f419, q, wyD, isN_tup]
        exact after
    · have z0 : decide ((((nrL m gs).length : Nat) : Int) = 0) = false := decide_eq_false (by omega)
      simp? only [b494_9, r1, cmp_nex, e1, List.length_map, z0]
      exact after
  rcases hl1 with rfl | ⟨d, rfl⟩
  all_goals
    simp? only [b494_7, f77, h_lots (n := n + 29) (show m ≤ 12 by omega)]
    refine lc_flt (ns := (lotsU m).mergeSort leL) (f := L) (stlL m gs) (fun r => L r) (by rw [List.length_mergeSort, lotsU_len]; show _ < 16777216; omega) (fun r hr => ?_) ?_
    · have hr2 := mem_lotsU.mp ((List.mergeSort_perm _ _).mem_iff.mp hr)
      have := lot_len hr2.1 hr2.2
      simp? only [f429, l_still (d := ()) (n := n + 27) (show r.length ≤ 1000 by omega) (show gs.length ≤ 1000000 by omega) (show m ≤ 1000 by omega)]
    · simp? only [wo_some]
      exact mid
theorem main78 (hsc : sc.length ≤ 63) : callN G (n + 31) 494 [.v (.scr sc)] = some (.v (.bl true), [.v (.scr sc)]) := by
  refine wc_eq (call_wp ⟨rfl, by decide⟩ ?_)
  simp? only [f494, b494_0, f119]
  refine WC.mono (p_pool (n := n + 29) hsc) ?_
  rintro _ _ ⟨xs, rfl, rfl, ht⟩
  simp? only [b494_1]
  refine ⟨by decide, ?_⟩
  refine for_rng (n := 3) (fun k τ => ∃ xs l3 l4 l5 l6 l7 l8 l9 l10 l11, τ = [some (.v (.scr sc)), none, some (.lst xs), l3, l4, l5, l6, l7, l8, l9, l10, l11] ∧ Pool xs) ⟨_, _, _, _, _, _, _, _, _, _, rfl, ht⟩ ?_ ?_
  · rintro k τ hk ⟨xs, l3, l4, l5, l6, l7, l8, l9, l10, l11, rfl, ht⟩
    have rest : ∀ (xs : List D) (m : Nat) (W : Wh), Pool xs → 1 ≤ m → m ≤ 8 → (∀ xs l4 l5 l6 l7 l8 l9 l10 l11, Pool xs → W.nx [some (.v (.scr sc)), none, some (.lst xs), some (.v (I k)), l4, l5, l6, l7, l8, l9, l10, l11]) →
        wpSs G (callN G (n + 30)) [0] b494_5 [some (.v (.scr sc)), none, some (.lst xs), some (.v (I k)), some (.v (I m)), l5, l6, l7, l8, l9, l10, l11] W := by
      intro xs m W ht h1 hm hW
      simp? only [b494_5, f427]
      refine WC.mono (p_arrows (n := n + 27) ht (show m ≤ 24 by omega)) ?_
      rintro _ _ ⟨gs, xs, rfl, A, hg, rfl, ht⟩
      simp? only [b494_6, kl5i495, f495, c_net2 (n := n + 26) A h1 (show m ≤ 12 by omega)]
      exact tail78 A hg h1 hm ht (.inl rfl) fun xs l7 l8 l9 l10 l11 ht => hW _ _ _ _ _ _ _ _ _ ht
    simp? only [wo_some]
    simp? only [b494_2, f120]
    refine WC.mono (p_drawL (n := n + 29) 6 rfl ht (by decide) (by decide)) ?_
    rintro _ _ ⟨i, xs, rfl, rfl, hi, ht⟩
    have em : (1 : Int) + (i : Int) = ((i + 1 : Nat) : Int) := by omega
    simp? only [em]
    simp? only [b494_3, f120]
    refine WC.mono (p_drawL (n := n + 29) 16 rfl ht (by decide) (by decide)) ?_
    rintro _ _ ⟨j, xs, rfl, rfl, hj, ht⟩
    simp? only [wo_some]
    split
    · simp? only [b494_4]
      exact rest _ 8 _ ht (by decide) (by decide) fun xs l4 l5 l6 l7 l8 l9 l10 l11 ht => ⟨_, _, _, _, _, _, _, _, _, _, rfl, ht⟩
    · exact rest _ (i + 1) _ ht (by omega) (by omega) fun xs l4 l5 l6 l7 l8 l9 l10 l11 ht => ⟨_, _, _, _, _, _, _, _, _, _, rfl, ht⟩
  · rintro τ ⟨xs, l3, l4, l5, l6, l7, l8, l9, l10, l11, rfl, ht⟩
    simp? only [b494_19]
theorem main_ok : ∀ ns : List Int, ns.length ≤ 63 → callN G 110 494 [.v (.scr ns)] = some (.v (.bl true), [.v (.scr ns)]) := fun ns h => main78 (n := 79) h
end

end Tx
namespace Tx
open PySem L2 Ev
def G : GS := ⟨[(0, f0), (1, f1), (2, f2), (3, f3), (4, f4), (5, f5), (6, f6), (56, f56), (8, f8), (414, f414), (9, f9), (416, f416), (491, f491), (417, f417), (492, f492), (493, f493), (418, f418), (419, f419), (119, f119), (120, f120), (121, f121), (77, f77), (124, f124), (426, f426), (427, f427), (428, f428), (429, f429), (494, f494), (495, f495), (437, f437), (438, f438)], [(5, kl5i495)], [.int 24, .int 1000, .int 6, .int 2000, .int 24, .tup [(.int 3), (.int 4), (.int 2)], .int 60, .int 24, .int 64, .int 12, .int 4, .int 3, .int 12, .int 10, .int 3, .int 12, .int 12, .int 200, .int 12]⟩
def tb : Tb := ⟨[(0, ("is_integer" : Str)), (1, ("is_between" : Str)), (2, ("is_pair" : Str)), (3, ("is_lot" : Str)), (4, ("bits_of" : Str)), (5, ("lowest" : Str)), (6, ("lot_of" : Str)), (56, ("has" : Str)), (8, ("check_part" : Str)), (414, ("is_arrow" : Str)), (9, ("check_stand" : Str)), (416, ("after_net_call" : Str)), (491, ("net_called" : Str)), (417, ("is_still" : Str)), (492, ("rests_from" : Str)), (493, ("net_rests" : Str)), (418, ("round_from" : Str)), (419, ("odd_round" : Str)), (119, ("_law_pool" : Str)), (120, ("_law_draw" : Str)), (121, ("_law_pick" : Str)), (77, ("_law_lots" : Str)), (124, ("_law_lot" : Str)), (426, ("_law_set" : Str)), (427, ("_law_arrows" : Str)), (428, ("_law_net_call" : Str)), (429, ("_law_net_still" : Str)), (494, ("law" : Str))], [(5, "Net")], [("size" : Str), ("near" : Str), ("whole" : Str), ("begin" : Str), ("ties" : Str), ("of" : Str), ("web" : Str), ("known" : Str), ("of_piece" : Str), ("stand" : Str), ("log" : Str), ("changes" : Str), ("back" : Str), ("copy" : Str), ("call" : Str), ("kept_web" : Str), ("begun" : Str), ("past" : Str), ("now" : Str), ("trying" : Str), ("places" : Str), ("stands" : Str), ("ends" : Str), ("sure" : Str), ("up" : Str), ("down" : Str), ("free" : Str), ("loose" : Str), ("middles" : Str), ("late" : Str), ("is_quiet" : Str), ("first_row" : Str), ("course" : Str), ("end_of" : Str), ("is_end" : Str), ("two_middles" : Str), ("two_ends" : Str), ("by" : Str), ("onto" : Str), ("order" : Str), ("arrows" : Str)], [("MOST_PARTS", 18)], G⟩
instance hf0 : HasF G 0 f0 := ⟨rfl⟩
instance hf1 : HasF G 1 f1 := ⟨rfl⟩
instance hf2 : HasF G 2 f2 := ⟨rfl⟩
instance hf3 : HasF G 3 f3 := ⟨rfl⟩
instance hf4 : HasF G 4 f4 := ⟨rfl⟩
instance hf5 : HasF G 5 f5 := ⟨rfl⟩
instance hf6 : HasF G 6 f6 := ⟨rfl⟩
instance hf56 : HasF G 56 f56 := ⟨rfl⟩
instance hf8 : HasF G 8 f8 := ⟨rfl⟩
instance hf414 : HasF G 414 f414 := ⟨rfl⟩
instance hf9 : HasF G 9 f9 := ⟨rfl⟩
instance hf416 : HasF G 416 f416 := ⟨rfl⟩
instance hf491 : HasF G 491 f491 := ⟨rfl⟩
instance hf417 : HasF G 417 f417 := ⟨rfl⟩
instance hf492 : HasF G 492 f492 := ⟨rfl⟩
instance hf493 : HasF G 493 f493 := ⟨rfl⟩
instance hf418 : HasF G 418 f418 := ⟨rfl⟩
instance hf419 : HasF G 419 f419 := ⟨rfl⟩
instance hf119 : HasF G 119 f119 := ⟨rfl⟩
instance hf120 : HasF G 120 f120 := ⟨rfl⟩
instance hf121 : HasF G 121 f121 := ⟨rfl⟩
instance hf77 : HasF G 77 f77 := ⟨rfl⟩
instance hf124 : HasF G 124 f124 := ⟨rfl⟩
instance hf426 : HasF G 426 f426 := ⟨rfl⟩
instance hf427 : HasF G 427 f427 := ⟨rfl⟩
instance hf428 : HasF G 428 f428 := ⟨rfl⟩
instance hf429 : HasF G 429 f429 := ⟨rfl⟩
instance hf494 : HasF G 494 f494 := ⟨rfl⟩
instance hf495 : HasF G 495 f495 := ⟨rfl⟩
instance hf437 : HasF G 437 f437 := ⟨rfl⟩
instance hf438 : HasF G 438 f438 := ⟨rfl⟩
instance hc5 : HasC G 5 kl5i495 := ⟨rfl⟩
instance hg18 : HasG G 18 (.int 12) := ⟨rfl⟩

theorem law_ok : ∀ ns : List Int, ns.length ≤ 63 → callN G 110 494 [.v (.scr ns)] = some (.v (.bl true), [.v (.scr ns)]) := main_ok

def top (i : Nat) : Stmt := PySem.Challenge.pw_silencers_k78_whole_calls_and_rests_of_n.main.body.getD i (.Pass ⟨0, 0, 0, 0⟩)
abbrev s0 : Stmt := top 6
def Nm0 : List Str := ["thing"]
def Pm0 : List Str := ["thing"]
theorem sc0 : FnScope Nm0 Pm0 (defScope s0) := ⟨rfl, rfl, rfl, by decide +kernel, rfl, by decide +kernel, by decide +kernel⟩
theorem ch0 : chSs tb ⟨Nm0, (defScope s0).names, true, [], true⟩ f0.body (defBody s0) = true := by decide +kernel
abbrev s1 : Stmt := top 7
def Nm1 : List Str := ["thing", "least", "most"]
def Pm1 : List Str := ["thing", "least", "most"]
theorem sc1 : FnScope Nm1 Pm1 (defScope s1) := ⟨rfl, rfl, rfl, by decide +kernel, rfl, by decide +kernel, by decide +kernel⟩
theorem ch1 : chSs tb ⟨Nm1, (defScope s1).names, true, [], true⟩ f1.body (defBody s1) = true := by decide +kernel
abbrev s2 : Stmt := top 8
def Nm2 : List Str := ["thing"]
def Pm2 : List Str := ["thing"]
theorem sc2 : FnScope Nm2 Pm2 (defScope s2) := ⟨rfl, rfl, rfl, by decide +kernel, rfl, by decide +kernel, by decide +kernel⟩
theorem ch2 : chSs tb ⟨Nm2, (defScope s2).names, true, [], true⟩ f2.body (defBody s2) = true := by decide +kernel
abbrev s3 : Stmt := top 9
def Nm3 : List Str := ["thing", "many", "last", "item"]
def Pm3 : List Str := ["thing", "many"]
theorem sc3 : FnScope Nm3 Pm3 (defScope s3) := ⟨rfl, rfl, rfl, by decide +kernel, rfl, by decide +kernel, by decide +kernel⟩
theorem ch3 : chSs tb ⟨Nm3, (defScope s3).names, true, [], true⟩ f3.body (defBody s3) = true := by decide +kernel
abbrev s4 : Stmt := top 10
def Nm4 : List Str := ["lot", "found", "item"]
def Pm4 : List Str := ["lot"]
theorem sc4 : FnScope Nm4 Pm4 (defScope s4) := ⟨rfl, rfl, rfl, by decide +kernel, rfl, by decide +kernel, by decide +kernel⟩
theorem ch4 : chSs tb ⟨Nm4, (defScope s4).names, true, [], true⟩ f4.body (defBody s4) = true := by decide +kernel
abbrev s5 : Stmt := top 11
def Nm5 : List Str := ["bits"]
def Pm5 : List Str := ["bits"]
theorem sc5 : FnScope Nm5 Pm5 (defScope s5) := ⟨rfl, rfl, rfl, by decide +kernel, rfl, by decide +kernel, by decide +kernel⟩
theorem ch5 : chSs tb ⟨Nm5, (defScope s5).names, true, [], true⟩ f5.body (defBody s5) = true := by decide +kernel
abbrev s6 : Stmt := top 12
def Nm6 : List Str := ["bits", "found"]
def Pm6 : List Str := ["bits"]
theorem sc6 : FnScope Nm6 Pm6 (defScope s6) := ⟨rfl, rfl, rfl, by decide +kernel, rfl, by decide +kernel, by decide +kernel⟩
theorem ch6 : chSs tb ⟨Nm6, (defScope s6).names, true, [], true⟩ f6.body (defBody s6) = true := by decide +kernel
abbrev s56 : Stmt := top 13
def Nm56 : List Str := ["bits", "number"]
def Pm56 : List Str := ["bits", "number"]
theorem sc56 : FnScope Nm56 Pm56 (defScope s56) := ⟨rfl, rfl, rfl, by decide +kernel, rfl, by decide +kernel, by decide +kernel⟩
theorem ch56 : chSs tb ⟨Nm56, (defScope s56).names, true, [], true⟩ f56.body (defBody s56) = true := by decide +kernel
abbrev s8 : Stmt := top 15
def Nm8 : List Str := ["web", "thing"]
def Pm8 : List Str := ["web", "thing"]
theorem sc8 : FnScope Nm8 Pm8 (defScope s8) := ⟨rfl, rfl, rfl, by decide +kernel, rfl, by decide +kernel, by decide +kernel⟩
theorem ch8 : chSs tb ⟨Nm8, (defScope s8).names, true, [], true⟩ f8.body (defBody s8) = true := by decide +kernel
abbrev s414 : Stmt := top 18
def Nm414 : List Str := ["thing", "size", "item"]
def Pm414 : List Str := ["thing", "size"]
theorem sc414 : FnScope Nm414 Pm414 (defScope s414) := ⟨rfl, rfl, rfl, by decide +kernel, rfl, by decide +kernel, by decide +kernel⟩
theorem ch414 : chSs tb ⟨Nm414, (defScope s414).names, true, [], true⟩ f414.body (defBody s414) = true := by decide +kernel
abbrev s9 : Stmt := top 20
def Nm9 : List Str := ["net", "thing"]
def Pm9 : List Str := ["net", "thing"]
theorem sc9 : FnScope Nm9 Pm9 (defScope s9) := ⟨rfl, rfl, rfl, by decide +kernel, rfl, by decide +kernel, by decide +kernel⟩
theorem ch9 : chSs tb ⟨Nm9, (defScope s9).names, true, [], true⟩ f9.body (defBody s9) = true := by decide +kernel
abbrev s416 : Stmt := top 21
def Nm416 : List Str := ["net", "bits", "part"]
def Pm416 : List Str := ["net", "bits", "part"]
theorem sc416 : FnScope Nm416 Pm416 (defScope s416) := ⟨rfl, rfl, rfl, by decide +kernel, rfl, by decide +kernel, by decide +kernel⟩
theorem ch416 : chSs tb ⟨Nm416, (defScope s416).names, true, [], true⟩ f416.body (defBody s416) = true := by decide +kernel
abbrev s491 : Stmt := top 22
def Nm491 : List Str := ["net", "stand", "part"]
def Pm491 : List Str := ["net", "stand", "part"]
theorem sc491 : FnScope Nm491 Pm491 (defScope s491) := ⟨rfl, rfl, rfl, by decide +kernel, rfl, by decide +kernel, by decide +kernel⟩
theorem ch491 : chSs tb ⟨Nm491, (defScope s491).names, true, [], true⟩ f491.body (defBody s491) = true := by decide +kernel
abbrev s417 : Stmt := top 23
def Nm417 : List Str := ["net", "bits", "part"]
def Pm417 : List Str := ["net", "bits"]
theorem sc417 : FnScope Nm417 Pm417 (defScope s417) := ⟨rfl, rfl, rfl, by decide +kernel, rfl, by decide +kernel, by decide +kernel⟩
theorem ch417 : chSs tb ⟨Nm417, (defScope s417).names, true, [], true⟩ f417.body (defBody s417) = true := by decide +kernel
abbrev s492 : Stmt := top 24
def Nm492 : List Str := ["net", "part", "yes", "no", "found"]
def Pm492 : List Str := ["net", "part", "yes", "no"]
theorem sc492 : FnScope Nm492 Pm492 (defScope s492) := ⟨rfl, rfl, rfl, by decide +kernel, rfl, by decide +kernel, by decide +kernel⟩
theorem ch492 : chSs tb ⟨Nm492, (defScope s492).names, true, [], true⟩ f492.body (defBody s492) = true := by decide +kernel
abbrev s493 : Stmt := top 25
def Nm493 : List Str := ["net", "bits"]
def Pm493 : List Str := ["net"]
theorem sc493 : FnScope Nm493 Pm493 (defScope s493) := ⟨rfl, rfl, rfl, by decide +kernel, rfl, by decide +kernel, by decide +kernel⟩
theorem ch493 : chSs tb ⟨Nm493, (defScope s493).names, true, [], true⟩ f493.body (defBody s493) = true := by decide +kernel
abbrev s418 : Stmt := top 26
def Nm418 : List Str := ["net", "first", "way", "seen", "here", "part", "found"]
def Pm418 : List Str := ["net", "first", "way", "seen"]
theorem sc418 : FnScope Nm418 Pm418 (defScope s418) := ⟨rfl, rfl, rfl, by decide +kernel, rfl, by decide +kernel, by decide +kernel⟩
theorem ch418 : chSs tb ⟨Nm418, (defScope s418).names, true, [], true⟩ f418.body (defBody s418) = true := by decide +kernel
abbrev s419 : Stmt := top 27
def Nm419 : List Str := ["net", "first", "found"]
def Pm419 : List Str := ["net"]
theorem sc419 : FnScope Nm419 Pm419 (defScope s419) := ⟨rfl, rfl, rfl, by decide +kernel, rfl, by decide +kernel, by decide +kernel⟩
theorem ch419 : chSs tb ⟨Nm419, (defScope s419).names, true, [], true⟩ f419.body (defBody s419) = true := by decide +kernel
abbrev s119 : Stmt := top 29
def Nm119 : List Str := ["_law_script", "_law_cell", "_law_great", "_law_small"]
def Pm119 : List Str := ["_law_script"]
theorem sc119 : FnScope Nm119 Pm119 (defScope s119) := ⟨rfl, rfl, rfl, by decide +kernel, rfl, by decide +kernel, by decide +kernel⟩
theorem ch119 : chSs tb ⟨Nm119, (defScope s119).names, true, [], true⟩ f119.body (defBody s119) = true := by decide +kernel
abbrev s120 : Stmt := top 30
def Nm120 : List Str := ["_law_pool_here", "_law_many", "_law_digit", "_law_cell", "_law_number"]
def Pm120 : List Str := ["_law_pool_here", "_law_many"]
theorem sc120 : FnScope Nm120 Pm120 (defScope s120) := ⟨rfl, rfl, rfl, by decide +kernel, rfl, by decide +kernel, by decide +kernel⟩
theorem ch120 : chSs tb ⟨Nm120, (defScope s120).names, true, [], true⟩ f120.body (defBody s120) = true := by decide +kernel
abbrev s121 : Stmt := top 31
def Nm121 : List Str := ["_law_pool_here", "_law_things"]
def Pm121 : List Str := ["_law_pool_here", "_law_things"]
theorem sc121 : FnScope Nm121 Pm121 (defScope s121) := ⟨rfl, rfl, rfl, by decide +kernel, rfl, by decide +kernel, by decide +kernel⟩
theorem ch121 : chSs tb ⟨Nm121, (defScope s121).names, true, [], true⟩ f121.body (defBody s121) = true := by decide +kernel
abbrev s77 : Stmt := top 32
def Nm77 : List Str := ["_law_size", "_law_lot_here", "_law_found", "_law_part"]
def Pm77 : List Str := ["_law_size"]
theorem sc77 : FnScope Nm77 Pm77 (defScope s77) := ⟨rfl, rfl, rfl, by decide +kernel, rfl, by decide +kernel, by decide +kernel⟩
theorem ch77 : chSs tb ⟨Nm77, (defScope s77).names, true, [], true⟩ f77.body (defBody s77) = true := by decide +kernel
abbrev s124 : Stmt := top 33
def Nm124 : List Str := ["_law_pool_here", "_law_size", "_law_part"]
def Pm124 : List Str := ["_law_pool_here", "_law_size"]
theorem sc124 : FnScope Nm124 Pm124 (defScope s124) := ⟨rfl, rfl, rfl, by decide +kernel, rfl, by decide +kernel, by decide +kernel⟩
theorem ch124 : chSs tb ⟨Nm124, (defScope s124).names, true, [], true⟩ f124.body (defBody s124) = true := by decide +kernel
abbrev s426 : Stmt := top 34
def Nm426 : List Str := ["_law_stand", "_law_part", "_law_flag", "_law_other", "_law_left"]
def Pm426 : List Str := ["_law_stand", "_law_part", "_law_flag"]
theorem sc426 : FnScope Nm426 Pm426 (defScope s426) := ⟨rfl, rfl, rfl, by decide +kernel, rfl, by decide +kernel, by decide +kernel⟩
theorem ch426 : chSs tb ⟨Nm426, (defScope s426).names, true, [], true⟩ f426.body (defBody s426) = true := by decide +kernel
abbrev s427 : Stmt := top 35
def Nm427 : List Str := ["_law_pool_here", "_law_size", "_law_thin", "_law_kind", "_law_found", "_law_one", "_law_other", "_law_fit"]
def Pm427 : List Str := ["_law_pool_here", "_law_size"]
theorem sc427 : FnScope Nm427 Pm427 (defScope s427) := ⟨rfl, rfl, rfl, by decide +kernel, rfl, by decide +kernel, by decide +kernel⟩
theorem ch427 : chSs tb ⟨Nm427, (defScope s427).names, true, [], true⟩ f427.body (defBody s427) = true := by decide +kernel
abbrev s428 : Stmt := top 36
def Nm428 : List Str := ["_law_arrows_here", "_law_stand", "_law_part", "_law_one", "_law_other"]
def Pm428 : List Str := ["_law_arrows_here", "_law_stand", "_law_part"]
theorem sc428 : FnScope Nm428 Pm428 (defScope s428) := ⟨rfl, rfl, rfl, by decide +kernel, rfl, by decide +kernel, by decide +kernel⟩
theorem ch428 : chSs tb ⟨Nm428, (defScope s428).names, true, [], true⟩ f428.body (defBody s428) = true := by decide +kernel
abbrev s429 : Stmt := top 37
def Nm429 : List Str := ["_law_size", "_law_arrows_here", "_law_stand", "_law_part"]
def Pm429 : List Str := ["_law_size", "_law_arrows_here", "_law_stand"]
theorem sc429 : FnScope Nm429 Pm429 (defScope s429) := ⟨rfl, rfl, rfl, by decide +kernel, rfl, by decide +kernel, by decide +kernel⟩
theorem ch429 : chSs tb ⟨Nm429, (defScope s429).names, true, [], true⟩ f429.body (defBody s429) = true := by decide +kernel
abbrev s494 : Stmt := top 38
def Nm494 : List Str := ["_law_script", "_law_lot_here", "_law_pool_here", "_law_turn", "_law_size", "_law_arrows_here", "_law_net", "_law_due", "_law_told", "_law_again", "_law_stand", "_law_part"]
def Pm494 : List Str := ["_law_script"]
theorem sc494 : FnScope Nm494 Pm494 (defScope s494) := ⟨rfl, rfl, rfl, by decide +kernel, rfl, by decide +kernel, by decide +kernel⟩
theorem ch494 : chSs tb ⟨Nm494, (defScope s494).names, true, [], true⟩ f494.body (defBody s494) = true := by decide +kernel
abbrev s495 : Stmt := inClass (top 19) 0
def Nm495 : List Str := ["self", "size", "arrows", "number", "item"]
def Pm495 : List Str := ["self", "size", "arrows"]
theorem sc495 : FnScope Nm495 Pm495 (defScope s495) := ⟨rfl, rfl, rfl, by decide +kernel, rfl, by decide +kernel, by decide +kernel⟩
theorem ch495 : chSs tb ⟨Nm495, (defScope s495).names, true, [], true⟩ f495.body (defBody s495) = true := by decide +kernel
abbrev s437 : Stmt := inClass (top 19) 1
def Nm437 : List Str := ["self", "size", "arrows", "one", "other"]
def Pm437 : List Str := ["self", "size", "arrows"]
theorem sc437 : FnScope Nm437 Pm437 (defScope s437) := ⟨rfl, rfl, rfl, by decide +kernel, rfl, by decide +kernel, by decide +kernel⟩
theorem ch437 : chSs tb ⟨Nm437, (defScope s437).names, true, [], true⟩ f437.body (defBody s437) = true := by decide +kernel
abbrev s438 : Stmt := inClass (top 19) 2
def Nm438 : List Str := ["self", "other"]
def Pm438 : List Str := ["self", "other"]
theorem sc438 : FnScope Nm438 Pm438 (defScope s438) := ⟨rfl, rfl, rfl, by decide +kernel, rfl, by decide +kernel, by decide +kernel⟩
theorem ch438 : chSs tb ⟨Nm438, (defScope s438).names, true, [], false⟩ f438.body (defBody s438) = true := by decide +kernel
theorem all_mk {P : Program} {w : World} {K : PySem.W.Frag} {h : Heap} {mg : Str → Option Value} {f0 f1 f2 f3 f4 f5 f6 f56 f8 f414 f9 f416 f491 f417 f492 f493 f418 f419 f119 f120 f121 f77 f124 f426 f427 f428 f429 f494 f495 f437 f438 C5 fl : Addr} {od0 an0 : Option Addr} {sl0 : Array (Option Value)} {oc0 kV0 dc0 pm0 cd0 ct0 : Value} {od1 an1 : Option Addr} {sl1 : Array (Option Value)} {oc1 kV1 dc1 pm1 cd1 ct1 : Value} {od2 an2 : Option Addr} {sl2 : Array (Option Value)} {oc2 kV2 dc2 pm2 cd2 ct2 : Value} {od3 an3 : Option Addr} {sl3 : Array (Option Value)} {oc3 kV3 dc3 pm3 cd3 ct3 : Value} {od4 an4 : Option Addr} {sl4 : Array (Option Value)} {oc4 kV4 dc4 pm4 cd4 ct4 : Value} {od5 an5 : Option Addr} {sl5 : Array (Option Value)} {oc5 kV5 dc5 pm5 cd5 ct5 : Value} {od6 an6 : Option Addr} {sl6 : Array (Option Value)} {oc6 kV6 dc6 pm6 cd6 ct6 : Value} {od56 an56 : Option Addr} {sl56 : Array (Option Value)} {oc56 kV56 dc56 pm56 cd56 ct56 : Value} {od8 an8 : Option Addr} {sl8 : Array (Option Value)} {oc8 kV8 dc8 pm8 cd8 ct8 : Value} {od414 an414 : Option Addr} {sl414 : Array (Option Value)} {oc414 kV414 dc414 pm414 cd414 ct414 : Value} {od9 an9 : Option Addr} {sl9 : Array (Option Value)} {oc9 kV9 dc9 pm9 cd9 ct9 : Value} {od416 an416 : Option Addr} {sl416 : Array (Option Value)} {oc416 kV416 dc416 pm416 cd416 ct416 : Value} {od491 an491 : Option Addr} {sl491 : Array (Option Value)} {oc491 kV491 dc491 pm491 cd491 ct491 : Value} {od417 an417 : Option Addr} {sl417 : Array (Option Value)} {oc417 kV417 dc417 pm417 cd417 ct417 : Value} {od492 an492 : Option Addr} {sl492 : Array (Option Value)} {oc492 kV492 dc492 pm492 cd492 ct492 : Value} {od493 an493 : Option Addr} {sl493 : Array (Option Value)} {oc493 kV493 dc493 pm493 cd493 ct493 : Value} {od418 an418 : Option Addr} {sl418 : Array (Option Value)} {oc418 kV418 dc418 pm418 cd418 ct418 : Value} {od419 an419 : Option Addr} {sl419 : Array (Option Value)} {oc419 kV419 dc419 pm419 cd419 ct419 : Value} {od119 an119 : Option Addr} {sl119 : Array (Option Value)} {oc119 kV119 dc119 pm119 cd119 ct119 : Value} {od120 an120 : Option Addr} {sl120 : Array (Option Value)} {oc120 kV120 dc120 pm120 cd120 ct120 : Value} {od121 an121 : Option Addr} {sl121 : Array (Option Value)} {oc121 kV121 dc121 pm121 cd121 ct121 : Value} {od77 an77 : Option Addr} {sl77 : Array (Option Value)} {oc77 kV77 dc77 pm77 cd77 ct77 : Value} {od124 an124 : Option Addr} {sl124 : Array (Option Value)} {oc124 kV124 dc124 pm124 cd124 ct124 : Value} {od426 an426 : Option Addr} {sl426 : Array (Option Value)} {oc426 kV426 dc426 pm426 cd426 ct426 : Value} {od427 an427 : Option Addr} {sl427 : Array (Option Value)} {oc427 kV427 dc427 pm427 cd427 ct427 : Value} {od428 an428 : Option Addr} {sl428 : Array (Option Value)} {oc428 kV428 dc428 pm428 cd428 ct428 : Value} {od429 an429 : Option Addr} {sl429 : Array (Option Value)} {oc429 kV429 dc429 pm429 cd429 ct429 : Value} {od494 an494 : Option Addr} {sl494 : Array (Option Value)} {oc494 kV494 dc494 pm494 cd494 ct494 : Value} {od495 an495 : Option Addr} {sl495 : Array (Option Value)} {oc495 kV495 dc495 pm495 cd495 ct495 : Value} {od437 an437 : Option Addr} {sl437 : Array (Option Value)} {oc437 kV437 dc437 pm437 cd437 ct437 : Value} {od438 an438 : Option Addr} {sl438 : Array (Option Value)} {oc438 kV438 dc438 pm438 cd438 ct438 : Value} {t18 : Tok} (X : K.In h) (G : h.Ns mainGlobals mg) (hfa : mg "law" = some (.ref fl))
    (aC5 : PySem.W.nsIn K mainGlobals "Net" = some (some (.ref C5)))
    (a0 : PySem.W.nsIn K mainGlobals "is_integer" = some (some (.ref f0)))
    (l0 : K.lookup f0 = some ⟨oc0, od0, .func (PySem.W.fnOf "is_integer" "is_integer" (defArgs s0) (defBody s0) (defScope s0) .none kV0 dc0 pm0 an0 cd0 ct0), sl0⟩)
    (c0 : PySem.W.codeIn K cd0 "is_integer" = true)
    (k0 : PySem.W.keepIn K (.ref f0) = true)
    (a1 : PySem.W.nsIn K mainGlobals "is_between" = some (some (.ref f1)))
    (l1 : K.lookup f1 = some ⟨oc1, od1, .func (PySem.W.fnOf "is_between" "is_between" (defArgs s1) (defBody s1) (defScope s1) .none kV1 dc1 pm1 an1 cd1 ct1), sl1⟩)
    (c1 : PySem.W.codeIn K cd1 "is_between" = true)
    (k1 : PySem.W.keepIn K (.ref f1) = true)
    (a2 : PySem.W.nsIn K mainGlobals "is_pair" = some (some (.ref f2)))
    (l2 : K.lookup f2 = some ⟨oc2, od2, .func (PySem.W.fnOf "is_pair" "is_pair" (defArgs s2) (defBody s2) (defScope s2) .none kV2 dc2 pm2 an2 cd2 ct2), sl2⟩)
    (c2 : PySem.W.codeIn K cd2 "is_pair" = true)
    (k2 : PySem.W.keepIn K (.ref f2) = true)
    (a3 : PySem.W.nsIn K mainGlobals "is_lot" = some (some (.ref f3)))
    (l3 : K.lookup f3 = some ⟨oc3, od3, .func (PySem.W.fnOf "is_lot" "is_lot" (defArgs s3) (defBody s3) (defScope s3) .none kV3 dc3 pm3 an3 cd3 ct3), sl3⟩)
    (c3 : PySem.W.codeIn K cd3 "is_lot" = true)
    (k3 : PySem.W.keepIn K (.ref f3) = true)
    (a4 : PySem.W.nsIn K mainGlobals "bits_of" = some (some (.ref f4)))
    (l4 : K.lookup f4 = some ⟨oc4, od4, .func (PySem.W.fnOf "bits_of" "bits_of" (defArgs s4) (defBody s4) (defScope s4) .none kV4 dc4 pm4 an4 cd4 ct4), sl4⟩)
    (c4 : PySem.W.codeIn K cd4 "bits_of" = true)
    (k4 : PySem.W.keepIn K (.ref f4) = true)
    (a5 : PySem.W.nsIn K mainGlobals "lowest" = some (some (.ref f5)))
    (l5 : K.lookup f5 = some ⟨oc5, od5, .func (PySem.W.fnOf "lowest" "lowest" (defArgs s5) (defBody s5) (defScope s5) .none kV5 dc5 pm5 an5 cd5 ct5), sl5⟩)
    (c5 : PySem.W.codeIn K cd5 "lowest" = true)
    (k5 : PySem.W.keepIn K (.ref f5) = true)
    (a6 : PySem.W.nsIn K mainGlobals "lot_of" = some (some (.ref f6)))
    (l6 : K.lookup f6 = some ⟨oc6, od6, .func (PySem.W.fnOf "lot_of" "lot_of" (defArgs s6) (defBody s6) (defScope s6) .none kV6 dc6 pm6 an6 cd6 ct6), sl6⟩)
    (c6 : PySem.W.codeIn K cd6 "lot_of" = true)
    (k6 : PySem.W.keepIn K (.ref f6) = true)
    (a56 : PySem.W.nsIn K mainGlobals "has" = some (some (.ref f56)))
    (l56 : K.lookup f56 = some ⟨oc56, od56, .func (PySem.W.fnOf "has" "has" (defArgs s56) (defBody s56) (defScope s56) .none kV56 dc56 pm56 an56 cd56 ct56), sl56⟩)
    (c56 : PySem.W.codeIn K cd56 "has" = true)
    (k56 : PySem.W.keepIn K (.ref f56) = true)
    (a8 : PySem.W.nsIn K mainGlobals "check_part" = some (some (.ref f8)))
    (l8 : K.lookup f8 = some ⟨oc8, od8, .func (PySem.W.fnOf "check_part" "check_part" (defArgs s8) (defBody s8) (defScope s8) .none kV8 dc8 pm8 an8 cd8 ct8), sl8⟩)
    (c8 : PySem.W.codeIn K cd8 "check_part" = true)
    (k8 : PySem.W.keepIn K (.ref f8) = true)
    (a414 : PySem.W.nsIn K mainGlobals "is_arrow" = some (some (.ref f414)))
    (l414 : K.lookup f414 = some ⟨oc414, od414, .func (PySem.W.fnOf "is_arrow" "is_arrow" (defArgs s414) (defBody s414) (defScope s414) .none kV414 dc414 pm414 an414 cd414 ct414), sl414⟩)
    (c414 : PySem.W.codeIn K cd414 "is_arrow" = true)
    (k414 : PySem.W.keepIn K (.ref f414) = true)
    (a9 : PySem.W.nsIn K mainGlobals "check_stand" = some (some (.ref f9)))
    (l9 : K.lookup f9 = some ⟨oc9, od9, .func (PySem.W.fnOf "check_stand" "check_stand" (defArgs s9) (defBody s9) (defScope s9) .none kV9 dc9 pm9 an9 cd9 ct9), sl9⟩)
    (c9 : PySem.W.codeIn K cd9 "check_stand" = true)
    (k9 : PySem.W.keepIn K (.ref f9) = true)
    (a416 : PySem.W.nsIn K mainGlobals "after_net_call" = some (some (.ref f416)))
    (l416 : K.lookup f416 = some ⟨oc416, od416, .func (PySem.W.fnOf "after_net_call" "after_net_call" (defArgs s416) (defBody s416) (defScope s416) .none kV416 dc416 pm416 an416 cd416 ct416), sl416⟩)
    (c416 : PySem.W.codeIn K cd416 "after_net_call" = true)
    (k416 : PySem.W.keepIn K (.ref f416) = true)
    (a491 : PySem.W.nsIn K mainGlobals "net_called" = some (some (.ref f491)))
    (l491 : K.lookup f491 = some ⟨oc491, od491, .func (PySem.W.fnOf "net_called" "net_called" (defArgs s491) (defBody s491) (defScope s491) .none kV491 dc491 pm491 an491 cd491 ct491), sl491⟩)
    (c491 : PySem.W.codeIn K cd491 "net_called" = true)
    (k491 : PySem.W.keepIn K (.ref f491) = true)
    (a417 : PySem.W.nsIn K mainGlobals "is_still" = some (some (.ref f417)))
    (l417 : K.lookup f417 = some ⟨oc417, od417, .func (PySem.W.fnOf "is_still" "is_still" (defArgs s417) (defBody s417) (defScope s417) .none kV417 dc417 pm417 an417 cd417 ct417), sl417⟩)
    (c417 : PySem.W.codeIn K cd417 "is_still" = true)
    (k417 : PySem.W.keepIn K (.ref f417) = true)
    (a492 : PySem.W.nsIn K mainGlobals "rests_from" = some (some (.ref f492)))
    (l492 : K.lookup f492 = some ⟨oc492, od492, .func (PySem.W.fnOf "rests_from" "rests_from" (defArgs s492) (defBody s492) (defScope s492) .none kV492 dc492 pm492 an492 cd492 ct492), sl492⟩)
    (c492 : PySem.W.codeIn K cd492 "rests_from" = true)
    (k492 : PySem.W.keepIn K (.ref f492) = true)
    (a493 : PySem.W.nsIn K mainGlobals "net_rests" = some (some (.ref f493)))
    (l493 : K.lookup f493 = some ⟨oc493, od493, .func (PySem.W.fnOf "net_rests" "net_rests" (defArgs s493) (defBody s493) (defScope s493) .none kV493 dc493 pm493 an493 cd493 ct493), sl493⟩)
    (c493 : PySem.W.codeIn K cd493 "net_rests" = true)
    (k493 : PySem.W.keepIn K (.ref f493) = true)
    (a418 : PySem.W.nsIn K mainGlobals "round_from" = some (some (.ref f418)))
    (l418 : K.lookup f418 = some ⟨oc418, od418, .func (PySem.W.fnOf "round_from" "round_from" (defArgs s418) (defBody s418) (defScope s418) .none kV418 dc418 pm418 an418 cd418 ct418), sl418⟩)
    (c418 : PySem.W.codeIn K cd418 "round_from" = true)
    (k418 : PySem.W.keepIn K (.ref f418) = true)
    (a419 : PySem.W.nsIn K mainGlobals "odd_round" = some (some (.ref f419)))
    (l419 : K.lookup f419 = some ⟨oc419, od419, .func (PySem.W.fnOf "odd_round" "odd_round" (defArgs s419) (defBody s419) (defScope s419) .none kV419 dc419 pm419 an419 cd419 ct419), sl419⟩)
    (c419 : PySem.W.codeIn K cd419 "odd_round" = true)
    (k419 : PySem.W.keepIn K (.ref f419) = true)
    (a119 : PySem.W.nsIn K mainGlobals "_law_pool" = some (some (.ref f119)))
    (l119 : K.lookup f119 = some ⟨oc119, od119, .func (PySem.W.fnOf "_law_pool" "_law_pool" (defArgs s119) (defBody s119) (defScope s119) .none kV119 dc119 pm119 an119 cd119 ct119), sl119⟩)
    (c119 : PySem.W.codeIn K cd119 "_law_pool" = true)
    (k119 : PySem.W.keepIn K (.ref f119) = true)
    (a120 : PySem.W.nsIn K mainGlobals "_law_draw" = some (some (.ref f120)))
    (l120 : K.lookup f120 = some ⟨oc120, od120, .func (PySem.W.fnOf "_law_draw" "_law_draw" (defArgs s120) (defBody s120) (defScope s120) .none kV120 dc120 pm120 an120 cd120 ct120), sl120⟩)
    (c120 : PySem.W.codeIn K cd120 "_law_draw" = true)
    (k120 : PySem.W.keepIn K (.ref f120) = true)
    (a121 : PySem.W.nsIn K mainGlobals "_law_pick" = some (some (.ref f121)))
    (l121 : K.lookup f121 = some ⟨oc121, od121, .func (PySem.W.fnOf "_law_pick" "_law_pick" (defArgs s121) (defBody s121) (defScope s121) .none kV121 dc121 pm121 an121 cd121 ct121), sl121⟩)
    (c121 : PySem.W.codeIn K cd121 "_law_pick" = true)
    (k121 : PySem.W.keepIn K (.ref f121) = true)
    (a77 : PySem.W.nsIn K mainGlobals "_law_lots" = some (some (.ref f77)))
    (l77 : K.lookup f77 = some ⟨oc77, od77, .func (PySem.W.fnOf "_law_lots" "_law_lots" (defArgs s77) (defBody s77) (defScope s77) .none kV77 dc77 pm77 an77 cd77 ct77), sl77⟩)
    (c77 : PySem.W.codeIn K cd77 "_law_lots" = true)
    (k77 : PySem.W.keepIn K (.ref f77) = true)
    (a124 : PySem.W.nsIn K mainGlobals "_law_lot" = some (some (.ref f124)))
    (l124 : K.lookup f124 = some ⟨oc124, od124, .func (PySem.W.fnOf "_law_lot" "_law_lot" (defArgs s124) (defBody s124) (defScope s124) .none kV124 dc124 pm124 an124 cd124 ct124), sl124⟩)
    (c124 : PySem.W.codeIn K cd124 "_law_lot" = true)
    (k124 : PySem.W.keepIn K (.ref f124) = true)
    (a426 : PySem.W.nsIn K mainGlobals "_law_set" = some (some (.ref f426)))
    (l426 : K.lookup f426 = some ⟨oc426, od426, .func (PySem.W.fnOf "_law_set" "_law_set" (defArgs s426) (defBody s426) (defScope s426) .none kV426 dc426 pm426 an426 cd426 ct426), sl426⟩)
    (c426 : PySem.W.codeIn K cd426 "_law_set" = true)
    (k426 : PySem.W.keepIn K (.ref f426) = true)
    (a427 : PySem.W.nsIn K mainGlobals "_law_arrows" = some (some (.ref f427)))
    (l427 : K.lookup f427 = some ⟨oc427, od427, .func (PySem.W.fnOf "_law_arrows" "_law_arrows" (defArgs s427) (defBody s427) (defScope s427) .none kV427 dc427 pm427 an427 cd427 ct427), sl427⟩)
    (c427 : PySem.W.codeIn K cd427 "_law_arrows" = true)
    (k427 : PySem.W.keepIn K (.ref f427) = true)
    (a428 : PySem.W.nsIn K mainGlobals "_law_net_call" = some (some (.ref f428)))
    (l428 : K.lookup f428 = some ⟨oc428, od428, .func (PySem.W.fnOf "_law_net_call" "_law_net_call" (defArgs s428) (defBody s428) (defScope s428) .none kV428 dc428 pm428 an428 cd428 ct428), sl428⟩)
    (c428 : PySem.W.codeIn K cd428 "_law_net_call" = true)
    (k428 : PySem.W.keepIn K (.ref f428) = true)
    (a429 : PySem.W.nsIn K mainGlobals "_law_net_still" = some (some (.ref f429)))
    (l429 : K.lookup f429 = some ⟨oc429, od429, .func (PySem.W.fnOf "_law_net_still" "_law_net_still" (defArgs s429) (defBody s429) (defScope s429) .none kV429 dc429 pm429 an429 cd429 ct429), sl429⟩)
    (c429 : PySem.W.codeIn K cd429 "_law_net_still" = true)
    (k429 : PySem.W.keepIn K (.ref f429) = true)
    (a494 : PySem.W.nsIn K mainGlobals "law" = some (some (.ref f494)))
    (l494 : K.lookup f494 = some ⟨oc494, od494, .func (PySem.W.fnOf "law" "law" (defArgs s494) (defBody s494) (defScope s494) .none kV494 dc494 pm494 an494 cd494 ct494), sl494⟩)
    (c494 : PySem.W.codeIn K cd494 "law" = true)
    (k494 : PySem.W.keepIn K (.ref f494) = true)
    (a495 : PySem.W.findIn K (.ref C5) "__init__" = some (some (.ref f495)))
    (i495 : PySem.W.isFn K (.ref f495) = true)
    (l495 : K.lookup f495 = some ⟨oc495, od495, .func (PySem.W.fnOf "__init__" "Net.__init__" (defArgs s495) (defBody s495) (defScope s495) .none kV495 dc495 pm495 an495 cd495 ct495), sl495⟩)
    (c495 : PySem.W.codeIn K cd495 "Net.__init__" = true)
    (k495 : PySem.W.keepIn K (.ref f495) = true)
    (a437 : PySem.W.findIn K (.ref C5) "begin" = some (some (.ref f437)))
    (i437 : PySem.W.isFn K (.ref f437) = true)
    (l437 : K.lookup f437 = some ⟨oc437, od437, .func (PySem.W.fnOf "begin" "Net.begin" (defArgs s437) (defBody s437) (defScope s437) .none kV437 dc437 pm437 an437 cd437 ct437), sl437⟩)
    (c437 : PySem.W.codeIn K cd437 "Net.begin" = true)
    (k437 : PySem.W.keepIn K (.ref f437) = true)
    (a438 : PySem.W.findIn K (.ref C5) "__eq__" = some (some (.ref f438)))
    (i438 : PySem.W.isFn K (.ref f438) = true)
    (l438 : K.lookup f438 = some ⟨oc438, od438, .func (PySem.W.fnOf "__eq__" "Net.__eq__" (defArgs s438) (defBody s438) (defScope s438) .none kV438 dc438 pm438 an438 cd438 ct438), sl438⟩)
    (c438 : PySem.W.codeIn K cd438 "Net.__eq__" = true)
    (k438 : PySem.W.keepIn K (.ref f438) = true)
    (pg5 : PySem.W.plainGet K C5 Str.empty = true)
    (hd5 : PySem.W.hasDictIn K C5 = true)
    (po5 : PySem.W.plainOver K C5 = true)
    (sa5 : PySem.W.findIn K (.ref C5) "__setattr__" = some (some (.builtin "object.__setattr__")))
    (mk5 : PySem.W.makesIn K C5 = true)
    (kc5 : PySem.W.keepIn K (.ref C5) = true)
    (ne5 : PySem.W.findIn K (.ref C5) "__ne__" = some (some (.builtin "object.__ne__")))
    (ia5 : PySem.W.findIn K (.ref C5) "__class__" = some (some (.builtin "object.__class__")))
    (im5 : PySem.W.mroIn K C5 (.type "object") = some true)
    (it5_0 : PySem.W.mroIn K C5 (.type "NoneType") = some false)
    (it5_1 : PySem.W.mroIn K C5 (.type "bool") = some false)
    (it5_2 : PySem.W.mroIn K C5 (.type "int") = some false)
    (it5_3 : PySem.W.mroIn K C5 (.type "str") = some false)
    (it5_4 : PySem.W.mroIn K C5 (.type "list") = some false)
    (it5_5 : PySem.W.mroIn K C5 (.type "tuple") = some false)
    (it5_6 : PySem.W.mroIn K C5 (.type "dict") = some false)
    (iy5 : PySem.W.typeIn K (.ref C5) = some (.type "type"))
    (ic5_5 : PySem.W.mroIn K C5 (.ref C5) = some true)
    (n5_0 : PySem.W.findIn K (.ref C5) "size" = some none)
    (n5_2 : PySem.W.findIn K (.ref C5) "whole" = some none)
    (n5_37 : PySem.W.findIn K (.ref C5) "by" = some none)
    (n5_38 : PySem.W.findIn K (.ref C5) "onto" = some none)
    (n5_40 : PySem.W.findIn K (.ref C5) "arrows" = some none)
    (igt : PySem.W.specialIn K (.builtin "object.__class__") "__get__" = some (some (.builtin "getset_descriptor.__get__")))
    (itk : PySem.W.takesIn K (.builtin "object.__class__") = some true)
    (z0 : PySem.W.nsIn K mainGlobals "len" = some none)
    (z1 : PySem.W.nsIn K mainGlobals "isinstance" = some none)
    (z2 : PySem.W.nsIn K mainGlobals "int" = some none)
    (z3 : PySem.W.nsIn K mainGlobals "min" = some none)
    (z4 : PySem.W.nsIn K mainGlobals "max" = some none)
    (z5 : PySem.W.nsIn K mainGlobals "abs" = some none)
    (z6 : PySem.W.nsIn K mainGlobals "tuple" = some none)
    (z7 : PySem.W.nsIn K mainGlobals "list" = some none)
    (z8 : PySem.W.nsIn K mainGlobals "sorted" = some none)
    (z9 : PySem.W.nsIn K mainGlobals "all" = some none)
    (z10 : PySem.W.nsIn K mainGlobals "any" = some none)
    (z11 : PySem.W.nsIn K mainGlobals "sum" = some none)
    (z12 : PySem.W.nsIn K mainGlobals "bool" = some none)
    (z13 : PySem.W.nsIn K mainGlobals "str" = some none)
    (z14 : PySem.W.nsIn K mainGlobals "dict" = some none)
    (z15 : PySem.W.nsIn K mainGlobals "range" = some none)
    (z16 : PySem.W.nsIn K mainGlobals "enumerate" = some none)
    (z17 : PySem.W.nsIn K mainGlobals "zip" = some none)
    (z18 : PySem.W.nsIn K mainGlobals "set" = some none)
    (z19 : PySem.W.nsIn K mainGlobals "repr" = some none)
    (vc18 : PySem.W.nsIn K mainGlobals "MOST_PARTS" = some (some (.int 12 t18)))
    : ∃ fd : FuncData, (∀ (s : Shared) (v : Value), BindsTo s fd ⟨[v], []⟩ [("_law_script", v)]) ∧ ∃ c : Cn, c.K = K ∧ ∀ base : Heap, ∀ n : Nat, FnR true P w K mg base CX0 (2 * n + 1) fl fd ["_law_script"] (spC c (callN Tx.G n) 494) := by
  have e := hfa.symm.trans (PySem.W.mg_of X G a494)
  cases e
  have F0 := fun_mk (st := s0) l0 c0 k0
  have B0 := F0.binds (ps := Pm0) fun _ _ _ _ _ _ us hl => match us, hl with | [_], _ => rfl
  have F1 := fun_mk (st := s1) l1 c1 k1
  have B1 := F1.binds (ps := Pm1) fun _ _ _ _ _ _ us hl => match us, hl with | [_, _, _], _ => rfl
  have F2 := fun_mk (st := s2) l2 c2 k2
  have B2 := F2.binds (ps := Pm2) fun _ _ _ _ _ _ us hl => match us, hl with | [_], _ => rfl
  have F3 := fun_mk (st := s3) l3 c3 k3
  have B3 := F3.binds (ps := Pm3) fun _ _ _ _ _ _ us hl => match us, hl with | [_, _], _ => rfl
  have F4 := fun_mk (st := s4) l4 c4 k4
  have B4 := F4.binds (ps := Pm4) fun _ _ _ _ _ _ us hl => match us, hl with | [_], _ => rfl
  have F5 := fun_mk (st := s5) l5 c5 k5
  have B5 := F5.binds (ps := Pm5) fun _ _ _ _ _ _ us hl => match us, hl with | [_], _ => rfl
  have F6 := fun_mk (st := s6) l6 c6 k6
  have B6 := F6.binds (ps := Pm6) fun _ _ _ _ _ _ us hl => match us, hl with | [_], _ => rfl
  have F56 := fun_mk (st := s56) l56 c56 k56
  have B56 := F56.binds (ps := Pm56) fun _ _ _ _ _ _ us hl => match us, hl with | [_, _], _ => rfl
  have F8 := fun_mk (st := s8) l8 c8 k8
  have B8 := F8.binds (ps := Pm8) fun _ _ _ _ _ _ us hl => match us, hl with | [_, _], _ => rfl
  have F414 := fun_mk (st := s414) l414 c414 k414
  have B414 := F414.binds (ps := Pm414) fun _ _ _ _ _ _ us hl => match us, hl with | [_, _], _ => rfl
  have F9 := fun_mk (st := s9) l9 c9 k9
  have B9 := F9.binds (ps := Pm9) fun _ _ _ _ _ _ us hl => match us, hl with | [_, _], _ => rfl
  have F416 := fun_mk (st := s416) l416 c416 k416
  have B416 := F416.binds (ps := Pm416) fun _ _ _ _ _ _ us hl => match us, hl with | [_, _, _], _ => rfl
  have F491 := fun_mk (st := s491) l491 c491 k491
  have B491 := F491.binds (ps := Pm491) fun _ _ _ _ _ _ us hl => match us, hl with | [_, _, _], _ => rfl
  have F417 := fun_mk (st := s417) l417 c417 k417
  have B417 := F417.binds (ps := Pm417) fun _ _ _ _ _ _ us hl => match us, hl with | [_, _], _ => rfl
  have F492 := fun_mk (st := s492) l492 c492 k492
  have B492 := F492.binds (ps := Pm492) fun _ _ _ _ _ _ us hl => match us, hl with | [_, _, _, _], _ => rfl
  have F493 := fun_mk (st := s493) l493 c493 k493
  have B493 := F493.binds (ps := Pm493) fun _ _ _ _ _ _ us hl => match us, hl with | [_], _ => rfl
  have F418 := fun_mk (st := s418) l418 c418 k418
  have B418 := F418.binds (ps := Pm418) fun _ _ _ _ _ _ us hl => match us, hl with | [_, _, _, _], _ => rfl
  have F419 := fun_mk (st := s419) l419 c419 k419
  have B419 := F419.binds (ps := Pm419) fun _ _ _ _ _ _ us hl => match us, hl with | [_], _ => rfl
  have F119 := fun_mk (st := s119) l119 c119 k119
  have B119 := F119.binds (ps := Pm119) fun _ _ _ _ _ _ us hl => match us, hl with | [_], _ => rfl
  have F120 := fun_mk (st := s120) l120 c120 k120
  have B120 := F120.binds (ps := Pm120) fun _ _ _ _ _ _ us hl => match us, hl with | [_, _], _ => rfl
  have F121 := fun_mk (st := s121) l121 c121 k121
  have B121 := F121.binds (ps := Pm121) fun _ _ _ _ _ _ us hl => match us, hl with | [_, _], _ => rfl
  have F77 := fun_mk (st := s77) l77 c77 k77
  have B77 := F77.binds (ps := Pm77) fun _ _ _ _ _ _ us hl => match us, hl with | [_], _ => rfl
  have F124 := fun_mk (st := s124) l124 c124 k124
  have B124 := F124.binds (ps := Pm124) fun _ _ _ _ _ _ us hl => match us, hl with | [_, _], _ => rfl
  have F426 := fun_mk (st := s426) l426 c426 k426
  have B426 := F426.binds (ps := Pm426) fun _ _ _ _ _ _ us hl => match us, hl with | [_, _, _], _ => rfl
  have F427 := fun_mk (st := s427) l427 c427 k427
  have B427 := F427.binds (ps := Pm427) fun _ _ _ _ _ _ us hl => match us, hl with | [_, _], _ => rfl
  have F428 := fun_mk (st := s428) l428 c428 k428
  have B428 := F428.binds (ps := Pm428) fun _ _ _ _ _ _ us hl => match us, hl with | [_, _, _], _ => rfl
  have F429 := fun_mk (st := s429) l429 c429 k429
  have B429 := F429.binds (ps := Pm429) fun _ _ _ _ _ _ us hl => match us, hl with | [_, _, _], _ => rfl
  have F494 := fun_mk (st := s494) l494 c494 k494
  have B494 := F494.binds (ps := Pm494) fun _ _ _ _ _ _ us hl => match us, hl with | [_], _ => rfl
  have F495 := fun_mk (st := s495) l495 c495 k495
  have B495 := F495.binds (ps := Pm495) fun _ _ _ _ _ _ us hl => match us, hl with | [_, _, _], _ => rfl
  have F437 := fun_mk (st := s437) l437 c437 k437
  have B437 := F437.binds (ps := Pm437) fun _ _ _ _ _ _ us hl => match us, hl with | [_, _, _], _ => rfl
  have F438 := fun_mk (st := s438) l438 c438 k438
  have B438 := F438.binds (ps := Pm438) fun _ _ _ _ _ _ us hl => match us, hl with | [_, _], _ => rfl
  have K5 : Cls K C5 := ⟨pg5, hd5, po5, sa5⟩
  have isc : ∀ q ∈ ([(5, C5)] : List (Nat × Addr)), IsC K [(5, C5)] q.1 q.2 := mc (isC_mk K5 ia5 igt itk im5 iy5 (fun t => by cases t; exact it5_0; exact it5_1; exact it5_2; exact it5_3; exact it5_4; exact it5_5; exact it5_6) ic5_5 (mc (.inl ⟨rfl, rfl⟩) mc_nil)) mc_nil
  let c : Cn := ⟨K, [(5, C5)], tb.attrs, by decide +kernel, fun ci f => (Tx.G.cls.lookup ci).any fun k => k.fl.contains f, isc⟩
  let fa : Nat → Addr := fun i => ([((0 : Nat), f0), ((1 : Nat), f1), ((2 : Nat), f2), ((3 : Nat), f3), ((4 : Nat), f4), ((5 : Nat), f5), ((6 : Nat), f6), ((56 : Nat), f56), ((8 : Nat), f8), ((414 : Nat), f414), ((9 : Nat), f9), ((416 : Nat), f416), ((491 : Nat), f491), ((417 : Nat), f417), ((492 : Nat), f492), ((493 : Nat), f493), ((418 : Nat), f418), ((419 : Nat), f419), ((119 : Nat), f119), ((120 : Nat), f120), ((121 : Nat), f121), ((77 : Nat), f77), ((124 : Nat), f124), ((426 : Nat), f426), ((427 : Nat), f427), ((428 : Nat), f428), ((429 : Nat), f429), ((494 : Nat), f494), ((495 : Nat), f495), ((437 : Nat), f437), ((438 : Nat), f438)].lookup i).getD 0
  let fd : Nat → FuncData := fun i => ([((0 : Nat), PySem.W.fnOf "is_integer" "is_integer" (defArgs s0) (defBody s0) (defScope s0) .none kV0 dc0 pm0 an0 cd0 ct0), ((1 : Nat), PySem.W.fnOf "is_between" "is_between" (defArgs s1) (defBody s1) (defScope s1) .none kV1 dc1 pm1 an1 cd1 ct1), ((2 : Nat), PySem.W.fnOf "is_pair" "is_pair" (defArgs s2) (defBody s2) (defScope s2) .none kV2 dc2 pm2 an2 cd2 ct2), ((3 : Nat), PySem.W.fnOf "is_lot" "is_lot" (defArgs s3) (defBody s3) (defScope s3) .none kV3 dc3 pm3 an3 cd3 ct3), ((4 : Nat), PySem.W.fnOf "bits_of" "bits_of" (defArgs s4) (defBody s4) (defScope s4) .none kV4 dc4 pm4 an4 cd4 ct4), ((5 : Nat), PySem.W.fnOf "lowest" "lowest" (defArgs s5) (defBody s5) (defScope s5) .none kV5 dc5 pm5 an5 cd5 ct5), ((6 : Nat), PySem.W.fnOf "lot_of" "lot_of" (defArgs s6) (defBody s6) (defScope s6) .none kV6 dc6 pm6 an6 cd6 ct6), ((56 : Nat), PySem.W.fnOf "has" "has" (defArgs s56) (defBody s56) (defScope s56) .none kV56 dc56 pm56 an56 cd56 ct56), ((8 : Nat), PySem.W.fnOf "check_part" "check_part" (defArgs s8) (defBody s8) (defScope s8) .none kV8 dc8 pm8 an8 cd8 ct8), ((414 : Nat), PySem.W.fnOf "is_arrow" "is_arrow" (defArgs s414) (defBody s414) (defScope s414) .none kV414 dc414 pm414 an414 cd414 ct414), ((9 : Nat), PySem.W.fnOf "check_stand" "check_stand" (defArgs s9) (defBody s9) (defScope s9) .none kV9 dc9 pm9 an9 cd9 ct9), ((416 : Nat), PySem.W.fnOf "after_net_call" "after_net_call" (defArgs s416) (defBody s416) (defScope s416) .none kV416 dc416 pm416 an416 cd416 ct416), ((491 : Nat), PySem.W.fnOf "net_called" "net_called" (defArgs s491) (defBody s491) (defScope s491) .none kV491 dc491 pm491 an491 cd491 ct491), ((417 : Nat), PySem.W.fnOf "is_still" "is_still" (defArgs s417) (defBody s417) (defScope s417) .none kV417 dc417 pm417 an417 cd417 ct417), ((492 : Nat), PySem.W.fnOf "rests_from" "rests_from" (defArgs s492) (defBody s492) (defScope s492) .none kV492 dc492 pm492 an492 cd492 ct492), ((493 : Nat), PySem.W.fnOf "net_rests" "net_rests" (defArgs s493) (defBody s493) (defScope s493) .none kV493 dc493 pm493 an493 cd493 ct493), ((418 : Nat), PySem.W.fnOf "round_from" "round_from" (defArgs s418) (defBody s418) (defScope s418) .none kV418 dc418 pm418 an418 cd418 ct418), ((419 : Nat), PySem.W.fnOf "odd_round" "odd_round" (defArgs s419) (defBody s419) (defScope s419) .none kV419 dc419 pm419 an419 cd419 ct419), ((119 : Nat), PySem.W.fnOf "_law_pool" "_law_pool" (defArgs s119) (defBody s119) (defScope s119) .none kV119 dc119 pm119 an119 cd119 ct119), ((120 : Nat), PySem.W.fnOf "_law_draw" "_law_draw" (defArgs s120) (defBody s120) (defScope s120) .none kV120 dc120 pm120 an120 cd120 ct120), ((121 : Nat), PySem.W.fnOf "_law_pick" "_law_pick" (defArgs s121) (defBody s121) (defScope s121) .none kV121 dc121 pm121 an121 cd121 ct121), ((77 : Nat), PySem.W.fnOf "_law_lots" "_law_lots" (defArgs s77) (defBody s77) (defScope s77) .none kV77 dc77 pm77 an77 cd77 ct77), ((124 : Nat), PySem.W.fnOf "_law_lot" "_law_lot" (defArgs s124) (defBody s124) (defScope s124) .none kV124 dc124 pm124 an124 cd124 ct124), ((426 : Nat), PySem.W.fnOf "_law_set" "_law_set" (defArgs s426) (defBody s426) (defScope s426) .none kV426 dc426 pm426 an426 cd426 ct426), ((427 : Nat), PySem.W.fnOf "_law_arrows" "_law_arrows" (defArgs s427) (defBody s427) (defScope s427) .none kV427 dc427 pm427 an427 cd427 ct427), ((428 : Nat), PySem.W.fnOf "_law_net_call" "_law_net_call" (defArgs s428) (defBody s428) (defScope s428) .none kV428 dc428 pm428 an428 cd428 ct428), ((429 : Nat), PySem.W.fnOf "_law_net_still" "_law_net_still" (defArgs s429) (defBody s429) (defScope s429) .none kV429 dc429 pm429 an429 cd429 ct429), ((494 : Nat), PySem.W.fnOf "law" "law" (defArgs s494) (defBody s494) (defScope s494) .none kV494 dc494 pm494 an494 cd494 ct494), ((495 : Nat), PySem.W.fnOf "__init__" "Net.__init__" (defArgs s495) (defBody s495) (defScope s495) .none kV495 dc495 pm495 an495 cd495 ct495), ((437 : Nat), PySem.W.fnOf "begin" "Net.begin" (defArgs s437) (defBody s437) (defScope s437) .none kV437 dc437 pm437 an437 cd437 ct437), ((438 : Nat), PySem.W.fnOf "__eq__" "Net.__eq__" (defArgs s438) (defBody s438) (defScope s438) .none kV438 dc438 pm438 an438 cd438 ct438)].lookup i).getD (PySem.W.fnOf "" "" (defArgs s0) (defBody s0) (defScope s0) .none kV0 dc0 pm0 an0 cd0 ct0)
  let ps : Nat → List Str := fun i => ([((0 : Nat), Pm0), ((1 : Nat), Pm1), ((2 : Nat), Pm2), ((3 : Nat), Pm3), ((4 : Nat), Pm4), ((5 : Nat), Pm5), ((6 : Nat), Pm6), ((56 : Nat), Pm56), ((8 : Nat), Pm8), ((414 : Nat), Pm414), ((9 : Nat), Pm9), ((416 : Nat), Pm416), ((491 : Nat), Pm491), ((417 : Nat), Pm417), ((492 : Nat), Pm492), ((493 : Nat), Pm493), ((418 : Nat), Pm418), ((419 : Nat), Pm419), ((119 : Nat), Pm119), ((120 : Nat), Pm120), ((121 : Nat), Pm121), ((77 : Nat), Pm77), ((124 : Nat), Pm124), ((426 : Nat), Pm426), ((427 : Nat), Pm427), ((428 : Nat), Pm428), ((429 : Nat), Pm429), ((494 : Nat), Pm494), ((495 : Nat), Pm495), ((437 : Nat), Pm437), ((438 : Nat), Pm438)].lookup i).getD []
  have qcall : ∀ q ∈ tb.fn, (tb.G.fns.lookup q.1).isSome = true ∧ mg q.2 = some (.ref (fa q.1)) := mc (⟨rfl, PySem.W.mg_of X G a0⟩) (mc (⟨rfl, PySem.W.mg_of X G a1⟩) (mc (⟨rfl, PySem.W.mg_of X G a2⟩) (mc (⟨rfl, PySem.W.mg_of X G a3⟩) (mc (⟨rfl, PySem.W.mg_of X G a4⟩) (mc (⟨rfl, PySem.W.mg_of X G a5⟩) (mc (⟨rfl, PySem.W.mg_of X G a6⟩) (mc (⟨rfl, PySem.W.mg_of X G a56⟩) (mc (⟨rfl, PySem.W.mg_of X G a8⟩) (mc (⟨rfl, PySem.W.mg_of X G a414⟩) (mc (⟨rfl, PySem.W.mg_of X G a9⟩) (mc (⟨rfl, PySem.W.mg_of X G a416⟩) (mc (⟨rfl, PySem.W.mg_of X G a491⟩) (mc (⟨rfl, PySem.W.mg_of X G a417⟩) (mc (⟨rfl, PySem.W.mg_of X G a492⟩) (mc (⟨rfl, PySem.W.mg_of X G a493⟩) (mc (⟨rfl, PySem.W.mg_of X G a418⟩) (mc (⟨rfl, PySem.W.mg_of X G a419⟩) (mc (⟨rfl, PySem.W.mg_of X G a119⟩) (mc (⟨rfl, PySem.W.mg_of X G a120⟩) (mc (⟨rfl, PySem.W.mg_of X G a121⟩) (mc (⟨rfl, PySem.W.mg_of X G a77⟩) (mc (⟨rfl, PySem.W.mg_of X G a124⟩) (mc (⟨rfl, PySem.W.mg_of X G a426⟩) (mc (⟨rfl, PySem.W.mg_of X G a427⟩) (mc (⟨rfl, PySem.W.mg_of X G a428⟩) (mc (⟨rfl, PySem.W.mg_of X G a429⟩) (mc (⟨rfl, PySem.W.mg_of X G a494⟩) mc_nil)))))))))))))))))))))))))))
  have qbind : ∀ q ∈ tb.G.fns, PySem.W.keepIn K (.ref (fa q.1)) = true ∧ Binds K (fd q.1) (ps q.1) [] := mc (⟨k0, B0⟩) (mc (⟨k1, B1⟩) (mc (⟨k2, B2⟩) (mc (⟨k3, B3⟩) (mc (⟨k4, B4⟩) (mc (⟨k5, B5⟩) (mc (⟨k6, B6⟩) (mc (⟨k56, B56⟩) (mc (⟨k8, B8⟩) (mc (⟨k414, B414⟩) (mc (⟨k9, B9⟩) (mc (⟨k416, B416⟩) (mc (⟨k491, B491⟩) (mc (⟨k417, B417⟩) (mc (⟨k492, B492⟩) (mc (⟨k493, B493⟩) (mc (⟨k418, B418⟩) (mc (⟨k419, B419⟩) (mc (⟨k119, B119⟩) (mc (⟨k120, B120⟩) (mc (⟨k121, B121⟩) (mc (⟨k77, B77⟩) (mc (⟨k124, B124⟩) (mc (⟨k426, B426⟩) (mc (⟨k427, B427⟩) (mc (⟨k428, B428⟩) (mc (⟨k429, B429⟩) (mc (⟨k494, B494⟩) (mc (⟨k495, B495⟩) (mc (⟨k437, B437⟩) (mc (⟨k438, B438⟩) mc_nil))))))))))))))))))))))))))))))
  have qmake : ∀ q ∈ tb.cls, ∀ kk, tb.G.cls.lookup q.1 = some kk → ∃ C, c.cls.lookup q.1 = some C ∧ Mk K C (fa kk.init) ∧ mg q.2 = some (.ref C) ∧ (tb.G.fns.lookup kk.init).isSome = true := mc (fun kk hk => by cases hk; exact ⟨C5, rfl, ⟨mk5, a495, i495, kc5⟩, PySem.W.mg_of X G aC5, rfl⟩) mc_nil
  have qmeth : ∀ q ∈ tb.G.cls, ∀ r ∈ q.2.ms, ∀ x, tb.attrs[r.1]? = some x → ∃ C, c.cls.lookup q.1 = some C ∧ Cls K C ∧ Meth K C x (fa r.2) ∧ (tb.G.fns.lookup r.2).isSome = true := mc (mc (fun x hx => by cases hx; exact ⟨C5, rfl, K5, ⟨a437, i437, k437⟩, rfl⟩) mc_nil) mc_nil
  have qeqs : ∀ q ∈ tb.G.cls, ∀ f, q.2.eq = some f → ∃ C, c.cls.lookup q.1 = some C ∧ OwnE K C (fa f) ∧ (tb.G.fns.lookup f).isSome = true := mc (fun f hf => by cases hf; exact ⟨C5, rfl, ⟨a438, ne5, i438⟩, rfl⟩) mc_nil
  have qfld : ∀ q ∈ c.cls, Cls K q.2 ∧ ∀ kk, tb.G.cls.lookup q.1 = some kk → ∀ f ∈ kk.fl, ∀ x, tb.attrs[f]? = some x → NoAttr K q.2 x := mc (⟨K5, fun kk hk => by cases hk; exact mc (fun x hx => by cases hx; exact n5_0) (mc (fun x hx => by cases hx; exact n5_2) (mc (fun x hx => by cases hx; exact n5_37) (mc (fun x hx => by cases hx; exact n5_38) (mc (fun x hx => by cases hx; exact n5_40) mc_nil))))⟩) mc_nil
  have T : Ev.Txt K mg c tb fa fd ps :=
    { cK := rfl, attrs := rfl,
      call := fun f x hx => qcall (f, x) (mem_lk hx)
      bind := fun f fn hf => qbind (f, fn) (mem_lk hf)
      make := fun ci x kk hx hk => qmake (ci, x) (mem_lk hx) kk hk
      meth := fun ci kk m x f hk hm hx => qmeth (ci, kk) (mem_lk hk) (m, f) (mem_lk hm) x hx
      eqs := fun ci kk f hk hf => qeqs (ci, kk) (mem_lk hk) f hf
      blt := fun x hx => by
        simp only [bltNames, List.mem_cons, List.mem_nil_iff, or_false] at hx
        rcases hx with rfl | rfl | rfl | rfl | rfl | rfl | rfl | rfl | rfl | rfl | rfl | rfl | rfl | rfl | rfl | rfl | rfl | rfl | rfl | rfl
        · exact PySem.W.mg_none_of X G z0
        · exact PySem.W.mg_none_of X G z1
        · exact PySem.W.mg_none_of X G z2
        · exact PySem.W.mg_none_of X G z3
        · exact PySem.W.mg_none_of X G z4
        · exact PySem.W.mg_none_of X G z5
        · exact PySem.W.mg_none_of X G z6
        · exact PySem.W.mg_none_of X G z7
        · exact PySem.W.mg_none_of X G z8
        · exact PySem.W.mg_none_of X G z9
        · exact PySem.W.mg_none_of X G z10
        · exact PySem.W.mg_none_of X G z11
        · exact PySem.W.mg_none_of X G z12
        · exact PySem.W.mg_none_of X G z13
        · exact PySem.W.mg_none_of X G z14
        · exact PySem.W.mg_none_of X G z15
        · exact PySem.W.mg_none_of X G z16
        · exact PySem.W.mg_none_of X G z17
        · exact PySem.W.mg_none_of X G z18
        · exact PySem.W.mg_none_of X G z19
      glob := mc (⟨_, _, .int 12, rfl, PySem.W.mg_of X G vc18, ⟨_, rfl⟩, fun Z => rfl⟩) mc_nil
      fld := fun f x hx ci C hC => ⟨(qfld (ci, C) (mem_lk hC)).1, fun ok => by
        have ok' : ((Tx.G.cls.lookup ci).any fun k => k.fl.contains f) = true := ok
        cases hk : Tx.G.cls.lookup ci with
        | none => rw [hk] at ok'; cases ok'
        | some kk => rw [hk] at ok'; exact (qfld (ci, C) (mem_lk hC)).2 kk hk f (by simpa using ok') x hx⟩
      fok := fun f ci kk hk hf => by
        show ((Tx.G.cls.lookup ci).any fun k => k.fl.contains f) = true
        rw [show Tx.G.cls.lookup ci = some kk from hk]; exact hf }
  have qD : ∀ q ∈ tb.G.fns, DefAt K tb (tb.full q.1) q.2 (fa q.1) (fd q.1) (ps q.1) := mc (⟨_, _, _, Nm0, F0, sc0, rfl, rfl, ch0⟩) (mc (⟨_, _, _, Nm1, F1, sc1, rfl, rfl, ch1⟩) (mc (⟨_, _, _, Nm2, F2, sc2, rfl, rfl, ch2⟩) (mc (⟨_, _, _, Nm3, F3, sc3, rfl, rfl, ch3⟩) (mc (⟨_, _, _, Nm4, F4, sc4, rfl, rfl, ch4⟩) (mc (⟨_, _, _, Nm5, F5, sc5, rfl, rfl, ch5⟩) (mc (⟨_, _, _, Nm6, F6, sc6, rfl, rfl, ch6⟩) (mc (⟨_, _, _, Nm56, F56, sc56, rfl, rfl, ch56⟩) (mc (⟨_, _, _, Nm8, F8, sc8, rfl, rfl, ch8⟩) (mc (⟨_, _, _, Nm414, F414, sc414, rfl, rfl, ch414⟩) (mc (⟨_, _, _, Nm9, F9, sc9, rfl, rfl, ch9⟩) (mc (⟨_, _, _, Nm416, F416, sc416, rfl, rfl, ch416⟩) (mc (⟨_, _, _, Nm491, F491, sc491, rfl, rfl, ch491⟩) (mc (⟨_, _, _, Nm417, F417, sc417, rfl, rfl, ch417⟩) (mc (⟨_, _, _, Nm492, F492, sc492, rfl, rfl, ch492⟩) (mc (⟨_, _, _, Nm493, F493, sc493, rfl, rfl, ch493⟩) (mc (⟨_, _, _, Nm418, F418, sc418, rfl, rfl, ch418⟩) (mc (⟨_, _, _, Nm419, F419, sc419, rfl, rfl, ch419⟩) (mc (⟨_, _, _, Nm119, F119, sc119, rfl, rfl, ch119⟩) (mc (⟨_, _, _, Nm120, F120, sc120, rfl, rfl, ch120⟩) (mc (⟨_, _, _, Nm121, F121, sc121, rfl, rfl, ch121⟩) (mc (⟨_, _, _, Nm77, F77, sc77, rfl, rfl, ch77⟩) (mc (⟨_, _, _, Nm124, F124, sc124, rfl, rfl, ch124⟩) (mc (⟨_, _, _, Nm426, F426, sc426, rfl, rfl, ch426⟩) (mc (⟨_, _, _, Nm427, F427, sc427, rfl, rfl, ch427⟩) (mc (⟨_, _, _, Nm428, F428, sc428, rfl, rfl, ch428⟩) (mc (⟨_, _, _, Nm429, F429, sc429, rfl, rfl, ch429⟩) (mc (⟨_, _, _, Nm494, F494, sc494, rfl, rfl, ch494⟩) (mc (⟨_, _, _, Nm495, F495, sc495, rfl, rfl, ch495⟩) (mc (⟨_, _, _, Nm437, F437, sc437, rfl, rfl, ch437⟩) (mc (⟨_, _, _, Nm438, F438, sc438, rfl, rfl, ch438⟩) mc_nil))))))))))))))))))))))))))))))
  exact ⟨fd 494, fun s v => .of_eq rfl, c, rfl, fun base n => (fns_ok T (fun f fn hf => qD (f, fn) (mem_lk hf)) n 494 Tx.f494 rfl).weak⟩
end Tx
open PySem PySem.W PyProof.Rows
set_option maxRecDepth 100000 in
set_option maxHeartbeats 0 in
theorem PySem.Challenge.cw_silencers_k78_whole_calls_and_rests_of_n_holds : PySem.Challenge.rw_silencers_k78_whole_calls_and_rests_of_n.Holds := by
  w_on; o_law; k_head; (case hw => w_witness2)
  k_fill
  refine Ev.walk (x := "_law_script") (G := Tx.G) (n := 110) (f := 494) (l := PySem.Challenge.rw_silencers_k78_whole_calls_and_rests_of_n) rfl rfl (fun w h Y => PySem.W.kIn_of Y) ⟨rfl, by decide, by decide⟩ Tx.law_ok ?F
  case F =>
    intro w mg fa h KX G hmg
    refine' Tx.all_mk KX G hmg ?aC5 ?a0 ?l0 ?c0 ?k0 ?a1 ?l1 ?c1 ?k1 ?a2 ?l2 ?c2 ?k2 ?a3 ?l3 ?c3 ?k3 ?a4 ?l4 ?c4 ?k4 ?a5 ?l5 ?c5 ?k5 ?a6 ?l6 ?c6 ?k6 ?a56 ?l56 ?c56 ?k56 ?a8 ?l8 ?c8 ?k8 ?a414 ?l414 ?c414 ?k414 ?a9 ?l9 ?c9 ?k9 ?a416 ?l416 ?c416 ?k416 ?a491 ?l491 ?c491 ?k491 ?a417 ?l417 ?c417 ?k417 ?a492 ?l492 ?c492 ?k492 ?a493 ?l493 ?c493 ?k493 ?a418 ?l418 ?c418 ?k418 ?a419 ?l419 ?c419 ?k419 ?a119 ?l119 ?c119 ?k119 ?a120 ?l120 ?c120 ?k120 ?a121 ?l121 ?c121 ?k121 ?a77 ?l77 ?c77 ?k77 ?a124 ?l124 ?c124 ?k124 ?a426 ?l426 ?c426 ?k426 ?a427 ?l427 ?c427 ?k427 ?a428 ?l428 ?c428 ?k428 ?a429 ?l429 ?c429 ?k429 ?a494 ?l494 ?c494 ?k494 ?a495 ?i495 ?l495 ?c495 ?k495 ?a437 ?i437 ?l437 ?c437 ?k437 ?a438 ?i438 ?l438 ?c438 ?k438 ?pg5 ?hd5 ?po5 ?sa5 ?mk5 ?kc5 ?ne5 ?ia5 ?im5 ?it5_0 ?it5_1 ?it5_2 ?it5_3 ?it5_4 ?it5_5 ?it5_6 ?iy5 ?ic5_5 ?n5_0 ?n5_2 ?n5_37 ?n5_38 ?n5_40 ?igt ?itk ?z0 ?z1 ?z2 ?z3 ?z4 ?z5 ?z6 ?z7 ?z8 ?z9 ?z10 ?z11 ?z12 ?z13 ?z14 ?z15 ?z16 ?z17 ?z18 ?z19 ?vc18
    (case aC5 => k_is)
    (case a0 => k_is)
    (case l0 => k_is)
    (case c0 => k_is)
    (case k0 => k_is)
    (case a1 => k_is)
    (case l1 => k_is)
    (case c1 => k_is)
    (case k1 => k_is)
    (case a2 => k_is)
    (case l2 => k_is)
    (case c2 => k_is)
    (case k2 => k_is)
    (case a3 => k_is)
    (case l3 => k_is)
    (case c3 => k_is)
    (case k3 => k_is)
    (case a4 => k_is)
    (case l4 => k_is)
    (case c4 => k_is)
    (case k4 => k_is)
    (case a5 => k_is)
    (case l5 => k_is)
    (case c5 => k_is)
    (case k5 => k_is)
    (case a6 => k_is)
    (case l6 => k_is)
    (case c6 => k_is)
    (case k6 => k_is)
    (case a56 => k_is)
    (case l56 => k_is)
    (case c56 => k_is)
    (case k56 => k_is)
    (case a8 => k_is)
    (case l8 => k_is)
    (case c8 => k_is)
    (case k8 => k_is)
    (case a414 => k_is)
    (case l414 => k_is)
    (case c414 => k_is)
    (case k414 => k_is)
    (case a9 => k_is)
    (case l9 => k_is)
    (case c9 => k_is)
    (case k9 => k_is)
    (case a416 => k_is)
    (case l416 => k_is)
    (case c416 => k_is)
    (case k416 => k_is)
    (case a491 => k_is)
    (case l491 => k_is)
    (case c491 => k_is)
    (case k491 => k_is)
    (case a417 => k_is)
    (case l417 => k_is)
    (case c417 => k_is)
    (case k417 => k_is)
    (case a492 => k_is)
    (case l492 => k_is)
    (case c492 => k_is)
    (case k492 => k_is)
    (case a493 => k_is)
    (case l493 => k_is)
    (case c493 => k_is)
    (case k493 => k_is)
    (case a418 => k_is)
    (case l418 => k_is)
    (case c418 => k_is)
    (case k418 => k_is)
    (case a419 => k_is)
    (case l419 => k_is)
    (case c419 => k_is)
    (case k419 => k_is)
    (case a119 => k_is)
    (case l119 => k_is)
    (case c119 => k_is)
    (case k119 => k_is)
    (case a120 => k_is)
    (case l120 => k_is)
    (case c120 => k_is)
    (case k120 => k_is)
    (case a121 => k_is)
    (case l121 => k_is)
    (case c121 => k_is)
    (case k121 => k_is)
    (case a77 => k_is)
    (case l77 => k_is)
    (case c77 => k_is)
    (case k77 => k_is)
    (case a124 => k_is)
    (case l124 => k_is)
    (case c124 => k_is)
    (case k124 => k_is)
    (case a426 => k_is)
    (case l426 => k_is)
    (case c426 => k_is)
    (case k426 => k_is)
    (case a427 => k_is)
    (case l427 => k_is)
    (case c427 => k_is)
    (case k427 => k_is)
    (case a428 => k_is)
    (case l428 => k_is)
    (case c428 => k_is)
    (case k428 => k_is)
    (case a429 => k_is)
    (case l429 => k_is)
    (case c429 => k_is)
    (case k429 => k_is)
    (case a494 => k_is)
    (case l494 => k_is)
    (case c494 => k_is)
    (case k494 => k_is)
    (case a495 => k_is)
    (case i495 => k_is)
    (case l495 => k_is)
    (case c495 => k_is)
    (case k495 => k_is)
    (case a437 => k_is)
    (case i437 => k_is)
    (case l437 => k_is)
    (case c437 => k_is)
    (case k437 => k_is)
    (case a438 => k_is)
    (case i438 => k_is)
    (case l438 => k_is)
    (case c438 => k_is)
    (case k438 => k_is)
    (case pg5 => k_is)
    (case hd5 => k_is)
    (case po5 => k_is)
    (case sa5 => k_is)
    (case mk5 => k_is)
    (case kc5 => k_is)
    (case ne5 => k_is)
    (case ia5 => k_is)
    (case im5 => k_is)
    (case it5_0 => k_is)
    (case it5_1 => k_is)
    (case it5_2 => k_is)
    (case it5_3 => k_is)
    (case it5_4 => k_is)
    (case it5_5 => k_is)
    (case it5_6 => k_is)
    (case iy5 => k_is)
    (case ic5_5 => k_is)
    (case n5_0 => k_is)
    (case n5_2 => k_is)
    (case n5_37 => k_is)
    (case n5_38 => k_is)
    (case n5_40 => k_is)
    (case igt => k_is)
    (case itk => k_is)
    (case z0 => k_is)
    (case z1 => k_is)
    (case z2 => k_is)
    (case z3 => k_is)
    (case z4 => k_is)
    (case z5 => k_is)
    (case z6 => k_is)
    (case z7 => k_is)
    (case z8 => k_is)
    (case z9 => k_is)
    (case z10 => k_is)
    (case z11 => k_is)
    (case z12 => k_is)
    (case z13 => k_is)
    (case z14 => k_is)
    (case z15 => k_is)
    (case z16 => k_is)
    (case z17 => k_is)
    (case z18 => k_is)
    (case z19 => k_is)
    (case vc18 => k_is)
