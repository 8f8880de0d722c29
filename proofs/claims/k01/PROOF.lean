import PyProof.Rows.All
import Wide.All
import OpenK.AllK
import Wide.FinOn
import PyProof.EqAt
import PyProof.EqKinds
import PyProof.TupleCall
import HandS.ForMost
import HandS.Walk
import HandS.Zip
import HandS.IsInst
import HandS.WideBits
import HandS.TupLe
import HandS.TupAny
import HandS.Deep
import HandS.Conv
import KE.SortData
import HandS.TupLen
import HandS.TupSets
import HandS.DictComp
import HandS.Style
import HandS.WordsExc
import HandS.ExcInit
import HandS.ExcField
import HandS.ExcIs
import KE.KSuper
import KE.KExcSuper
import KE.KDictList
import KE.KDictWalk
import HandS.Dict
import KE.KTupSum
import KE.GoesEnum
import KE.GoesMore
import HandS.NoneIn
import HandS.SetFor
import HandS.OwnEq
import KE.KExcIs
import PySem.Challenge.RW_silencers_k01_webs_judged
set_option Elab.async false
set_option linter.all false
set_option maxRecDepth 100000
set_option maxHeartbeats 4000000
set_option compiler.extract_closed false
/-! Ev, part A: a small language with value semantics, its evaluation. Plain data; no machine here. -/
namespace Ev
open PySem

/-- built-in classes as values -/
inductive Ty where
  | none | bool | int | str | list | tuple | dict
  deriving DecidableEq
noncomputable def Ty.nm : Ty → String
  | .none => "NoneType" | .bool => "bool" | .int => "int" | .str => "str" | .list => "list" | .tuple => "tuple" | .dict => "dict"
/-- isinstance between built-in classes -/
noncomputable def Ty.sub (a b : Ty) : Bool := a == b || (a == .bool && b == .int)

/-- values that never change any more -/
inductive D where
  | non | bl (b : Bool) | int (i : Int) | str (x : Str) | ty (t : Ty) | cl (c : Nat)
  | tup (xs : List D) | lst (xs : List D) | dK (ks : List L2.Key) (vs : List D) | dT (ks : List (List L2.Key)) (vs : List D) | ins (c : Nat) (fs : List (Nat × D))
  | scr (ns : List Int)
  | exc (n : Nat)
noncomputable instance : Inhabited D := ⟨.non⟩
/-- values that one place alone holds: they may change -/
inductive M where
  | v (d : D) | lst (xs : List D) | dK (ks : List L2.Key) (vs : List D) | dT (ks : List (List L2.Key)) (vs : List D) | ins (c : Nat) (fs : List (Nat × M))
noncomputable instance : Inhabited M := ⟨.v .non⟩
noncomputable abbrev T := List (Option M)
mutual
noncomputable def frz : M → D
  | .v d => d
  | .lst xs => .lst xs
  | .dK ks vs => .dK ks vs
  | .dT ks vs => .dT ks vs
  | .ins c fs => .ins c (frzF fs)
noncomputable def frzF : List (Nat × M) → List (Nat × D)
  | [] => []
  | (f, m) :: r => (f, frz m) :: frzF r
end
/-- what an expression gives: a value, a new thing of one's own, a place (a slot, or a field of the thing in a slot) -/
inductive R where
  | d (d : D) | m (m : M) | pl (i : Nat) (f : Option Nat)
noncomputable def R.isF : R → Bool
  | .pl _ (some _) => true
  | _ => false
noncomputable def setl : R → R
  | .m m => .d (frz m)
  | r => r
noncomputable def putA (f : Nat) (m : M) : List (Nat × M) → List (Nat × M)
  | [] => [(f, m)]
  | (g, n) :: r => if g = f then (f, m) :: r else (g, n) :: putA f m r
noncomputable def getA (f : Nat) : List (Nat × M) → Option M
  | [] => none
  | (g, n) :: r => if g = f then some n else getA f r
noncomputable def getD' (f : Nat) : List (Nat × D) → Option D
  | [] => none
  | (g, n) :: r => if g = f then some n else getD' f r
noncomputable def slotM (τ : T) (i : Nat) : Option M := match τ[i]? with
  | some (some m) => some m
  | _ => none
noncomputable def getP (τ : T) (i : Nat) : Option Nat → Option M
  | none => slotM τ i
  | some f => match slotM τ i with
    | some (.ins _ fs) => getA f fs
    | _ => none
noncomputable def setP (τ : T) (i : Nat) (m : M) : Option Nat → T
  | none => τ.set i (some m)
  | some f => match slotM τ i with
    | some (.ins c fs) => τ.set i (some (.ins c (putA f m fs)))
    | _ => τ
/-- a thing as it is now, to be looked at alone -/
noncomputable def viewM : M → Option D
  | .v d => some d
  | .lst xs => some (.lst xs)
  | .dK ks vs => some (.dK ks vs)
  | .dT ks vs => some (.dT ks vs)
  | .ins _ _ => none
noncomputable def look (τ : T) : R → Option D
  | .d d => some d
  | .m m => some (frz m)
  | .pl i f => match getP τ i f with
    | some m => viewM m
    | none => none
/-- a value handed on for good; p: nothing may be changed -/
noncomputable def esc (p : Bool) (τ : T) : R → Option (D × T)
  | .d d => some (d, τ)
  | .m m => some (frz m, τ)
  | .pl i f => if p then none else match getP τ i f with
    | some m => some (frz m, setP τ i (.v (frz m)) f)
    | none => none

/-! ### operations on values -/
noncomputable def SL : Nat := 16777216
mutual
noncomputable def toPy : D → Option PyData
  | .non => some .none
  | .bl b => some (.bool b)
  | .int i => some (.int i)
  | .str x => some (.str x)
  | .tup xs => (toPys xs).map .tuple
  | .lst xs => (toPys xs).map .list
  | _ => none
noncomputable def toPys : List D → Option (List PyData)
  | [] => some []
  | x :: r => match toPy x, toPys r with
    | some y, some s => some (y :: s)
    | _, _ => none
end
noncomputable def eqD (a b : D) : Option Bool := match toPy a, toPy b with
  | some x, some y => if SeqAt.shaped x && SeqAt.shaped y then some (PyData.eqv x y) else none
  | _, _ => none
noncomputable def intsOf : List D → Option (List Int)
  | [] => some []
  | .int i :: r => (intsOf r).map (i :: ·)
  | _ :: _ => none
noncomputable def boolsOf : List D → Option (List Bool)
  | [] => some []
  | .bl i :: r => (boolsOf r).map (i :: ·)
  | _ :: _ => none
noncomputable def lexLe : List Int → List Int → Bool
  | [], _ => true
  | _ :: _, [] => false
  | x :: xs, y :: ys => if x = y then lexLe xs ys else decide (x ≤ y)
noncomputable def inD (x : D) (ys : List D) : Option Bool := match toPy x, toPys ys with
  | some p, some ps => if SeqAt.shaped p && SeqAt.shaped (.list ps) then some (ps.any fun z => PyData.eqv z p) else none
  | _, _ => none
/-- a dict, by its keys and what they hold -/
noncomputable def dLook {κ : Type} [DecidableEq κ] : List κ → List D → κ → Option D
  | k :: ks, d :: ds, q => if k = q then some d else dLook ks ds q
  | _, _, _ => none
noncomputable def dRepl {κ : Type} [DecidableEq κ] : List κ → List D → κ → D → List D
  | k :: ks, d :: ds, q, e => (if k = q then e else d) :: dRepl ks ds q e
  | _, _, _, _ => []
noncomputable def dPut {κ : Type} [DecidableEq κ] (ks : List κ) (ds : List D) (q : κ) (e : D) : List κ × List D :=
  if q ∈ ks then (ks, dRepl ks ds q e) else (ks ++ [q], ds ++ [e])
noncomputable def keyD : D → Option L2.Key
  | .int i => some (.inl i)
  | .str x => some (.inr x)
  | _ => none
noncomputable def keyV : L2.Key → D
  | .inl i => .int i
  | .inr x => .str x
noncomputable def keysD : List D → Option (List L2.Key)
  | [] => some []
  | d :: r => match keyD d, keysD r with
    | some k, some ks => some (k :: ks)
    | _, _ => none
/-- a tuple as a key -/
noncomputable def keyT : D → Option (List L2.Key)
  | .tup ds => keysD ds
  | _ => none
/-- a display of one pair -/
noncomputable def dctR (t : Bool) (x y : D) : Option R := if t = true then (keyT x).map fun q => .m (.dT [q] [y]) else (keyD x).map fun q => .m (.dK [q] [y])
noncomputable def binD (op : Operator) (a b : D) : Option R := match op, a, b with
  | .Add, .int i, .int j => some (.d (.int (i + j)))
  | .Sub, .int i, .int j => some (.d (.int (i - j)))
  | .Mult, .int i, .int j => if (-(2 ^ 64) < i ∧ i < 2 ^ 64) ∨ (-(2 ^ 64) < j ∧ j < 2 ^ 64) then some (.d (.int (i * j))) else none
  | .FloorDiv, .int i, .int j => if 0 < j ∧ j < 1073741824 then some (.d (.int (i / j))) else none
  | .Mod, .int i, .int j => if 0 < j then some (.d (.int (i % j))) else none
  | .Pow, .int i, .int j => if 0 ≤ j ∧ j ≤ 1000000 ∧ i.natAbs < 2 ^ 64 then some (.d (.int (i ^ j.toNat))) else none
  | .LShift, .int i, .int j => if 0 ≤ j ∧ j ≤ 1000000 ∧ i.natAbs < 2 ^ 64 then some (.d (.int (i * 2 ^ j.toNat))) else none
  | .RShift, .int i, .int j => if 0 ≤ j then some (.d (.int (i / 2 ^ j.toNat))) else none
  | .BitAnd, .int i, .int j => some (.d (.int (Builtin.bitAnd i j)))
  | .BitOr, .int i, .int j => some (.d (.int (Builtin.bitOr i j)))
  | .BitXor, .int i, .int j => some (.d (.int (Builtin.bitXor i j)))
  | .Add, .str x, .str y => if x.length + y.length ≤ SL then some (.d (.str (x ++ y))) else none
  | .Add, .tup xs, .tup ys => if xs.length + ys.length ≤ SL then some (.d (.tup (xs ++ ys))) else none
  | .Add, .lst xs, .lst ys => if xs.length + ys.length ≤ SL then some (.m (.lst (xs ++ ys))) else none
  | .Mult, .lst xs, .int k => if -(2 ^ 63) ≤ k ∧ k < 2 ^ 63 ∧ xs.length * k.toNat ≤ SL then some (.m (.lst (List.replicate k.toNat xs).flatten)) else none
  | _, _, _ => none
noncomputable def unD (op : UnaryOp) (a : D) : Option D := match op, a with
  | .USub, .int i => some (.int (-i))
  | .Invert, .int i => some (.int (Builtin.bitNot i))
  | _, _ => none
noncomputable def isNon : D → Bool
  | .non => true
  | _ => false
noncomputable def cmpD (op : CmpOp) (a b : D) : Option Bool := match op with
  | .Lt => (match a, b with
    | .int i, .int j => some (decide (i < j))
    | .tup xs, .tup ys => (match intsOf xs, intsOf ys with
      | some ns, some ms => some (!lexLe ms ns)
      | _, _ => none)
    | _, _ => none)
  | .LtE => (match a, b with
    | .int i, .int j => some (decide (i ≤ j))
    | .tup xs, .tup ys => (match intsOf xs, intsOf ys with
      | some ns, some ms => some (lexLe ns ms)
      | _, _ => none)
    | _, _ => none)
  | .Gt => (match a, b with
    | .int i, .int j => some (decide (j < i))
    | _, _ => none)
  | .GtE => (match a, b with
    | .int i, .int j => some (decide (j ≤ i))
    | _, _ => none)
  | .Eq => eqD a b
  | .NotEq => (eqD a b).map (!·)
  | .Is => (match b with
    | .non => some (isNon a)
    | .bl y => (match a with
      | .bl x => some (x == y)
      | _ => none)
    | _ => none)
  | .IsNot => (match b with
    | .non => some (!isNon a)
    | .bl y => (match a with
      | .bl x => some (!(x == y))
      | _ => none)
    | _ => none)
  | .In => (match b with
    | .lst xs => inD a xs
    | .tup xs => inD a xs
    | .dK ks ds => (keyD a).map fun k => (dLook ks ds k).isSome
    | .dT ks ds => (keyT a).map fun k => (dLook ks ds k).isSome
    | _ => none)
  | .NotIn => (match b with
    | .lst xs => (inD a xs).map (!·)
    | .tup xs => (inD a xs).map (!·)
    | .dK ks ds => (keyD a).map fun k => !(dLook ks ds k).isSome
    | .dT ks ds => (keyT a).map fun k => !(dLook ks ds k).isSome
    | _ => none)
noncomputable def tyOfD : D → Option Ty
  | .non => some .none
  | .bl _ => some .bool
  | .int _ => some .int
  | .str _ => some .str
  | .tup _ => some .tuple
  | .lst _ => some .list
  | .dK _ _ => some .dict
  | .dT _ _ => some .dict
  | _ => none
noncomputable def isiAll (t : Ty) : List D → Option Bool
  | [] => some false
  | .ty u :: r => match isiAll t r with
    | some b => some (t.sub u || b)
    | none => none
  | _ :: _ => none
noncomputable def isTyD : D → Bool
  | .ty _ => true
  | _ => false
noncomputable def insD : D → Option Nat
  | .ins c _ => some c
  | _ => none
noncomputable def isiD (x c : D) : Option Bool := match insD x with
  | some k => (match c with
    | .ty _ => some false
    | .cl j => some (j == k)
    | .tup cs => if cs.all isTyD = true then some false else none
    | _ => none)
  | none => (match tyOfD x, c with
    | some t, .ty u => some (t.sub u)
    | some _, .cl _ => some false
    | some t, .tup cs => isiAll t cs
    | _, _ => none)
noncomputable def nub {α : Type} [DecidableEq α] : List α → List α
  | [] => []
  | x :: r => if x ∈ r then nub r else x :: nub r
/-- without repetition, sorted -/
noncomputable def setI (ns : List Int) : List Int := (nub ns).mergeSort fun a b => decide (a ≤ b)
noncomputable def setT (ts : List (List Int)) : List (List Int) := (nub ts).mergeSort fun a b => decide (a ≤ b)
noncomputable def tupsOf : List D → Option (List (List Int))
  | [] => some []
  | .tup xs :: r => match intsOf xs, tupsOf r with
    | some ns, some ts => some (ns :: ts)
    | _, _ => none
  | _ :: _ => none
/-- sorted(set(xs)) -/
noncomputable def ssetD (xs : List D) : Option (List D) := if xs.length < 4000 then match intsOf xs with
  | some ns => some ((setI ns).map .int)
  | none => (tupsOf xs).map fun ts => (setT ts).map fun t => .tup (t.map .int)
  else none
noncomputable def nsetD (xs : List D) : Option Nat := if xs.length < 4000 then match intsOf xs with
  | some ns => some (nub ns).length
  | none => (tupsOf xs).map fun ts => (nub ts).length
  else none
noncomputable def lexI (x y : D) : Bool := PySem.W.dataLe false (fun d => (toPy d).getD .none) x y
noncomputable def headed : PyData → Bool
  | .tuple _ => true
  | _ => false
noncomputable def notTup : PyData → Bool
  | .none => false
  | .tuple _ => false
  | _ => true
noncomputable def sortD (xs : List D) : Option (List D) := match toPys xs with
  | some ps => if xs.length ≤ SL ∧ (ps.all fun p => ps.all fun q => PySem.W.alike p q) = true ∧ (ps.all headed = true ∨ ps.all notTup = true) ∧ (ps.all fun p => decide (p.depth ≤ 8)) = true
    then some (xs.mergeSort lexI) else none
  | none => none
inductive Blt where
  | len | isi | int | min2 | max2 | abs | tuple | list | sorted | all | any | sum | max1 | min1 | repr
  deriving DecidableEq
/-- data whose repr is told: no string by itself, no dict, not too long -/
noncomputable def okR (p : PyData) : Bool := match p with
  | .str _ => false
  | p => p.showable && !p.hasDict && decide (p.depth ≤ 60) && decide (p.shown.length ≤ SL)
noncomputable def reprD (d : D) : Option R := match toPy d with
  | some p => if okR p = true then some (.d (.str p.shown)) else none
  | none => none
noncomputable def bltD (f : Blt) (vs : List D) : Option R := match f, vs with
  | .repr, [d] => reprD d
  | .len, [.lst xs] => some (.d (.int xs.length))
  | .len, [.tup xs] => some (.d (.int xs.length))
  | .isi, [x, c] => (isiD x c).map fun b => .d (.bl b)
  | .int, [.int i] => some (.d (.int i))
  | .int, [.bl b] => some (.d (.int (if b then 1 else 0)))
  | .min2, [.int i, .int j] => some (.d (.int (if j < i then j else i)))
  | .max2, [.int i, .int j] => some (.d (.int (if j > i then j else i)))
  | .abs, [.int i] => some (.d (.int (if i < 0 then -i else i)))
  | .tuple, [.lst xs] => some (.d (.tup xs))
  | .tuple, [.tup xs] => some (.d (.tup xs))
  | .list, [.lst xs] => some (.m (.lst xs))
  | .list, [.tup xs] => some (.m (.lst xs))
  | .list, [.scr ns] => some (.m (.lst (ns.map .int)))
  | .list, [.dK ks _] => some (.m (.lst (ks.map keyV)))
  | .list, [.dT ks _] => some (.m (.lst (ks.map fun k => .tup (k.map keyV))))
  | .len, [.scr ns] => some (.d (.int ns.length))
  | .len, [.dK ks ds] => some (.d (.int ds.length))
  | .len, [.dT ks ds] => some (.d (.int ds.length))
  | .sorted, [.lst xs] => (sortD xs).map fun ys => .m (.lst ys)
  | .sorted, [.tup xs] => (sortD xs).map fun ys => .m (.lst ys)
  | .all, [.lst xs] => (boolsOf xs).map fun bs => .d (.bl (bs.all id))
  | .any, [.lst xs] => (boolsOf xs).map fun bs => .d (.bl (bs.any id))
  | .sum, [.lst xs] => (intsOf xs).map fun ns => .d (.int ns.sum)
  | .sum, [.tup xs] => (intsOf xs).map fun ns => .d (.int ns.sum)
  | .max1, [.lst xs] => (match intsOf xs with
    | some (n :: ns) => some (.d (.int (ns.foldl max n)))
    | _ => none)
  | .min1, [.lst xs] => (match intsOf xs with
    | some (n :: ns) => some (.d (.int (ns.foldl min n)))
    | _ => none)
  | _, _ => none
noncomputable def idxD (a b : D) : Option D := match a, b with
  | .lst xs, .int i => L2.atI xs i
  | .tup xs, .int i => L2.atI xs i
  | .dK ks ds, y => (match keyD y with
    | some k => dLook ks ds k
    | none => none)
  | .dT ks ds, y => (match keyT y with
    | some k => dLook ks ds k
    | none => none)
  | .scr ns, .int i => L2.atI (ns.map .int) i
  | _, _ => none
noncomputable def cutD (xs : List D) (lo hi : Option Int) : List D := (xs.drop (HT.sIx xs.length 0 lo)).take (HT.sIx xs.length xs.length hi - HT.sIx xs.length 0 lo)
noncomputable def cutI (xs : List Int) (lo hi : Option Int) : List Int := (xs.drop (HT.sIx xs.length 0 lo)).take (HT.sIx xs.length xs.length hi - HT.sIx xs.length 0 lo)
noncomputable def slcP (a : D) (l h : Option Int) : Option R := match a with
  | .scr ns => some (.m (.lst ((cutI ns l h).map .int)))
  | .lst xs => some (.m (.lst (cutD xs l h)))
  | .tup xs => some (.d (.tup (cutD xs l h)))
  | _ => none
/-- methods of built-in classes that change a list -/
inductive Bm where
  | append | pop0 | popAt | extend
  deriving DecidableEq
noncomputable def bmD (m : Bm) (xs : List D) (vs : List D) : Option (D × List D) := match m, vs with
  | .append, [d] => if xs.length < SL then some (.non, xs ++ [d]) else none
  | .pop0, [] => (xs[xs.length - 1]?).map fun d => (d, xs.dropLast)
  | .popAt, [.int i] => if -(2 ^ 63) ≤ i ∧ i < 2 ^ 63 then (match seqIndex? i xs.length with
    | some k => (xs[k]?).map fun d => (d, xs.eraseIdx k)
    | none => none) else none
  | .extend, [.lst ys] => if xs.length + ys.length ≤ SL then some (.non, xs ++ ys) else none
  | _, _ => none

/-- a thing stored in a list, in a dict -/
noncomputable def setIx : M → D → D → Option M
  | .lst xs, .int j, d => match L2.ixN xs.length j with
    | some q => some (.lst (xs.set q d))
    | none => none
  | .dK ks vs, y, d => match keyD y with
    | some q => if vs.length < SL then some (.dK (dPut ks vs q d).1 (dPut ks vs q d).2) else none
    | none => none
  | .dT ks vs, y, d => match keyT y with
    | some q => if vs.length < SL then some (.dT (dPut ks vs q d).1 (dPut ks vs q d).2) else none
    | none => none
  | _, _, _ => none
/-! ### the language -/
mutual
inductive Tg where
  | one (i : Nat) | tup (ts : Tgs)
inductive Tgs where
  | nil | cons (t : Tg) (r : Tgs)
end
noncomputable def Tgs.len : Tgs → Nat
  | .nil => 0
  | .cons _ r => r.len + 1
mutual
inductive CE where
  | k (d : D) | s (i : Nat) | g (i : Nat)
  | bin (op : Operator) (a b : CE) | un (op : UnaryOp) (a : CE) | cmp (op : CmpOp) (a b : CE) | chain (o1 o2 : CmpOp) (a b c : CE)
  | and (a b : CE) | or (a b : CE) | not (a : CE) | ife (t : CT) (a b : CE)
  | tup (es : CEs) | lst (es : CEs)
  | call (f : Nat) (es : CEs) | mk (c : Nat) (es : CEs)
  | blt (f : Blt) (es : CEs) | um (m : Nat) (o : CE) (es : CEs) | bm (m : Bm) (o : CE) (es : CEs) 
  | idx (a b : CE) | slc (a lo hi : CE) | fld (a : CE) (f : Nat)
  | lc (own : List Nat) (tg : Tg) (it : CI) (t : CT) (elt : CE)
  | lrng (it : CI) 
  | rev (a : CE)
  | dct (t : Bool)         | frz (a : CE)
  | isE (c : Option Nat) (a : CE) | eF (a : CE) (f : Nat)
inductive CEs where
  | nil | cons (e : CE) (r : CEs)
/-- tests -/
inductive CT where
  | yes | e (e : CE) | and (a b : CT) | or (a b : CT) | not (a : CT)
inductive CI where
  | e (e : CE) | rng1 (a : CE) | rng2 (a b : CE) | enum (a : CE) | zip (a b : CE)
end
mutual
inductive CS where
  | set (i : Nat) (e : CE)  | setT (tg : Tg) (e : CE) | par (i j : Nat) (a b : CE)
  | aug (i : Nat) (op : Operator) (e : CE) | fset (i f : Nat) (e : CE) | iset (i : Nat) (k e : CE) | fiset (i f : Nat) (k e : CE)
   | bad
  | ex (e : CE) | ret (e : CE) | retN | pass | brk | cont
  | ite (t : CT) (a b : CSs) | whl (t : CT) (b : CSs) | loop (tg : Tg) (it : CI) (b : CSs)
  | rse (k : Nat) (es : CEs) | tryx (b : CSs) (hs : CHs)
inductive CSs where
  | nil | cons (e : CS) (r : CSs)
/-- except clauses: the class, the name's slot, the suite -/
inductive CHs where
  | nil | cons (c : Nat) (i : Option Nat) (b : CSs) (r : CHs)
end
/-- an error: its class, its fields -/
noncomputable abbrev XD := Nat × List (Nat × D)

/-- how a statement ends -/
inductive Fl where
  | nx (τ : T) | bk (τ : T) | ct (τ : T) | ret (m : M) (τ : T)

structure Fn where
  np : Nat
  ns : Nat
  io : List Nat
  body : CSs
structure Cl where
  init : Nat
  ms : List (Nat × Nat)
  fl : List Nat
  eq : Option Nat := none
/-- a class of errors: its field, the classes of the text that it is of -/
structure EC where
  fld : Option Nat
  up : List Nat
  rs : Bool := true
/-- cur: the error that is handled, and its number -/
structure GS where
  fns : List (Nat × Fn)
  cls : List (Nat × Cl)
  consts : List D
  exc : List (Nat × EC) := []
  cur : Option (Nat × XD) := none
noncomputable abbrev GS.at (G : GS) (x : Option (Nat × XD)) : GS := { G with cur := x }
/-- the error of this number -/
noncomputable def curX (G : GS) (n : Nat) : Option XD := match G.cur with
  | some (m, x) => if m = n then some x else none
  | none => none
/-- whether an error is of a class: none for what is built in -/
noncomputable def isX (G : GS) (k : Nat) : Option Nat → Option Bool
  | none => some true
  | some j => (G.exc.lookup k).map fun e => e.up.contains j

noncomputable def isV : M → Bool
  | .v _ => true
  | _ => false
/-- the arguments of a call: values, and places that are handed over (their slots are empty meanwhile) -/
noncomputable def takeA (p : Bool) (io : List Nat) : Nat → List R → T → Option (List M × List (Option Nat) × T)
  | _, [], τ => some ([], [], τ)
  | k, .pl i none :: rs, τ => if p then none else if io.contains k then
      (match slotM τ i with
      | some m => (takeA p io (k + 1) rs (τ.set i none)).map fun (ms, is, τ') => (m :: ms, some i :: is, τ')
      | none => none)
    else (match esc p τ (.pl i none) with
      | some (d, τ1) => (takeA p io (k + 1) rs τ1).map fun (ms, is, τ') => (.v d :: ms, none :: is, τ')
      | none => none)
  | k, r :: rs, τ => match esc p τ r with
    | some (d, τ1) => (takeA p io (k + 1) rs τ1).map fun (ms, is, τ') => (.v d :: ms, none :: is, τ')
    | none => none
noncomputable def giveA : List (Option Nat) → List M → T → T
  | some i :: is, m :: ms, τ => giveA is ms (τ.set i (some m))
  | none :: is, _ :: ms, τ => giveA is ms τ
  | _, _, τ => τ
noncomputable def resR : M → R
  | .v d => .d d
  | m => .m m
/-- a thing as it is now, with all it holds -/
noncomputable def lookZ (τ : T) : R → Option D
  | .d d => some d
  | .m m => some (frz m)
  | .pl i f => (getP τ i f).map frz
/-- a result that leads to no thing -/
noncomputable def sclM : M → Option D
  | .v .non => some .non
  | .v (.bl b) => some (.bl b)
  | .v (.int i) => some (.int i)
  | .v (.str x) => some (.str x)
  | _ => none
/-- what a call leaves of the things that were handed over -/
noncomputable def outs (io : List Nat) : Nat → List M → T → Option (List M)
  | _, [], _ => some []
  | k, .v d :: as, _ :: τ => (outs io (k + 1) as τ).map (.v d :: ·)
  | k, _ :: as, some m :: τ => if io.contains k then (outs io (k + 1) as τ).map (m :: ·) else none
  | _, _, _ => none

/-- the class of what a method is called of -/
noncomputable def recvC (τ : T) (m : Nat) : R → Option Nat
  | .d (.ins c fs) => if (getD' m fs).isNone then some c else none
  | .m (.ins c fs) => if (getA m fs).isNone then some c else none
  | .pl i none => match slotM τ i with
    | some (.ins c fs) => if (getA m fs).isNone then some c else none
    | _ => none
  | _ => none
/-- what comes of a call: a value or an error, and what is given back -/
structure Caller where
  out : Nat → List M → Option (Sum M XD × List M)
noncomputable def valO : Option (Sum M XD × List M) → Option (M × List M)
  | some (.inl m, os) => some (m, os)
  | _ => none
noncomputable def excO : Option (Sum M XD × List M) → Option (XD × List M)
  | some (.inr x, os) => some (x, os)
  | _ => none
noncomputable def Caller.run (cl : Caller) (f : Nat) (ms : List M) : Option (M × List M) := valO (cl.out f ms)
noncomputable def Caller.exc (cl : Caller) (f : Nat) (ms : List M) : Option (XD × List M) := excO (cl.out f ms)
noncomputable instance : CoeFun Caller (fun _ => Nat → List M → Option (M × List M)) := ⟨Caller.run⟩
mutual
noncomputable def bindTg (io : List Nat) : Tg → D → T → Option T
  | .one i, d, τ => if io.contains i then none else some (τ.set i (some (.v d)))
  | .tup ts, d, τ => match d with
    | .tup ds => if ds.length = ts.len then bindTgs io ts ds τ else none
    | .lst ds => if ds.length = ts.len then bindTgs io ts ds τ else none
    | _ => none
noncomputable def bindTgs (io : List Nat) : Tgs → List D → T → Option T
  | .nil, _, τ => some τ
  | .cons t r, d :: ds, τ => match bindTg io t d τ with
    | some τ1 => bindTgs io r ds τ1
    | none => none
  | .cons _ _, [], _ => none
end
/-- a comprehension's own names are hidden from the slots, then these come back -/
noncomputable def hideO : List Nat → T → Option T
  | [], τ => some τ
  | i :: is, τ => match hideO is τ with
    | some τ' => (match τ'[i]? with
      | some none => some τ'
      | some (some (.v _)) => some (τ'.set i none)
      | _ => none)
    | none => none
noncomputable def backO (τ0 : T) : List Nat → T → T
  | [], τ => τ
  | i :: is, τ => (backO τ0 is τ).set i ((τ0[i]?).getD none)
noncomputable def rngD (a b : Int) : List D := (List.range (b - a).toNat).map fun (k : Nat) => .int (a + (k : Int))
noncomputable def enumD : Nat → List D → List D
  | _, [] => []
  | k, x :: r => .tup [.int k, x] :: enumD (k + 1) r
noncomputable def zipD : List D → List D → List D
  | x :: xs, y :: ys => .tup [x, y] :: zipD xs ys
  | _, _ => []
noncomputable def rngOk (a b : Int) : Bool := decide (-(2 ^ 62) ≤ a ∧ a < 2 ^ 62 ∧ -(2 ^ 62) ≤ b ∧ b < 2 ^ 62)
noncomputable def compL (g : D → T → Option T) (t : T → Option (Bool × T)) (e : T → Option (D × T)) (own : List Nat) : List D → List D → T → Option (List D × T)
  | [], acc, τ => some (acc, τ)
  | x :: xs, acc, τ => match g x τ with
    | none => none
    | some τ1 => match t τ1 with
      | none => none
      | some (b, τ2) => match b with
        | false => (match hideO own τ2 with
          | some τ3 => compL g t e own xs acc τ3
          | none => none)
        | true => match e τ2 with
          | none => none
          | some (d, τ3) => if acc.length < SL then (match hideO own τ3 with
            | some τ4 => compL g t e own xs (acc ++ [d]) τ4
            | none => none) else none
noncomputable def isNonK : CE → Bool
  | .k .non => true
  | _ => false
noncomputable def seqLT : Option D → Option (List D)
  | some (.lst xs) => some xs
  | some (.tup xs) => some xs
  | _ => none
/-- two things of no own class are compared as things -/
noncomputable def eqPl (ne : Bool) : List D → Option Bool
  | [x, y] => cmpD (if ne = true then .NotEq else .Eq) x y
  | _ => none
/-- what may stand on the right of an own __eq__ -/
noncomputable def eqR : D → Bool
  | .ins _ _ => true
  | d => (tyOfD d).isSome
/-- the own == of two instances -/
noncomputable def eqDef (G : GS) : List D → Option Nat
  | [.ins c _, y] => if eqR y = true then (match G.cls.lookup c with
    | some k => k.eq
    | none => none) else none
  | _ => none
section
variable (G : GS) (cl : Caller)
mutual
noncomputable def evE (p : Bool) : CE → T → Option (R × T)
  | .k d, τ => some (.d d, τ)
  | .s i, τ => match slotM τ i with
    | some (.v d) => some (.d d, τ)
    | some _ => some (.pl i none, τ)
    | none => none
  | .g i, τ => match G.consts[i]? with
    | some d => some (.d d, τ)
    | none => none
  | .bin op a b, τ => match evE p a τ with
    | none => none
    | some (ra, τ1) => match evE (p || ra.isF) b τ1 with
      | none => none
      | some (rb, τ2) => match look τ2 (setl ra), look τ2 (setl rb) with
        | some x, some y => (binD op x y).map fun r => (r, τ2)
        | _, _ => none
  | .un op a, τ => match evE p a τ with
    | none => none
    | some (ra, τ1) => match look τ1 (setl ra) with
      | some x => (unD op x).map fun d => (.d d, τ1)
      | none => none
  | .cmp op a b, τ => match evE p a τ with
    | none => none
    | some (ra, τ1) => match evE (p || ra.isF) b τ1 with
      | none => none
      | some (rb, τ2) => match look τ2 (setl ra), look τ2 (setl rb) with
        | some x, some y => (cmpD op x y).map fun k => (.d (.bl k), τ2)
        | _, _ => none
  | .chain o1 o2 a b c, τ => match evE p a τ with
    | some (.d x, τ1) => (match evE p b τ1 with
      | some (.d y, τ2) => (match cmpD o1 x y with
        | some false => some (.d (.bl false), τ2)
        | some true => (match evE p c τ2 with
          | some (.d z, τ3) => (cmpD o2 y z).map fun k => (.d (.bl k), τ3)
          | _ => none)
        | none => none)
      | _ => none)
    | _ => none
  | .and a b, τ => match evE p a τ with
    | some (.d (.bl true), τ1) => evE p b τ1
    | some (.d (.bl false), τ1) => some (.d (.bl false), τ1)
    | _ => none
  | .or a b, τ => match evE p a τ with
    | some (.d (.bl false), τ1) => evE p b τ1
    | some (.d (.bl true), τ1) => some (.d (.bl true), τ1)
    | _ => none
  | .not a, τ => match evE p a τ with
    | some (.d (.bl b), τ1) => some (.d (.bl (!b)), τ1)
    | _ => none
  | .ife t a b, τ => match evT p t τ with
    | some (true, τ1) => evE p a τ1
    | some (false, τ1) => evE p b τ1
    | none => none
  | .tup es, τ => match evX p es τ with
    | some (ds, τ1) => if ds.length ≤ SL then some (.d (.tup ds), τ1) else none
    | none => none
  | .lst es, τ => match evX p es τ with
    | some (ds, τ1) => if ds.length ≤ SL then some (.m (.lst ds), τ1) else none
    | none => none
  | .call f es, τ => match evL p es τ with
    | none => none
    | some (rs, τ1) => match G.fns.lookup f with
      | none => none
      | some fn => match takeA p fn.io 0 rs τ1 with
        | none => none
        | some (ms, is, τ2) => match cl f ms with
          | none => none
          | some (m, os) => some (resR m, giveA is os τ2)
  | .mk c es, τ => match evL p es τ with
    | none => none
    | some (rs, τ1) => match G.cls.lookup c with
      | none => none
      | some k => match G.fns.lookup k.init with
        | none => none
        | some fn => match takeA p fn.io 1 rs τ1 with
          | none => none
          | some (ms, is, τ2) => match cl k.init (.ins c [] :: ms) with
            | some (.v .non, s :: os) => some (.m s, giveA is os τ2)
            | _ => none
  | .blt f es, τ => match evL p es τ with
    | none => none
    | some (rs, τ1) => match rs.mapM (look τ1) with
      | none => none
      | some vs => (bltD f vs).map fun r => (r, τ1)
  | .um m o es, τ => match evE p o τ with
    | none => none
    | some (ro, τ1) => match recvC τ1 m ro with
      | none => none
      | some c => match G.cls.lookup c with
        | none => none
        | some k => match k.ms.lookup m with
          | none => none
          | some f => match G.fns.lookup f with
            | none => none
            | some fn => match evL p es τ1 with
              | none => none
              | some (rs, τ2) => match ro with
                | .d d => (match takeA p fn.io 1 rs τ2 with
                  | none => none
                  | some (ms, is, τ3) => match cl f (.v d :: ms) with
                    | some (r, _ :: os) => some (resR r, giveA is os τ3)
                    | _ => none)
                | .m m' => if p then none else (match takeA p fn.io 1 rs τ2 with
                  | none => none
                  | some (ms, is, τ3) => match cl f (m' :: ms) with
                    | some (r, _ :: os) => some (resR r, giveA is os τ3)
                    | _ => none)
                | .pl i none => (match takeA p fn.io 0 (.pl i none :: rs) τ2 with
                  | none => none
                  | some (ms, is, τ3) => match cl f ms with
                    | some (r, os) => some (resR r, giveA is os τ3)
                    | none => none)
                | .pl _ (some _) => none
  | .bm m o es, τ => match evE p o τ with
    | some (.pl i f, τ1) => if p then none else (match getP τ1 i f with
      | some (.lst _) => (match evX f.isSome es τ1 with
        | none => none
        | some (ds, τ2) => match getP τ2 i f with
          | some (.lst xs) => (match bmD m xs ds with
            | some (d, ys) => some (.d d, setP τ2 i (.lst ys) f)
            | none => none)
          | _ => none)
      | _ => none)
    | _ => none
  | .idx a b, τ => match evE p a τ with
    | none => none
    | some (ra, τ1) => match evE (p || ra.isF) b τ1 with
      | none => none
      | some (rb, τ2) => match look τ2 (setl ra), look τ2 (setl rb) with
        | some x, some y => (idxD x y).map fun r => (.d r, τ2)
        | _, _ => none
  | .slc a lo hi, τ => match evE p a τ with
    | none => none
    | some (ra, τ1) => match (if isNonK lo then some (none, τ1) else (match evE (p || ra.isF) lo τ1 with
        | some (.d (.int l), τ2) => some (some l, τ2)
        | _ => none)) with
      | none => none
      | some (l, τ2) => match (if isNonK hi then some (none, τ2) else (match evE (p || ra.isF) hi τ2 with
          | some (.d (.int h), τ3) => some (some h, τ3)
          | _ => none)) with
        | none => none
        | some (h, τ3) => match look τ3 (setl ra) with
          | some x => (slcP x l h).map fun r => (r, τ3)
          | none => none
  | .fld a f, τ => match evE p a τ with
    | some (.d (.ins _ fs), τ1) => (getD' f fs).map fun d => (.d d, τ1)
    | some (.pl i none, τ1) => (match getP τ1 i (some f) with
      | some (.v d) => some (.d d, τ1)
      | some _ => some (.pl i (some f), τ1)
      | none => none)
    | _ => none
  | .lc own tg it t elt, τ => if p then none else match evI p it τ with
    | none => none
    | some (xs, τ1) => match hideO own τ1 with
      | none => none
      | some τ2 => match compL (bindTg [] tg) (evT p t) (fun t => match evE p elt t with
          | some (r, t') => esc p t' r
          | none => none) own xs [] τ2 with
        | none => none
        | some (ds, τ3) => some (.m (.lst ds), backO τ1 own τ3)
  | .lrng it, τ => match evI p it τ with
    | some (xs, τ1) => if xs.length ≤ SL then some (.m (.lst xs), τ1) else none
    | none => none
  | .rev a, τ => match evE p a τ with
    | none => none
    | some (ra, τ1) => match look τ1 (setl ra) with
      | some (.lst xs) => some (.m (.lst xs.reverse), τ1)
      | some (.tup xs) => some (.d (.tup xs.reverse), τ1)
      | _ => none
  | .dct t, τ => some (.m (if t then .dT [] [] else .dK [] []), τ)
  | .frz a, τ => match evE p a τ with
    | none => none
    | some (r, τ1) => some (setl r, τ1)
  | .isE c a, τ => match evE p a τ with
    | some (.d (.exc n), τ1) => (match curX G n with
      | some x => (isX G x.1 c).map fun b => (.d (.bl b), τ1)
      | none => none)
    | _ => none
  | .eF a f, τ => match evE p a τ with
    | some (.d (.exc n), τ1) => (match curX G n with
      | some x => (getD' f x.2).map fun d => (.d d, τ1)
      | none => none)
    | _ => none
/-- values, each handed on for good -/
noncomputable def evX (p : Bool) : CEs → T → Option (List D × T)
  | .nil, τ => some ([], τ)
  | .cons e r, τ => match evE p e τ with
    | none => none
    | some (x, τ1) => match esc p τ1 x with
      | none => none
      | some (d, τ2) => (evX p r τ2).map fun (ds, τ3) => (d :: ds, τ3)
/-- operands -/
noncomputable def evL (p : Bool) : CEs → T → Option (List R × T)
  | .nil, τ => some ([], τ)
  | .cons e r, τ => match evE p e τ with
    | none => none
    | some (x, τ1) => (evL (p || x.isF) r τ1).map fun (xs, τ2) => (setl x :: xs, τ2)
noncomputable def evT (p : Bool) : CT → T → Option (Bool × T)
  | .yes, τ => some (true, τ)
  | .and a b, τ => match evT p a τ with
    | some (true, τ1) => evT p b τ1
    | r => r
  | .or a b, τ => match evT p a τ with
    | some (false, τ1) => evT p b τ1
    | r => r
  | .not a, τ => match evT p a τ with
    | some (b, τ1) => some (!b, τ1)
    | none => none
  | .e e, τ => match evE p e τ with
    | some (.d (.bl b), τ1) => some (b, τ1)
    | _ => none
noncomputable def evI (p : Bool) : CI → T → Option (List D × T)
  | .e e, τ => match evE p e τ with
    | none => none
    | some (r, τ1) => match esc p τ1 r with
      | some (.lst xs, τ2) => some (xs, τ2)
      | some (.tup xs, τ2) => some (xs, τ2)
      | some (.scr ns, τ2) => some (ns.map .int, τ2)
      | _ => none
  | .rng1 a, τ => match evE p a τ with
    | some (.d (.int i), τ1) => if rngOk 0 i then some (rngD 0 i, τ1) else none
    | _ => none
  | .rng2 a b, τ => match evE p a τ with
    | some (.d (.int i), τ1) => (match evE p b τ1 with
      | some (.d (.int j), τ2) => if rngOk i j then some (rngD i j, τ2) else none
      | _ => none)
    | _ => none
  | .enum a, τ => match evE p a τ with
    | none => none
    | some (r, τ1) => match esc p τ1 r with
      | some (.lst xs, τ2) => some (enumD 0 xs, τ2)
      | some (.tup xs, τ2) => some (enumD 0 xs, τ2)
      | _ => none
  | .zip a b, τ => match evE p a τ with
    | none => none
    | some (ra, τ1) => match esc p τ1 ra with
      | none => none
      | some (x, τ2) => match evE p b τ2 with
        | none => none
        | some (rb, τ3) => match esc p τ3 rb with
          | none => none
          | some (y, τ4) => match x, y with
            | .lst xs, .lst ys => some (zipD xs ys, τ4)
            | .tup xs, .tup ys => some (zipD xs ys, τ4)
            | _, _ => none
end

mutual
/-- what an expression raises -/
noncomputable def rsE (p : Bool) : CE → T → Option (XD × T)
  | .call f es, τ => match evL G cl p es τ with
    | none => none
    | some (rs, τ1) => match G.fns.lookup f with
      | none => none
      | some fn => match takeA p fn.io 0 rs τ1 with
        | none => none
        | some (ms, is, τ2) => match cl.exc f ms with
          | none => none
          | some (x, os) => some (x, giveA is os τ2)
  | .mk c es, τ => match evL G cl p es τ with
    | none => none
    | some (rs, τ1) => match G.cls.lookup c with
      | none => none
      | some k => match G.fns.lookup k.init with
        | none => none
        | some fn => match takeA p fn.io 1 rs τ1 with
          | none => none
          | some (ms, is, τ2) => match cl.exc k.init (.ins c [] :: ms) with
            | some (x, _ :: os) => some (x, giveA is os τ2)
            | _ => none
  | .um m o es, τ => match evE G cl p o τ with
    | none => none
    | some (ro, τ1) => match recvC τ1 m ro with
      | none => none
      | some c => match G.cls.lookup c with
        | none => none
        | some k => match k.ms.lookup m with
          | none => none
          | some f => match G.fns.lookup f with
            | none => none
            | some fn => match evL G cl p es τ1 with
              | none => none
              | some (rs, τ2) => match ro with
                | .d d => (match takeA p fn.io 1 rs τ2 with
                  | none => none
                  | some (ms, is, τ3) => match cl.exc f (.v d :: ms) with
                    | some (x, _ :: os) => some (x, giveA is os τ3)
                    | _ => none)
                | .m _ => none
                | .pl i none => (match takeA p fn.io 0 (.pl i none :: rs) τ2 with
                  | none => none
                  | some (ms, is, τ3) => match cl.exc f ms with
                    | some (x, os) => some (x, giveA is os τ3)
                    | none => none)
                | .pl _ (some _) => none
  | .tup es, τ => rsX p es τ
  | .frz a, τ => rsE p a τ
  | .ife t a b, τ => match evT G cl p t τ with
    | some (true, τ1) => rsE p a τ1
    | some (false, τ1) => rsE p b τ1
    | none => none
  | _, _ => none
noncomputable def rsX (p : Bool) : CEs → T → Option (XD × T)
  | .nil, _ => none
  | .cons e r, τ => match evE G cl p e τ with
    | none => rsE p e τ
    | some (x, τ1) => match esc p τ1 x with
      | none => none
      | some (_, τ2) => rsX p r τ2
end
/-- a loop whose body raises -/
noncomputable def forR (g : D → T → Option T) (b : T → Option Fl) (rb : T → Option (XD × T)) : List D → T → Option (XD × T)
  | [], _ => none
  | x :: xs, τ => match g x τ with
    | none => none
    | some τ1 => match b τ1 with
      | some (.nx τ2) => forR g b rb xs τ2
      | some (.ct τ2) => forR g b rb xs τ2
      | some _ => none
      | none => rb τ1
noncomputable def whileR (t : T → Option (Bool × T)) (b : T → Option Fl) (rb : T → Option (XD × T)) : Nat → T → Option (XD × T)
  | 0, _ => none
  | n + 1, τ => match t τ with
    | none => none
    | some (false, _) => none
    | some (true, τ1) => match b τ1 with
      | some (.nx τ2) => whileR t b rb n τ2
      | some (.ct τ2) => whileR t b rb n τ2
      | some _ => none
      | none => rb τ1
mutual
/-- all errors in it are of lesser numbers -/
noncomputable def mxD : D → Nat
  | .exc n => n + 1
  | .tup xs => mxL xs
  | .lst xs => mxL xs
  | .dK _ vs => mxL vs
  | .dT _ vs => mxL vs
  | .ins _ fs => mxF fs
  | _ => 0
noncomputable def mxL : List D → Nat
  | [] => 0
  | d :: r => max (mxD d) (mxL r)
noncomputable def mxF : List (Nat × D) → Nat
  | [] => 0
  | (_, d) :: r => max (mxD d) (mxF r)
end
mutual
noncomputable def mxM : M → Nat
  | .v d => mxD d
  | .lst xs => mxL xs
  | .dK _ vs => mxL vs
  | .dT _ vs => mxL vs
  | .ins _ fs => mxMF fs
noncomputable def mxMF : List (Nat × M) → Nat
  | [] => 0
  | (_, m) :: r => max (mxM m) (mxMF r)
end
noncomputable def mxT : T → Nat
  | [] => 0
  | none :: r => mxT r
  | some m :: r => max (mxM m) (mxT r)
noncomputable def bindX (i : Option Nat) (n : Nat) (τ : T) : T := match i with
  | some i => τ.set i (some (.v (.exc n)))
  | none => τ
noncomputable def clrS (i : Option Nat) (τ : T) : T := match i with
  | some i => τ.set i none
  | none => τ
noncomputable def clrF (i : Option Nat) : Fl → Fl
  | .nx τ => .nx (clrS i τ)
  | .bk τ => .bk (clrS i τ)
  | .ct τ => .ct (clrS i τ)
  | .ret m τ => .ret m (clrS i τ)
noncomputable def forL (g : D → T → Option T) (b : T → Option Fl) : List D → T → Option Fl
  | [], τ => some (.nx τ)
  | x :: xs, τ => match g x τ with
    | none => none
    | some τ1 => match b τ1 with
      | some (.nx τ2) => forL g b xs τ2
      | some (.ct τ2) => forL g b xs τ2
      | some (.bk τ2) => some (.nx τ2)
      | r => r
noncomputable def whileL (t : T → Option (Bool × T)) (b : T → Option Fl) : Nat → T → Option Fl
  | 0, _ => none
  | n + 1, τ => match t τ with
    | none => none
    | some (false, τ1) => some (.nx τ1)
    | some (true, τ1) => match b τ1 with
      | some (.nx τ2) => whileL t b n τ2
      | some (.ct τ2) => whileL t b n τ2
      | some (.bk τ2) => some (.nx τ2)
      | r => r
noncomputable def WF : Nat := 33554432
/-- a thing given to a name, a field: a new thing is held there alone -/
noncomputable def give (τ : T) : R → Option (M × T)
  | .m m => some (m, τ)
  | r => match esc false τ r with
    | some (d, τ1) => some (.v d, τ1)
    | none => none
noncomputable def augD (op : Operator) (x y : Int) : Option Int := match op with
  | .Add => some (x + y)
  | .Sub => some (x - y)
  | .Mult => if (-(2 ^ 64) < x ∧ x < 2 ^ 64) ∨ (-(2 ^ 64) < y ∧ y < 2 ^ 64) then some (x * y) else none
  | _ => none
noncomputable def setMs : List Nat → List M → T → Option T
  | [], [], τ => some τ
  | i :: is, m :: ms, τ => setMs is ms (τ.set i (some m))
  | _, _, _ => none
end
mutual
noncomputable def evS (G : GS) (cl : Caller) (io : List Nat) : CS → T → Option Fl
  | .set i e, τ => if io.contains i then none else match evE G cl false e τ with
    | none => none
    | some (r, τ1) => match give τ1 r with
      | none => none
      | some (m, τ2) => some (.nx (τ2.set i (some m)))
  | .setT tg e, τ => match evE G cl false e τ with
    | none => none
    | some (r, τ1) => match esc false τ1 r with
      | some (d, τ2) => (bindTg io tg d τ2).map .nx
      | none => none
  | .par i j a b, τ => if io.contains i || io.contains j then none else match evX G cl false (.cons a (.cons b .nil)) τ with
    | some ([x, y], τ1) => some (.nx ((τ1.set i (some (.v x))).set j (some (.v y))))
    | _ => none
  | .aug i op e, τ => if io.contains i then none else match slotM τ i with
    | some (.v (.int x)) => (match evE G cl false e τ with
      | some (.d (.int y), τ1) => (match augD op x y with
        | some z => some (.nx (τ1.set i (some (.v (.int z)))))
        | none => none)
      | _ => none)
    | _ => none
  | .fset i f e, τ => match evE G cl false e τ with
    | none => none
    | some (r, τ1) => match give τ1 r with
      | none => none
      | some (m, τ2) => match slotM τ2 i with
        | some (.ins c fs) => if fs.length < 900 ∧ ((G.cls.lookup c).map fun k => k.fl.contains f) = some true then some (.nx (τ2.set i (some (.ins c (putA f m fs))))) else none
        | _ => none
  | .iset i k e, τ => match evE G cl false e τ with
    | none => none
    | some (r, τ1) => match esc false τ1 r with
      | none => none
      | some (d, τ2) => match evE G cl true k τ2 with
        | some (.d kd, _) => (match slotM τ2 i with
          | some m => (match setIx m kd d with
            | some m' => some (.nx (τ2.set i (some m')))
            | none => none)
          | none => none)
        | _ => none
  | .fiset i f k e, τ => match evE G cl false e τ with
    | none => none
    | some (r, τ1) => match esc false τ1 r with
      | none => none
      | some (d, τ2) => match evE G cl true k τ2 with
        | some (.d kd, _) => (match getP τ2 i (some f) with
          | some m => (match setIx m kd d with
            | some m' => some (.nx (setP τ2 i m' (some f)))
            | none => none)
          | none => none)
        | _ => none
  | .bad, τ => none
  | .ex e, τ => (evE G cl false e τ).map fun (_, τ1) => .nx τ1
  | .ret e, τ => match evE G cl false e τ with
    | none => none
    | some (r, τ1) => match r with
      | .m m => some (.ret m τ1)
      | .pl i none => if io.contains i then (match esc false τ1 r with
          | some (d, τ2) => some (.ret (.v d) τ2)
          | none => none)
        else (match slotM τ1 i with
          | some m => some (.ret m (τ1.set i none))
          | none => none)
      | _ => match esc false τ1 r with
        | some (d, τ2) => some (.ret (.v d) τ2)
        | none => none
  | .retN, τ => some (.ret (.v .non) τ)
  | .pass, τ => some (.nx τ)
  | .brk, τ => some (.bk τ)
  | .cont, τ => some (.ct τ)
  | .ite t a b, τ => match evT G cl false t τ with
    | some (true, τ1) => evSs G cl io a τ1
    | some (false, τ1) => evSs G cl io b τ1
    | none => none
  | .whl t b, τ => whileL (evT G cl false t) (fun t' => evSs G cl io b t') WF τ
  | .loop tg it b, τ => match evI G cl false it τ with
    | none => none
    | some (xs, τ1) => forL (bindTg io tg) (fun t' => evSs G cl io b t') xs τ1
  | .rse _ _, _ => none
  | .tryx b hs, τ => match evSs G cl io b τ with
    | some fl => some fl
    | none => match rsSs G cl io b τ with
      | some (x, τ1) => evH G cl io hs x τ1
      | none => none
noncomputable def evSs (G : GS) (cl : Caller) (io : List Nat) : CSs → T → Option Fl
  | .nil, τ => some (.nx τ)
  | .cons s r, τ => match evS G cl io s τ with
    | some (.nx τ1) => evSs G cl io r τ1
    | x => x
/-- the clauses, one after the other -/
noncomputable def evH (G : GS) (cl : Caller) (io : List Nat) : CHs → XD → T → Option Fl
  | .nil, _, _ => none
  | .cons c i b r, x, τ => match isX G x.1 (some c) with
    | some true => if i.any (fun j => io.contains j) then none else (evSs (G.at (some (max (mxT τ) (mxF x.2), x))) cl io b (bindX i (max (mxT τ) (mxF x.2)) τ)).map (clrF i)
    | some false => evH G cl io r x τ
    | none => none
/-- what a statement raises -/
noncomputable def rsS (G : GS) (cl : Caller) (io : List Nat) : CS → T → Option (XD × T)
  | .set i e, τ => if io.contains i then none else rsE G cl false e τ
  | .setT _ e, τ => rsE G cl false e τ
  | .ex e, τ => rsE G cl false e τ
  | .ret e, τ => rsE G cl false e τ
  | .rse k es, τ => match evX G cl false es τ with
    | none => none
    | some (ds, τ1) => match G.exc.lookup k with
      | none => none
      | some ec => if ec.rs then (match ec.fld, ds with
        | none, [] => some ((k, []), τ1)
        | some f, [d] => some ((k, [(f, d)]), τ1)
        | _, _ => none) else none
  | .ite t a b, τ => match evT G cl false t τ with
    | some (true, τ1) => rsSs G cl io a τ1
    | some (false, τ1) => rsSs G cl io b τ1
    | none => none
  | .whl t b, τ => whileR (evT G cl false t) (fun t' => evSs G cl io b t') (fun t' => rsSs G cl io b t') WF τ
  | .loop tg it b, τ => match evI G cl false it τ with
    | none => none
    | some (xs, τ1) => forR (bindTg io tg) (fun t' => evSs G cl io b t') (fun t' => rsSs G cl io b t') xs τ1
  | _, _ => none
noncomputable def rsSs (G : GS) (cl : Caller) (io : List Nat) : CSs → T → Option (XD × T)
  | .nil, _ => none
  | .cons s r, τ => match evS G cl io s τ with
    | some (.nx τ1) => rsSs G cl io r τ1
    | some _ => none
    | none => rsS G cl io s τ
end
/-- a def called: n calls deep at most -/
noncomputable def callN (G : GS) : Nat → Caller
  | 0 => ⟨fun _ _ => none⟩
  | n + 1 => ⟨fun f args => match G.fns.lookup f with
    | none => none
    | some fn => if args.length = fn.np ∧ fn.np ≤ fn.ns then
        (match evSs G (callN G n) fn.io fn.body (args.map some ++ List.replicate (fn.ns - fn.np) none) with
        | some (.ret m τ) => (outs fn.io 0 args τ).map fun os => (.inl m, os)
        | some (.nx τ) => (outs fn.io 0 args τ).map fun os => (.inl (.v .non), os)
        | some _ => none
        | none => match rsSs G (callN G n) fn.io fn.body (args.map some ++ List.replicate (fn.ns - fn.np) none) with
          | some (x, τ) => (outs fn.io 0 args τ).map fun os => (.inr x, os)
          | none => none)
      else none⟩
theorem callN_run {G : GS} {n f : Nat} {args : List M} : callN G (n + 1) f args = match G.fns.lookup f with
    | none => none
    | some fn => if args.length = fn.np ∧ fn.np ≤ fn.ns then
        (match evSs G (callN G n) fn.io fn.body (args.map some ++ List.replicate (fn.ns - fn.np) none) with
        | some (.ret m τ) => (outs fn.io 0 args τ).map fun os => (m, os)
        | some (.nx τ) => (outs fn.io 0 args τ).map fun os => (.v .non, os)
        | _ => none)
      else none := by
  show valO ((callN G (n + 1)).out f args) = _
  rw [callN]
  dsimp only
  cases G.fns.lookup f with
  | none => rfl
  | some fn =>
    simp only
    by_cases h : args.length = fn.np ∧ fn.np ≤ fn.ns
    · rw [if_pos h, if_pos h]
      cases evSs G (callN G n) fn.io fn.body (args.map some ++ List.replicate (fn.ns - fn.np) none) with
      | none =>
        simp only
        cases rsSs G (callN G n) fn.io fn.body (args.map some ++ List.replicate (fn.ns - fn.np) none) with
        | none => rfl
        | some u =>
          simp only
          cases outs fn.io 0 args u.2 <;> rfl
      | some fl =>
        cases fl with
        | nx τ =>
          simp only
          cases outs fn.io 0 args τ <;> rfl
        | bk τ => rfl
        | ct τ => rfl
        | ret m τ =>
          simp only
          cases outs fn.io 0 args τ <;> rfl
    · rw [if_neg h, if_neg h]
      rfl
theorem callN_exc {G : GS} {n f : Nat} {args : List M} : (callN G (n + 1)).exc f args = match G.fns.lookup f with
    | none => none
    | some fn => if args.length = fn.np ∧ fn.np ≤ fn.ns then
        (match evSs G (callN G n) fn.io fn.body (args.map some ++ List.replicate (fn.ns - fn.np) none) with
        | some _ => none
        | none => match rsSs G (callN G n) fn.io fn.body (args.map some ++ List.replicate (fn.ns - fn.np) none) with
          | some (x, τ) => (outs fn.io 0 args τ).map fun os => (x, os)
          | none => none)
      else none := by
  show excO ((callN G (n + 1)).out f args) = _
  rw [callN]
  dsimp only
  cases G.fns.lookup f with
  | none => rfl
  | some fn =>
    simp only
    by_cases h : args.length = fn.np ∧ fn.np ≤ fn.ns
    · rw [if_pos h, if_pos h]
      cases evSs G (callN G n) fn.io fn.body (args.map some ++ List.replicate (fn.ns - fn.np) none) with
      | none =>
        simp only
        cases rsSs G (callN G n) fn.io fn.body (args.map some ++ List.replicate (fn.ns - fn.np) none) with
        | none => rfl
        | some u =>
          simp only
          cases outs fn.io 0 args u.2 <;> rfl
      | some fl =>
        cases fl with
        | nx τ =>
          simp only
          cases outs fn.io 0 args τ <;> rfl
        | bk τ => rfl
        | ct τ => rfl
        | ret m τ =>
          simp only
          cases outs fn.io 0 args τ <;> rfl
    · rw [if_neg h, if_neg h]
      rfl
theorem callN_zero {G : GS} {f : Nat} {args : List M} : callN G 0 f args = none := rfl
theorem callN_zeroX {G : GS} {f : Nat} {args : List M} : (callN G 0).exc f args = none := rfl
end Ev

/-! Ev, part B: what a value stands for in the abstract heap; states; what an expression's evaluation promises. -/
namespace Ev
open PySem L2

/-- what isinstance asks of a class of the text -/
structure IsC (K : PySem.W.Frag) (cls : List (Nat × Addr)) (ci : Nat) (C : Addr) : Prop where
  cl : Cls K C
  at_ : PySem.W.findIn K (.ref C) "__class__" = some (some (.builtin "object.__class__"))
  gt : PySem.W.specialIn K (.builtin "object.__class__") "__get__" = some (some (.builtin "getset_descriptor.__get__"))
  tk : PySem.W.takesIn K (.builtin "object.__class__") = some true
  mr : PySem.W.mroIn K C (.type "object") = some true
  bt : ∀ t : Ty, PySem.W.kitOne K (.type t.nm) (.ref C) = some false
  tb : ∀ t : Ty, PySem.W.kitOne K (.ref C) (.type t.nm) = some false
  cc : ∀ q ∈ cls, PySem.W.kitOne K (.ref C) (.ref q.2) = some (q.1 == ci)
structure Cn where
  K : PySem.W.Frag
  cls : List (Nat × Addr)
  attrs : List Str
  nd : attrs.Nodup
  fok : Nat → Nat → Bool
  isc : ∀ q ∈ cls, IsC K cls q.1 q.2
  exc : List (Nat × Addr) := []
  ex : Option (Nat × Addr × Option (Addr × List (Str × V) × List (Nat × D))) := none

/-- a tuple at a: tracked -/
noncomputable def TupAt (K : PySem.W.Frag) (Z : Hp) (a : Addr) (vs : List V) : Prop := Z a = some (.tup vs)
theorem TupAt.sq {K : PySem.W.Frag} {Z : Hp} {a : Addr} {vs : List V} (h : TupAt K Z a vs) : SqT K Z a vs := .inl (.inl h)
mutual
noncomputable def Rep (c : Cn) (Z : Hp) : D → V → Prop
  | .dK ks ds, x => ∃ a kvs vs, x = .ref a ∧ Z a = some (.dK kvs) ∧ ks = kvs.map (·.1) ∧ vs = kvs.map (·.2) ∧ RepL c Z ds vs
  | .dT ks ds, x => ∃ a kvs vs, x = .ref a ∧ Z a = some (.dT kvs) ∧ ks = kvs.map (·.1) ∧ vs = kvs.map (·.2) ∧ RepL c Z ds vs
  | .non, x => x = .non
  | .bl b, x => x = .bl b
  | .int i, x => x = .int i
  | .str s, x => x = .str s
  | .ty t, x => x = .ty t.nm
  | .cl k, x => ∃ a, c.cls.lookup k = some a ∧ x = .ref a
  | .tup ds, x => ∃ a vs, x = .ref a ∧ TupAt c.K Z a vs ∧ RepL c Z ds vs
  | .lst ds, x => ∃ a vs, x = .ref a ∧ Z a = some (.lst vs) ∧ RepL c Z ds vs
  | .ins k fs, x => ∃ a C dx gs, x = .ref a ∧ c.cls.lookup k = some C ∧ Z a = some (.ins C dx gs) ∧ RepF c Z fs gs ∧ ∀ p ∈ fs, c.fok k p.1 = true
  | .scr ns, x => ∃ a, x = .ref a ∧ SqL c.K Z a (ns.map V.int)
  | .exc n, x => ∃ b, x = .ref b ∧ ∀ a q, c.ex = some (n, a, q) → b = a
noncomputable def RepL (c : Cn) (Z : Hp) : List D → List V → Prop
  | [], vs => vs = []
  | d :: ds, vs => ∃ v r, vs = v :: r ∧ Rep c Z d v ∧ RepL c Z ds r
noncomputable def RepF (c : Cn) (Z : Hp) : List (Nat × D) → List (Str × V) → Prop
  | [], gs => gs = []
  | (f, d) :: fs, gs => ∃ s v r, gs = (s, v) :: r ∧ c.attrs[f]? = some s ∧ Rep c Z d v ∧ RepF c Z fs r
end
mutual
noncomputable def OR (c : Cn) (Z H : Hp) : M → V → List Addr → Prop
  | .v d, x, A => A = [] ∧ Rep c Z d x
  | .lst ds, x, A => ∃ a vs, x = .ref a ∧ A = [a] ∧ H a = some (.lst vs) ∧ RepL c Z ds vs
  | .dK ks ds, x, A => ∃ a kvs vs, x = .ref a ∧ A = [a] ∧ H a = some (.dK kvs) ∧ ks = kvs.map (·.1) ∧ vs = kvs.map (·.2) ∧ RepL c Z ds vs
  | .dT ks ds, x, A => ∃ a kvs vs, x = .ref a ∧ A = [a] ∧ H a = some (.dT kvs) ∧ ks = kvs.map (·.1) ∧ vs = kvs.map (·.2) ∧ RepL c Z ds vs
  | .ins k fs, x, A => ∃ a C dx gs B, x = .ref a ∧ A = a :: B ∧ c.cls.lookup k = some C ∧ H a = some (.ins C dx gs) ∧ ORF c Z H fs gs B ∧ ∀ p ∈ fs, c.fok k p.1 = true
noncomputable def ORF (c : Cn) (Z H : Hp) : List (Nat × M) → List (Str × V) → List Addr → Prop
  | [], gs, B => gs = [] ∧ B = []
  | (f, m) :: fs, gs, B => ∃ s v r B1 B2, gs = (s, v) :: r ∧ B = B1 ++ B2 ∧ c.attrs[f]? = some s ∧ OR c Z H m v B1 ∧ ORF c Z H fs r B2
end
theorem sqT_mono {K : PySem.W.Frag} {Z Z' : Hp} {a : Addr} {vs : List V} (h : Same Z Z') (q : TupAt K Z a vs) : TupAt K Z' a vs := h _ _ q
mutual
theorem Rep.mono {c : Cn} {Z Z' : Hp} (h : Same Z Z') : ∀ (d : D) (x : V), Rep c Z d x → Rep c Z' d x
  | .non, _, q => q
  | .bl _, _, q => q
  | .int _, _, q => q
  | .str _, _, q => q
  | .ty _, _, q => q
  | .cl _, _, q => q
  | .tup ds, _, q => by
    obtain ⟨a, vs, e, s, r⟩ := q
    exact ⟨a, vs, e, sqT_mono h s, RepL.mono h ds vs r⟩
  | .lst ds, _, q => by
    obtain ⟨a, vs, e, s, r⟩ := q
    exact ⟨a, vs, e, h _ _ s, RepL.mono h ds vs r⟩
  | .dK ks ds, _, q => by
    obtain ⟨a, kvs, vs, e, s, e1, e2, r⟩ := q
    exact ⟨a, kvs, vs, e, h _ _ s, e1, e2, RepL.mono h ds vs r⟩
  | .dT ks ds, _, q => by
    obtain ⟨a, kvs, vs, e, s, e1, e2, r⟩ := q
    exact ⟨a, kvs, vs, e, h _ _ s, e1, e2, RepL.mono h ds vs r⟩
  | .ins k fs, _, q => by
    obtain ⟨a, C, dx, gs, e, hc, s, r, ok⟩ := q
    exact ⟨a, C, dx, gs, e, hc, h _ _ s, RepF.mono h fs gs r, ok⟩
  | .scr ns, _, q => by
    obtain ⟨a, e, s⟩ := q
    exact ⟨a, e, h.seq s⟩
  | .exc n, _, q => q
theorem RepL.mono {c : Cn} {Z Z' : Hp} (h : Same Z Z') : ∀ (ds : List D) (vs : List V), RepL c Z ds vs → RepL c Z' ds vs
  | [], _, q => q
  | d :: ds, _, q => by
    obtain ⟨v, r, e, q1, q2⟩ := q
    exact ⟨v, r, e, Rep.mono h d v q1, RepL.mono h ds r q2⟩
theorem RepF.mono {c : Cn} {Z Z' : Hp} (h : Same Z Z') : ∀ (fs : List (Nat × D)) (gs : List (Str × V)), RepF c Z fs gs → RepF c Z' fs gs
  | [], _, q => q
  | (f, d) :: fs, _, q => by
    obtain ⟨s, v, r, e, ha, q1, q2⟩ := q
    exact ⟨s, v, r, e, ha, Rep.mono h d v q1, RepF.mono h fs r q2⟩
end
mutual
theorem OR.keep {c : Cn} {Z Z' H H' : Hp} (h : Same Z Z') : ∀ (m : M) (x : V) (A : List Addr), (∀ a ∈ A, H' a = H a) → OR c Z H m x A → OR c Z' H' m x A
  | .v d, _, _, _, q => ⟨q.1, Rep.mono h d _ q.2⟩
  | .lst ds, _, A, k, q => by
    obtain ⟨a, vs, e, ea, s, r⟩ := q
    exact ⟨a, vs, e, ea, by rw [k a (by rw [ea]; simp)]; exact s, RepL.mono h ds vs r⟩
  | .dK ks ds, _, A, k, q => by
    obtain ⟨a, kvs, vs, e, ea, s, e1, e2, r⟩ := q
    exact ⟨a, kvs, vs, e, ea, by rw [k a (by rw [ea]; simp)]; exact s, e1, e2, RepL.mono h ds vs r⟩
  | .dT ks ds, _, A, k, q => by
    obtain ⟨a, kvs, vs, e, ea, s, e1, e2, r⟩ := q
    exact ⟨a, kvs, vs, e, ea, by rw [k a (by rw [ea]; simp)]; exact s, e1, e2, RepL.mono h ds vs r⟩
  | .ins k fs, _, A, kp, q => by
    obtain ⟨a, C, dx, gs, B, e, ea, hc, s, r, ok⟩ := q
    exact ⟨a, C, dx, gs, B, e, ea, hc, by rw [kp a (by rw [ea]; simp)]; exact s, ORF.keep h fs gs B (fun b hb => kp b (by rw [ea]; exact List.mem_cons_of_mem _ hb)) r, ok⟩
theorem ORF.keep {c : Cn} {Z Z' H H' : Hp} (h : Same Z Z') : ∀ (fs : List (Nat × M)) (gs : List (Str × V)) (B : List Addr), (∀ a ∈ B, H' a = H a) → ORF c Z H fs gs B → ORF c Z' H' fs gs B
  | [], _, _, _, q => q
  | (f, m) :: fs, _, _, k, q => by
    obtain ⟨s, v, r, B1, B2, e, eb, ha, q1, q2⟩ := q
    exact ⟨s, v, r, B1, B2, e, eb, ha, OR.keep h m v B1 (fun a z => k a (by rw [eb]; exact List.mem_append_left _ z)) q1, ORF.keep h fs r B2 (fun a z => k a (by rw [eb]; exact List.mem_append_right _ z)) q2⟩
end
theorem frzF_keys : ∀ (fs : List (Nat × M)) (p : Nat × D), p ∈ frzF fs → ∃ p' ∈ fs, p'.1 = p.1
  | [], p, h => by simp [frzF] at h
  | (f, m) :: r, p, h => by
    rcases List.mem_cons.mp (show p ∈ (f, frz m) :: frzF r from h) with z | z
    · exact ⟨(f, m), by simp, by rw [z]⟩
    · obtain ⟨p', h1, h2⟩ := frzF_keys r p z
      exact ⟨p', by simp [h1], h2⟩
theorem putA_keys (f : Nat) (m : M) : ∀ (fs : List (Nat × M)) (p : Nat × M), p ∈ putA f m fs → p.1 = f ∨ ∃ p' ∈ fs, p'.1 = p.1
  | [], p, h => by
    have : p = (f, m) := by simpa [putA] using h
    exact .inl (by rw [this])
  | (g, n) :: r, p, h => by
    by_cases e : g = f
    · have h' : p ∈ (f, m) :: r := by simpa [putA, e] using h
      rcases List.mem_cons.mp h' with z | z
      · exact .inl (by rw [z])
      · exact .inr ⟨p, by simp [z], rfl⟩
    · have h' : p ∈ (g, n) :: putA f m r := by simpa [putA, e] using h
      rcases List.mem_cons.mp h' with z | z
      · exact .inr ⟨(g, n), by simp, by rw [z]⟩
      · rcases putA_keys f m r p z with q | ⟨p', h1, h2⟩
        · exact .inl q
        · exact .inr ⟨p', by simp [h1], h2⟩
theorem getA_mem {f : Nat} {m : M} : ∀ {fs : List (Nat × M)}, getA f fs = some m → (f, m) ∈ fs
  | [], h => by simp [getA] at h
  | (g, n) :: r, h => by
    by_cases e : g = f
    · have : n = m := by simpa [getA, e] using h
      rw [e, this]; simp
    · exact List.mem_cons_of_mem _ (getA_mem (by simpa [getA, e] using h))
mutual
theorem OR.frz {c : Cn} {Z H W : Hp} (h : Same Z W) : ∀ (m : M) (x : V) (A : List Addr), (∀ a ∈ A, W a = H a) → OR c Z H m x A → Rep c W (Ev.frz m) x
  | .v d, _, _, _, q => Rep.mono h d _ q.2
  | .lst ds, _, A, k, q => by
    obtain ⟨a, vs, e, ea, s, r⟩ := q
    exact ⟨a, vs, e, by rw [k a (by rw [ea]; simp)]; exact s, RepL.mono h ds vs r⟩
  | .dK ks ds, _, A, k, q => by
    obtain ⟨a, kvs, vs, e, ea, s, e1, e2, r⟩ := q
    exact ⟨a, kvs, vs, e, by rw [k a (by rw [ea]; simp)]; exact s, e1, e2, RepL.mono h ds vs r⟩
  | .dT ks ds, _, A, k, q => by
    obtain ⟨a, kvs, vs, e, ea, s, e1, e2, r⟩ := q
    exact ⟨a, kvs, vs, e, by rw [k a (by rw [ea]; simp)]; exact s, e1, e2, RepL.mono h ds vs r⟩
  | .ins k fs, _, A, kp, q => by
    obtain ⟨a, C, dx, gs, B, e, ea, hc, s, r, ok⟩ := q
    exact ⟨a, C, dx, gs, e, hc, by rw [kp a (by rw [ea]; simp)]; exact s, ORF.frz h fs gs B (fun b hb => kp b (by rw [ea]; exact List.mem_cons_of_mem _ hb)) r, fun p hp => by
      obtain ⟨p', h1, h2⟩ := frzF_keys fs p hp
      rw [← h2]
      exact ok p' h1⟩
theorem ORF.frz {c : Cn} {Z H W : Hp} (h : Same Z W) : ∀ (fs : List (Nat × M)) (gs : List (Str × V)) (B : List Addr), (∀ a ∈ B, W a = H a) → ORF c Z H fs gs B → RepF c W (Ev.frzF fs) gs
  | [], _, _, _, q => q.1
  | (f, m) :: fs, _, _, k, q => by
    obtain ⟨s, v, r, B1, B2, e, eb, ha, q1, q2⟩ := q
    exact ⟨s, v, r, e, ha, OR.frz h m v B1 (fun a z => k a (by rw [eb]; exact List.mem_append_left _ z)) q1, ORF.frz h fs r B2 (fun a z => k a (by rw [eb]; exact List.mem_append_right _ z)) q2⟩
end
mutual
theorem OR.live {c : Cn} {Z H : Hp} : ∀ (m : M) (x : V) (A : List Addr), OR c Z H m x A → ∀ a ∈ A, H a ≠ none
  | .v d, _, A, q, a, ha => by rw [q.1] at ha; cases ha
  | .lst ds, _, A, q, a, ha => by
    obtain ⟨b, vs, e, ea, s, r⟩ := q
    rw [ea] at ha
    rw [List.mem_singleton.mp ha, s]
    intro z; cases z
  | .dK ks ds, _, A, q, a, ha => by
    obtain ⟨b, kvs, vs, e, ea, s, _⟩ := q
    rw [ea] at ha
    rw [List.mem_singleton.mp ha, s]
    intro z; cases z
  | .dT ks ds, _, A, q, a, ha => by
    obtain ⟨b, kvs, vs, e, ea, s, _⟩ := q
    rw [ea] at ha
    rw [List.mem_singleton.mp ha, s]
    intro z; cases z
  | .ins k fs, _, A, q, a, ha => by
    obtain ⟨b, C, dx, gs, B, e, ea, hc, s, r, ok⟩ := q
    rw [ea] at ha
    rcases List.mem_cons.mp ha with z | z
    · rw [z, s]
      intro z; cases z
    · exact ORF.live fs gs B r a z
theorem ORF.live {c : Cn} {Z H : Hp} : ∀ (fs : List (Nat × M)) (gs : List (Str × V)) (B : List Addr), ORF c Z H fs gs B → ∀ a ∈ B, H a ≠ none
  | [], _, B, q, a, ha => by rw [q.2] at ha; cases ha
  | (f, m) :: fs, _, B, q, a, ha => by
    obtain ⟨s, v, r, B1, B2, e, eb, hs, q1, q2⟩ := q
    rw [eb] at ha
    rcases List.mem_append.mp ha with z | z
    · exact OR.live m v B1 q1 a z
    · exact ORF.live fs r B2 q2 a z
end
mutual
theorem OR.nt {c : Cn} {Z H : Hp} : ∀ (m : M) (x : V) (A : List Addr), OR c Z H m x A → ∀ a ∈ A, ∀ us, H a ≠ some (.tup us)
  | .v d, _, A, q, a, ha, us => by rw [q.1] at ha; cases ha
  | .lst ds, _, A, q, a, ha, us => by
    obtain ⟨b, vs, e, ea, s, r⟩ := q
    rw [ea] at ha
    rw [List.mem_singleton.mp ha, s]
    intro z; cases z
  | .dK ks ds, _, A, q, a, ha, us => by
    obtain ⟨b, kvs, vs, e, ea, s, _⟩ := q
    rw [ea] at ha
    rw [List.mem_singleton.mp ha, s]
    intro z; cases z
  | .dT ks ds, _, A, q, a, ha, us => by
    obtain ⟨b, kvs, vs, e, ea, s, _⟩ := q
    rw [ea] at ha
    rw [List.mem_singleton.mp ha, s]
    intro z; cases z
  | .ins k fs, _, A, q, a, ha, us => by
    obtain ⟨b, C, dx, gs, B, e, ea, hc, s, r, ok⟩ := q
    rw [ea] at ha
    rcases List.mem_cons.mp ha with z | z
    · rw [z, s]
      intro z; cases z
    · exact ORF.nt fs gs B r a z us
theorem ORF.nt {c : Cn} {Z H : Hp} : ∀ (fs : List (Nat × M)) (gs : List (Str × V)) (B : List Addr), ORF c Z H fs gs B → ∀ a ∈ B, ∀ us, H a ≠ some (.tup us)
  | [], _, B, q, a, ha, us => by rw [q.2] at ha; cases ha
  | (f, m) :: fs, _, B, q, a, ha, us => by
    obtain ⟨s, v, r, B1, B2, e, eb, hs, q1, q2⟩ := q
    rw [eb] at ha
    rcases List.mem_append.mp ha with z | z
    · exact OR.nt m v B1 q1 a z us
    · exact ORF.nt fs r B2 q2 a z us
end
theorem RepL.len {c : Cn} {Z : Hp} : ∀ (ds : List D) (vs : List V), RepL c Z ds vs → vs.length = ds.length
  | [], _, q => by rw [show _ = [] from q]; rfl
  | d :: ds, _, q => by
    obtain ⟨v, r, rfl, _, q2⟩ := q
    simp [RepL.len ds r q2]
theorem RepL.get {c : Cn} {Z : Hp} : ∀ (ds : List D) (vs : List V) (i : Nat) (d : D), RepL c Z ds vs → ds[i]? = some d → ∃ v, vs[i]? = some v ∧ Rep c Z d v
  | [], _, i, d, _, h => by simp at h
  | e :: ds, _, 0, d, q, h => by
    obtain ⟨v, r, rfl, q1, q2⟩ := q
    simp at h
    subst h
    exact ⟨v, rfl, q1⟩
  | e :: ds, _, i + 1, d, q, h => by
    obtain ⟨v, r, rfl, q1, q2⟩ := q
    simpa using RepL.get ds r i d q2 (by simpa using h)
theorem RepL.getV {c : Cn} {Z : Hp} : ∀ (ds : List D) (vs : List V) (i : Nat) (v : V), RepL c Z ds vs → vs[i]? = some v → ∃ d, ds[i]? = some d ∧ Rep c Z d v := by
  intro ds vs i v q h
  have hl := RepL.len ds vs q
  have hi : i < vs.length := (List.getElem?_eq_some_iff.mp h).1
  obtain ⟨w, e, r⟩ := RepL.get ds vs i (ds[i]'(by omega)) q (by simp)
  rw [h] at e
  cases e
  exact ⟨_, by simp, r⟩
theorem RepL.append {c : Cn} {Z : Hp} : ∀ (ds es : List D) (vs ws : List V), RepL c Z ds vs → RepL c Z es ws → RepL c Z (ds ++ es) (vs ++ ws)
  | [], _, _, _, q, q' => by rw [show _ = [] from q]; exact q'
  | d :: ds, es, _, ws, q, q' => by
    obtain ⟨v, r, rfl, q1, q2⟩ := q
    exact ⟨v, r ++ ws, rfl, q1, RepL.append ds es r ws q2 q'⟩
theorem RepL.one {c : Cn} {Z : Hp} {d : D} {v : V} (q : Rep c Z d v) : RepL c Z [d] [v] := ⟨v, [], rfl, q, rfl⟩
theorem RepL.take {c : Cn} {Z : Hp} : ∀ (n : Nat) (ds : List D) (vs : List V), RepL c Z ds vs → RepL c Z (ds.take n) (vs.take n)
  | 0, _, _, _ => by simp [RepL]
  | n + 1, [], _, q => by rw [show _ = [] from q]; simp [RepL]
  | n + 1, d :: ds, _, q => by
    obtain ⟨v, r, rfl, q1, q2⟩ := q
    exact ⟨v, r.take n, rfl, q1, RepL.take n ds r q2⟩
theorem RepL.drop {c : Cn} {Z : Hp} : ∀ (n : Nat) (ds : List D) (vs : List V), RepL c Z ds vs → RepL c Z (ds.drop n) (vs.drop n)
  | 0, _, _, q => q
  | n + 1, [], _, q => by rw [show _ = [] from q]; simp [RepL]
  | n + 1, d :: ds, _, q => by
    obtain ⟨v, r, rfl, q1, q2⟩ := q
    simpa using RepL.drop n ds r q2
theorem RepL.set {c : Cn} {Z : Hp} {d : D} {v : V} (h : Rep c Z d v) : ∀ (n : Nat) (ds : List D) (vs : List V), RepL c Z ds vs → RepL c Z (ds.set n d) (vs.set n v)
  | _, [], _, q => by rw [show _ = [] from q]; simp [RepL]
  | 0, e :: ds, _, q => by
    obtain ⟨w, r, rfl, q1, q2⟩ := q
    exact ⟨v, r, rfl, h, q2⟩
  | n + 1, e :: ds, _, q => by
    obtain ⟨w, r, rfl, q1, q2⟩ := q
    exact ⟨w, r.set n v, rfl, q1, RepL.set h n ds r q2⟩
theorem RepL.erase {c : Cn} {Z : Hp} : ∀ (n : Nat) (ds : List D) (vs : List V), RepL c Z ds vs → RepL c Z (ds.eraseIdx n) (vs.eraseIdx n)
  | _, [], _, q => by rw [show _ = [] from q]; simp [RepL]
  | 0, e :: ds, _, q => by
    obtain ⟨w, r, rfl, q1, q2⟩ := q
    exact q2
  | n + 1, e :: ds, _, q => by
    obtain ⟨w, r, rfl, q1, q2⟩ := q
    exact ⟨w, r.eraseIdx n, rfl, q1, RepL.erase n ds r q2⟩
theorem RepL.rep {c : Cn} {Z : Hp} {ds : List D} {vs : List V} (q : RepL c Z ds vs) : ∀ k : Nat, RepL c Z (List.replicate k ds).flatten (List.replicate k vs).flatten
  | 0 => by simp [RepL]
  | k + 1 => by
    rw [List.replicate_succ, List.flatten_cons, List.replicate_succ, List.flatten_cons]
    exact RepL.append _ _ _ _ q (RepL.rep q k)
theorem RepL.dropLast {c : Cn} {Z : Hp} {ds : List D} {vs : List V} (q : RepL c Z ds vs) : RepL c Z ds.dropLast vs.dropLast := by
  rw [List.dropLast_eq_take, List.dropLast_eq_take, RepL.len ds vs q]
  exact RepL.take _ _ _ q
theorem RepL.ints {c : Cn} {Z : Hp} : ∀ (ns : List Int), RepL c Z (ns.map D.int) (ns.map V.int)
  | [] => rfl
  | n :: ns => ⟨_, _, rfl, rfl, RepL.ints ns⟩

/-! ### states -/
/-- every tracked tuple is frozen -/
noncomputable def TupsIn (Z H : Hp) : Prop := ∀ b vs, H b = some (.tup vs) → Z b = some (.tup vs)
theorem TupsIn.mono {Z Z' H : Hp} (t : TupsIn Z H) (h : Same Z Z') : TupsIn Z' H := fun b vs e => h _ _ (t b vs e)
theorem TupsIn.upd {Z H : Hp} (t : TupsIn Z H) {a : Addr} {o : HO} (ho : ∀ vs, o ≠ .tup vs) : TupsIn Z (L2.upd H a o) := fun b vs e => by
  by_cases z : b = a
  · subst z
    rw [upd_same] at e
    exact absurd (Option.some.inj e) (ho vs)
  · rw [upd_ne z] at e
    exact t b vs e
theorem TupsIn.new {Z H : Hp} (t : TupsIn Z H) {a : Addr} {us : List V} : TupsIn (L2.upd Z a (.tup us)) (L2.upd H a (.tup us)) := fun b vs e => by
  by_cases z : b = a
  · subst z
    rw [upd_same] at e ⊢
    exact e
  · rw [upd_ne z] at e ⊢
    exact t b vs e
structure Sta (c : Cn) (F Z H : Hp) (σ : L2.St) (τ : T) (A : Nat → List Addr) : Prop where
  fh : Same F H
  zh : Same Z H
  fz : ∀ a o, Z a = some o → F a = none
  len : τ.length = σ.length
  own : ∀ (i : Nat) (m : M), τ[i]? = some (some m) → ∃ v, σ[i]? = some (some v) ∧ OR c Z H m v (A i)
  nd : ∀ i, (A i).Nodup
  dj : ∀ i j a, a ∈ A i → a ∈ A j → i = j
  fr : ∀ i a, a ∈ A i → F a = none ∧ Z a = none ∧ H a ≠ none
  tz : TupsIn Z H
  xx : ∀ n a p, c.ex = some (n, a, some p) → Z p.1 = some (.xd p.2.1) ∧ RepF c Z p.2.2 p.2.1
theorem Sta.xm {c : Cn} {F Z H Z' : Hp} {σ : L2.St} {τ : T} {A : Nat → List Addr} (s : Sta c F Z H σ τ A) (z : Same Z Z') : ∀ n a p, c.ex = some (n, a, some p) → Z' p.1 = some (.xd p.2.1) ∧ RepF c Z' p.2.2 p.2.1 := fun n a p e =>
  ⟨z _ _ (s.xx n a p e).1, RepF.mono z _ _ (s.xx n a p e).2⟩
/-- what a result stands for -/
noncomputable def RR (c : Cn) (Z H : Hp) (σ : L2.St) (τ : T) : R → V → List Addr → Prop
  | .d d, x, B => B = [] ∧ Rep c Z d x
  | .m m, x, B => OR c Z H m x B
  | .pl i none, x, B => B = [] ∧ σ[i]? = some (some x) ∧ ∃ m, slotM τ i = some m ∧ isV m = false
  | .pl i (some f), x, B => B = [] ∧ (∃ m, getP τ i (some f) = some m ∧ isV m = false) ∧ ∃ a C dx gs s, σ[i]? = some (some (.ref a)) ∧ H a = some (.ins C dx gs) ∧ c.attrs[f]? = some s ∧ gs.lookup s = some x
structure Res (c : Cn) (F Z H : Hp) (σ : L2.St) (τ : T) (A : Nat → List Addr) (r : R) (x : V) (B : List Addr) : Prop where
  rr : RR c Z H σ τ r x B
  nd : B.Nodup
  dj : ∀ i a, a ∈ A i → a ∉ B
  fr : ∀ a ∈ B, F a = none ∧ Z a = none ∧ H a ≠ none
structure Post (c : Cn) (p : Bool) (F Z H : Hp) (σ : L2.St) (τ : T) (A : Nat → List Addr) (τ' : T) (H' Z' : Hp) (A' : Nat → List Addr) : Prop where
  zz : Same Z Z'
  st : Sta c F Z' H' σ τ' A'
  pu : p = true → Same H H' ∧ τ' = τ ∧ A' = A
theorem Post.refl {c : Cn} {p : Bool} {F Z H : Hp} {σ : L2.St} {τ : T} {A : Nat → List Addr} (s : Sta c F Z H σ τ A) : Post c p F Z H σ τ A τ H Z A := ⟨Same.refl _, s, fun _ => ⟨Same.refl _, rfl, rfl⟩⟩
theorem Post.trans {c : Cn} {p q : Bool} {F Z H : Hp} {σ : L2.St} {τ : T} {A : Nat → List Addr} {τ1 : T} {H1 Z1 : Hp} {A1 : Nat → List Addr} {τ2 : T} {H2 Z2 : Hp} {A2 : Nat → List Addr}
    (a : Post c p F Z H σ τ A τ1 H1 Z1 A1) (b : Post c q F Z1 H1 σ τ1 A1 τ2 H2 Z2 A2) (h : p = true → q = true) : Post c p F Z H σ τ A τ2 H2 Z2 A2 :=
  ⟨a.zz.trans b.zz, b.st, fun hp => by
    obtain ⟨x1, x2, x3⟩ := a.pu hp
    obtain ⟨y1, y2, y3⟩ := b.pu (h hp)
    exact ⟨x1.trans y1, y2.trans x2, y3.trans x3⟩⟩

/-! ### states that grow -/
section
variable {c : Cn} {F Z H : Hp} {σ : L2.St} {τ : T} {A : Nat → List Addr}
theorem Sta.grow (s : Sta c F Z H σ τ A) {H' : Hp} (h : Same H H') (ht : TupsIn Z H') : Sta c F Z H' σ τ A := by
  have live : ∀ i a, a ∈ A i → H' a = H a := fun i a ha => by
    cases e : H a with
    | none => exact absurd e (s.fr i a ha).2.2
    | some o => exact h _ _ e
  refine ⟨s.fh.trans h, s.zh.trans h, s.fz, s.len, fun i m e => ?_, s.nd, s.dj, fun i a ha => ?_, ht, s.xx⟩
  · obtain ⟨v, e1, q⟩ := s.own i m e
    exact ⟨v, e1, OR.keep (Same.refl _) m v (A i) (fun a ha => live i a ha) q⟩
  · obtain ⟨h1, h2, h3⟩ := s.fr i a ha
    exact ⟨h1, h2, by rw [live i a ha]; exact h3⟩
theorem Sta.zgrow (s : Sta c F Z H σ τ A) {Z' : Hp} (hz : Same Z Z') (hh : Same Z' H) (hf : ∀ a o, Z' a = some o → F a = none) (ha : ∀ i a, a ∈ A i → Z' a = none) : Sta c F Z' H σ τ A := by
  refine ⟨s.fh, hh, hf, s.len, fun i m e => ?_, s.nd, s.dj, fun i a h => ?_, s.tz.mono hz, s.xm hz⟩
  · obtain ⟨v, e1, q⟩ := s.own i m e
    exact ⟨v, e1, OR.keep hz m v (A i) (fun _ _ => rfl) q⟩
  · obtain ⟨h1, h2, h3⟩ := s.fr i a h
    exact ⟨h1, ha i a h, h3⟩
theorem Post.grow (s : Sta c F Z H σ τ A) {H' Z' : Hp} {p : Bool} (h : Same H H') (hz : Same Z Z') (hh : Same Z' H') (hf : ∀ a o, Z' a = some o → F a = none) (ha : ∀ i a, a ∈ A i → Z' a = none) (ht : TupsIn Z' H') : Post c p F Z H σ τ A τ H' Z' A := by
  have live : ∀ i a, a ∈ A i → H' a = H a := fun i a q => by
    cases e : H a with
    | none => exact absurd e (s.fr i a q).2.2
    | some o => exact h _ _ e
  refine ⟨hz, ⟨s.fh.trans h, hh, hf, s.len, fun i m e => ?_, s.nd, s.dj, fun i a q => ?_, ht, s.xm hz⟩, fun _ => ⟨h, rfl, rfl⟩⟩
  · obtain ⟨v, e1, q⟩ := s.own i m e
    exact ⟨v, e1, OR.keep hz m v (A i) (fun a q => live i a q) q⟩
  · obtain ⟨h1, h2, h3⟩ := s.fr i a q
    exact ⟨h1, ha i a q, by rw [live i a q]; exact h3⟩
/-- a new object laid -/
theorem Same.upd {H : Hp} {a : Addr} {o : HO} (h : H a = none) : Same H (L2.upd H a o) := fun b u e => by rw [upd_ne (ne_of_none e h)]; exact e
/-- the frozen part with more -/
noncomputable def fzw (Z H : Hp) (B : List Addr) : Hp := fun a => if a ∈ B then H a else Z a
theorem fzw_in {Z H : Hp} {B : List Addr} {a : Addr} (h : a ∈ B) : fzw Z H B a = H a := if_pos h
theorem fzw_out {Z H : Hp} {B : List Addr} {a : Addr} (h : a ∉ B) : fzw Z H B a = Z a := if_neg h
theorem fzw_z {Z H : Hp} {B : List Addr} (h : ∀ a ∈ B, Z a = none) : Same Z (fzw Z H B) := fun a o e => by
  rw [fzw_out (fun z => by rw [h a z] at e; cases e)]; exact e
theorem fzw_h {Z H : Hp} {B : List Addr} (h : Same Z H) : Same (fzw Z H B) H := fun a o e => by
  by_cases z : a ∈ B
  · rw [fzw_in z] at e; exact e
  · rw [fzw_out z] at e; exact h _ _ e
/-- a new thing of one's own is frozen -/
theorem freeze_new (s : Sta c F Z H σ τ A) {m : M} {x : V} {B : List Addr} (r : Res c F Z H σ τ A (.m m) x B) : Same Z (fzw Z H B) ∧ Sta c F (fzw Z H B) H σ τ A ∧ Rep c (fzw Z H B) (frz m) x := by
  have hz : Same Z (fzw Z H B) := fzw_z fun a ha => (r.fr a ha).2.1
  refine ⟨hz, s.zgrow hz (fzw_h s.zh) (fun a o e => ?_) (fun i a ha => ?_), OR.frz hz m x B (fun a ha => fzw_in ha) r.rr⟩
  · by_cases z : a ∈ B
    · exact (r.fr a z).1
    · rw [fzw_out z] at e; exact s.fz a o e
  · rw [fzw_out (r.dj i a ha)]
    exact (s.fr i a ha).2.1
/-- operands: values, places -/
noncomputable def OpW (c : Cn) (Z H : Hp) (σ : L2.St) : R → V → Prop
  | .d d, x => Rep c Z d x
  | .m _, _ => False
  | .pl i none, x => σ[i]? = some (some x)
  | .pl i (some f), x => ∃ a C dx gs s, σ[i]? = some (some (.ref a)) ∧ H a = some (.ins C dx gs) ∧ c.attrs[f]? = some s ∧ gs.lookup s = some x
theorem setl_ok (s : Sta c F Z H σ τ A) {r : R} {x : V} {B : List Addr} (q : Res c F Z H σ τ A r x B) {p : Bool} : ∃ Z', Post c p F Z H σ τ A τ H Z' A ∧ OpW c Z' H σ (setl r) x := by
  cases r with
  | d d => exact ⟨Z, Post.refl s, q.rr.2⟩
  | m m =>
    obtain ⟨h1, h2, h3⟩ := freeze_new s q
    exact ⟨_, ⟨h1, h2, fun _ => ⟨Same.refl _, rfl, rfl⟩⟩, h3⟩
  | pl i f =>
    cases f with
    | none => exact ⟨Z, Post.refl s, q.rr.2.1⟩
    | some f => exact ⟨Z, Post.refl s, q.rr.2.2⟩
theorem OpW.keep {o : R} {x : V} {τ' : T} {H' Z' : Hp} {A' : Nat → List Addr} {p : Bool} (q : OpW c Z H σ o x) (h : Post c p F Z H σ τ A τ' H' Z' A') (hp : o.isF = true → p = true) : OpW c Z' H' σ o x := by
  cases o with
  | d d => exact Rep.mono h.zz d x q
  | m m => exact q
  | pl i f =>
    cases f with
    | none => exact q
    | some f =>
      obtain ⟨a, C, dx, gs, s, h1, h2, h3, h4⟩ := q
      exact ⟨a, C, dx, gs, s, h1, (h.pu (hp rfl)).1 _ _ h2, h3, h4⟩
/-- a look at a value -/
noncomputable def Vw (c : Cn) (Z H : Hp) : D → V → Prop
  | .lst ds, x => ∃ a vs, x = .ref a ∧ H a = some (.lst vs) ∧ RepL c Z ds vs
  | .dK ks ds, x => ∃ a kvs vs, x = .ref a ∧ H a = some (.dK kvs) ∧ ks = kvs.map (·.1) ∧ vs = kvs.map (·.2) ∧ RepL c Z ds vs
  | .dT ks ds, x => ∃ a kvs vs, x = .ref a ∧ H a = some (.dT kvs) ∧ ks = kvs.map (·.1) ∧ vs = kvs.map (·.2) ∧ RepL c Z ds vs
  | d, x => Rep c Z d x
theorem Vw.of {d : D} {x : V} (h : Same Z H) (q : Rep c Z d x) : Vw c Z H d x := by
  cases d <;> first
    | exact q
    | (obtain ⟨a, vs, e, s, r⟩ := q; exact ⟨a, vs, e, h _ _ s, r⟩)
    | (obtain ⟨a, kvs, vs, e, s, r⟩ := q; exact ⟨a, kvs, vs, e, h _ _ s, r⟩)
theorem attr_inj {f g : Nat} {s : Str} (h : c.attrs[f]? = some s) (h' : c.attrs[g]? = some s) : f = g := nodup_ix c.nd h h'
/-- a field of a thing: what it holds, and what remains -/
theorem ORF.at {f : Nat} {m : M} : ∀ {fs : List (Nat × M)} {gs : List (Str × V)} {B : List Addr}, ORF c Z H fs gs B → getA f fs = some m → ∃ s x B1 B2, c.attrs[f]? = some s ∧ gs.lookup s = some x ∧ OR c Z H m x B1 ∧ B.Perm (B1 ++ B2) ∧
    ∀ (Z' H' : Hp) (m' : M) (x' : V) (B' : List Addr), Same Z Z' → (∀ a ∈ B2, H' a = H a) → OR c Z' H' m' x' B' → ∃ B3, ORF c Z' H' (putA f m' fs) (putF s x' gs) B3 ∧ B3.Perm (B' ++ B2)
  | [], gs, B, _, h => by simp [getA] at h
  | (g, n) :: fs, gs, B, q, h => by
    obtain ⟨s, v, r, B1, B2, rfl, rfl, hs, q1, q2⟩ := q
    by_cases e : g = f
    · subst e
      have h' : n = m := by simpa [getA] using h
      subst h'
      refine ⟨s, v, B1, B2, hs, by simp [List.lookup], q1, List.Perm.refl _, fun Z' H' m' x' B' hz hk o => ⟨B' ++ B2, ?_, List.Perm.refl _⟩⟩
      have e1 : putA g m' ((g, n) :: fs) = (g, m') :: fs := by simp [putA]
      have e2 : putF s x' ((s, v) :: r) = (s, x') :: r := by simp [putF]
      rw [e1, e2]
      exact ⟨s, x', r, B', B2, rfl, rfl, hs, o, ORF.keep hz fs r B2 hk q2⟩
    · have h' : getA f fs = some m := by simpa [getA, e] using h
      obtain ⟨s', x, C1, C2, hs', hl, o, hp, put⟩ := ORF.at q2 h'
      have ns : s' ≠ s := fun z => e (attr_inj hs (z ▸ hs'))
      refine ⟨s', x, C1, B1 ++ C2, hs', ?_, o, ?_, fun Z' H' m' x' B' hz hk o' => ?_⟩
      · have : (s' == s) = false := by simpa using ns
        simp [List.lookup, this, hl]
      · have p1 : (B1 ++ B2).Perm (B1 ++ (C1 ++ C2)) := List.Perm.append_left B1 hp
        refine p1.trans ?_
        rw [← List.append_assoc, ← List.append_assoc]
        exact List.Perm.append_right C2 List.perm_append_comm
      · obtain ⟨B3, o3, p3⟩ := put Z' H' m' x' B' hz (fun a ha => hk a (List.mem_append_right _ ha)) o'
        refine ⟨B1 ++ B3, ?_, ?_⟩
        · have e1 : putA f m' ((g, n) :: fs) = (g, n) :: putA f m' fs := by simp [putA, e]
          have e2 : putF s' x' ((s, v) :: r) = (s, v) :: putF s' x' r := by
            show (if s = s' then _ else _) = _
            rw [if_neg (fun z => ns z.symm)]
          rw [e1, e2]
          exact ⟨s, v, _, B1, B3, rfl, rfl, hs, OR.keep hz n v B1 (fun a ha => hk a (List.mem_append_left _ ha)) q1, o3⟩
        · have p1 : (B1 ++ B3).Perm (B1 ++ (B' ++ C2)) := List.Perm.append_left B1 p3
          refine p1.trans ?_
          rw [← List.append_assoc, ← List.append_assoc]
          exact List.Perm.append_right C2 List.perm_append_comm
theorem putF_same {s : Str} {x : V} : ∀ {gs : List (Str × V)}, gs.lookup s = some x → putF s x gs = gs
  | [], h => by simp at h
  | (g, v) :: gs, h => by
    show (if g = s then _ else _) = _
    by_cases e : g = s
    · rw [if_pos e]
      subst e
      have : v = x := by simpa [List.lookup] using h
      rw [this]
    · rw [if_neg e]
      have e' : (s == g) = false := by simpa using fun z => e z.symm
      have h' : gs.lookup s = some x := by simpa [List.lookup, e'] using h
      rw [putF_same h']
theorem slotM_some {i : Nat} {m : M} (h : slotM τ i = some m) : τ[i]? = some (some m) := by
  unfold slotM at h
  split at h
  · rename_i m' e
    rw [e]
    rw [Option.some.inj h]
  · cases h
theorem getP_field {i f : Nat} {m : M} (h : getP τ i (some f) = some m) : ∃ k fs, slotM τ i = some (.ins k fs) ∧ getA f fs = some m := by
  unfold getP at h
  simp only at h
  split at h
  · rename_i k fs e
    exact ⟨k, fs, e, h⟩
  · cases h
theorem look_ok (s : Sta c F Z H σ τ A) {o : R} {x : V} {d : D} (q : OpW c Z H σ o x) (h : look τ o = some d) : Vw c Z H d x := by
  have vm : ∀ {m : M} {B : List Addr}, OR c Z H m x B → viewM m = some d → Vw c Z H d x := fun {m B} o e => by
    cases m with
    | v d' => cases e; exact Vw.of s.zh o.2
    | lst ds =>
      cases e
      obtain ⟨a, vs, e1, _, e3, r⟩ := o
      exact ⟨a, vs, e1, e3, r⟩
    | dK ks ds =>
      cases e
      obtain ⟨a, kvs, vs, e1, _, e3, r⟩ := o
      exact ⟨a, kvs, vs, e1, e3, r⟩
    | dT ks ds =>
      cases e
      obtain ⟨a, kvs, vs, e1, _, e3, r⟩ := o
      exact ⟨a, kvs, vs, e1, e3, r⟩
    | ins k fs => cases e
  cases o with
  | d d' => cases h; exact Vw.of s.zh q
  | m m => exact q.elim
  | pl i f =>
    unfold look at h
    simp only at h
    split at h
    · rename_i m e
      cases f with
      | none =>
        obtain ⟨v, e1, o⟩ := s.own i m (slotM_some e)
        have q' : σ[i]? = some (some x) := q
        rw [q'] at e1
        cases e1
        exact vm o h
      | some f =>
        obtain ⟨k, fs, e1, e2⟩ := getP_field e
        obtain ⟨v, e3, o⟩ := s.own i _ (slotM_some e1)
        obtain ⟨a, C, dx, gs, B, ea, eA, hc, hH, oF, ok⟩ := o
        obtain ⟨a', C', dx', gs', s', q1, q2, q3, q4⟩ := q
        rw [e3] at q1
        cases q1
        cases ea
        rw [hH] at q2
        cases q2
        obtain ⟨s2, x2, B1, B2, z1, z2, z3, _⟩ := oF.at e2
        rw [q3] at z1
        cases z1
        rw [q4] at z2
        cases z2
        exact vm z3 h
    · cases h
/-- the slots' things, one replaced -/
noncomputable def put1 (A : Nat → List Addr) (i : Nat) (B : List Addr) : Nat → List Addr := fun j => if j = i then B else A j
theorem put1_same {i : Nat} {B : List Addr} : put1 A i B i = B := if_pos rfl
theorem put1_ne {i j : Nat} {B : List Addr} (h : j ≠ i) : put1 A i B j = A j := if_neg h
theorem Sta.put (s : Sta c F Z H σ τ A) {i : Nat} {m' : M} {v : V} {B' : List Addr} {Z' H' : Hp} {σ' : L2.St} (hi : σ'[i]? = some (some v)) (hσ : ∀ j, j ≠ i → σ'[j]? = σ[j]?) (hl : σ'.length = σ.length) (hz : Same Z Z') (hzh : Same Z' H') (hfh : Same F H')
    (hfz : ∀ a o, Z' a = some o → F a = none) (htz : TupsIn Z' H') (ho : OR c Z' H' m' v B') (nd : B'.Nodup) (hk : ∀ j a, j ≠ i → a ∈ A j → H' a = H a ∧ Z' a = none ∧ a ∉ B') (hB : ∀ a ∈ B', F a = none ∧ Z' a = none) :
    Sta c F Z' H' σ' (τ.set i (some m')) (put1 A i B') := by
  have li : i < τ.length := by rw [s.len, ← hl]; exact (List.getElem?_eq_some_iff.mp hi).1
  refine ⟨hfh, hzh, hfz, by rw [List.length_set, hl]; exact s.len, fun j m e => ?_, fun j => ?_, fun j k a h1 h2 => ?_, fun j a h => ?_, htz, s.xm hz⟩
  · by_cases z : j = i
    · subst z
      rw [List.getElem?_set_self li] at e
      cases e
      exact ⟨v, hi, by rw [put1_same]; exact ho⟩
    · rw [List.getElem?_set_ne (Ne.symm z)] at e
      obtain ⟨w, e1, q⟩ := s.own j m e
      exact ⟨w, by rw [hσ j z]; exact e1, by rw [put1_ne z]; exact OR.keep hz m w (A j) (fun a ha => (hk j a z ha).1) q⟩
  · by_cases z : j = i
    · subst z; rw [put1_same]; exact nd
    · rw [put1_ne z]; exact s.nd j
  · by_cases z : j = i
    · subst z
      rw [put1_same] at h1
      by_cases z' : k = j
      · exact z'.symm
      · rw [put1_ne z'] at h2
        exact absurd h1 (hk k a z' h2).2.2
    · rw [put1_ne z] at h1
      by_cases z' : k = i
      · subst z'
        rw [put1_same] at h2
        exact absurd h2 (hk j a z h1).2.2
      · rw [put1_ne z'] at h2
        exact s.dj j k a h1 h2
  · by_cases z : j = i
    · subst z
      rw [put1_same] at h
      exact ⟨(hB a h).1, (hB a h).2, OR.live m' v B' ho a h⟩
    · rw [put1_ne z] at h
      obtain ⟨h1, _, h3⟩ := s.fr j a h
      obtain ⟨k1, k2, _⟩ := hk j a z h
      exact ⟨h1, k2, by rw [k1]; exact h3⟩
/-- a slot is emptied -/
theorem Sta.drop (s : Sta c F Z H σ τ A) (i : Nat) : Sta c F Z H σ (τ.set i none) (put1 A i []) := by
  refine ⟨s.fh, s.zh, s.fz, by rw [List.length_set]; exact s.len, fun j m e => ?_, fun j => ?_, fun j k a h1 h2 => ?_, fun j a h => ?_, s.tz, s.xx⟩
  · by_cases z : j = i
    · subst z
      by_cases l : j < τ.length
      · rw [List.getElem?_set_self l] at e; cases e
      · rw [List.getElem?_eq_none (by rw [List.length_set]; omega)] at e; cases e
    · rw [List.getElem?_set_ne (Ne.symm z)] at e
      obtain ⟨w, e1, q⟩ := s.own j m e
      exact ⟨w, e1, by rw [put1_ne z]; exact q⟩
  · by_cases z : j = i
    · subst z; rw [put1_same]; exact List.nodup_nil
    · rw [put1_ne z]; exact s.nd j
  · have z : j ≠ i := fun z => by subst z; rw [put1_same] at h1; cases h1
    have z' : k ≠ i := fun z => by subst z; rw [put1_same] at h2; cases h2
    rw [put1_ne z] at h1
    rw [put1_ne z'] at h2
    exact s.dj j k a h1 h2
  · have z : j ≠ i := fun z => by subst z; rw [put1_same] at h; cases h
    rw [put1_ne z] at h
    exact s.fr j a h
/-- what stands at a place -/
theorem place_at (s : Sta c F Z H σ τ A) {i : Nat} {f : Option Nat} {m : M} {x : V} (q : OpW c Z H σ (.pl i f) x) (h : getP τ i f = some m) : ∃ B, (∀ a ∈ B, a ∈ A i) ∧ B.Nodup ∧ OR c Z H m x B ∧
    ∀ (Z' H' : Hp) (m' : M) (B' : List Addr), Same Z Z' → Same Z' H' → Same F H' → (∀ a o, Z' a = some o → F a = none) → TupsIn Z' H' → (∀ j a, a ∈ A j → a ∉ B → H' a = H a ∧ Z' a = none ∧ a ∉ B') → OR c Z' H' m' x B' → B'.Nodup → (∀ a ∈ B', F a = none ∧ Z' a = none) →
      ∃ A', Sta c F Z' H' σ (setP τ i m' f) A' := by
  cases f with
  | none =>
    have e := slotM_some (show slotM τ i = some m from h)
    obtain ⟨v, e1, o⟩ := s.own i m e
    have q' : σ[i]? = some (some x) := q
    rw [q'] at e1
    cases e1
    refine ⟨A i, fun _ ha => ha, s.nd i, o, fun Z' H' m' B' hz hzh hfh hfz htz hk o' nd hB => ⟨_, s.put q' (fun _ _ => rfl) rfl hz hzh hfh hfz htz o' nd (fun j a hj ha => ?_) hB⟩⟩
    exact hk j a ha fun z => hj (s.dj j i a ha z)
  | some f =>
    obtain ⟨k, fs, e1, e2⟩ := getP_field h
    obtain ⟨v, e3, o⟩ := s.own i _ (slotM_some e1)
    obtain ⟨a, C, dx, gs, B, ea, eA, hc, hH, oF, ok⟩ := o
    obtain ⟨a', C', dx', gs', s', q1, q2, q3, q4⟩ := q
    rw [e3] at q1
    cases q1
    cases ea
    rw [hH] at q2
    cases q2
    obtain ⟨s2, x2, B1, B2, z1, z2, z3, pm, put⟩ := oF.at e2
    rw [q3] at z1
    cases z1
    rw [q4] at z2
    cases z2
    have nA : (a :: B).Nodup := by rw [← eA]; exact s.nd i
    have nB : (B1 ++ B2).Nodup := pm.nodup_iff.mp (List.nodup_cons.mp nA).2
    have sub : ∀ b, b ∈ B1 ++ B2 → b ∈ B := fun b hb => pm.mem_iff.mpr hb
    refine ⟨B1, fun b hb => by rw [eA]; exact List.mem_cons_of_mem _ (sub b (List.mem_append_left _ hb)), (List.nodup_append.mp nB).1, z3, fun Z' H' m' B' hz hzh hfh hfz htz hk o' nd hB => ?_⟩
    have n2 : ∀ b ∈ B2, b ∈ A i ∧ b ∉ B1 := fun b hb => ⟨by rw [eA]; exact List.mem_cons_of_mem _ (sub b (List.mem_append_right _ hb)), fun z => (List.nodup_append.mp nB).2.2 b z b hb rfl⟩
    have na : a ∈ A i ∧ a ∉ B1 := ⟨by rw [eA]; simp, fun z => (List.nodup_cons.mp nA).1 (sub a (List.mem_append_left _ z))⟩
    obtain ⟨B3, o3, p3⟩ := put Z' H' m' x B' hz (fun b hb => (hk i b (n2 b hb).1 (n2 b hb).2).1) o'
    rw [putF_same q4] at o3
    have eS : setP τ i m' (some f) = τ.set i (some (.ins k (putA f m' fs))) := by
      unfold setP
      simp only
      rw [e1]
    rw [eS]
    have m3 : ∀ b, b ∈ B3 → b ∈ B' ∨ b ∈ B2 := fun b hb => List.mem_append.mp (p3.mem_iff.mp hb)
    refine ⟨_, s.put (B' := a :: B3) e3 (fun _ _ => rfl) rfl hz hzh hfh hfz htz ⟨a, C, dx, gs, B3, rfl, rfl, hc, by rw [(hk i a na.1 na.2).1]; exact hH, o3, fun p hp => by
      rcases putA_keys f m' fs p hp with z | ⟨p', h1, h2⟩
      · rw [z]; exact ok _ (getA_mem e2)
      · rw [← h2]; exact ok p' h1⟩ ?_ (fun j b hj hb => ?_) fun b hb => ?_⟩
    · refine List.nodup_cons.mpr ⟨fun z => ?_, p3.nodup_iff.mpr (List.nodup_append.mpr ⟨nd, (List.nodup_append.mp nB).2.1, fun b h1 d h2 e => ?_⟩)⟩
      · rcases m3 a z with z | z
        · exact (hk i a na.1 na.2).2.2 z
        · exact (List.nodup_cons.mp nA).1 (sub a (List.mem_append_right _ z))
      · subst e
        exact (hk i b (n2 b h2).1 (n2 b h2).2).2.2 h1
    · have hbi : b ∉ A i := fun z => hj (s.dj j i b hb z)
      have hb1 : b ∉ B1 := fun z => hbi (by rw [eA]; exact List.mem_cons_of_mem _ (sub b (List.mem_append_left _ z)))
      obtain ⟨k1, k2, k3⟩ := hk j b hb hb1
      refine ⟨k1, k2, fun z => ?_⟩
      rcases List.mem_cons.mp z with z | z
      · subst z; exact hbi na.1
      · rcases m3 b z with z | z
        · exact k3 z
        · exact hbi (n2 b z).1
    · rcases List.mem_cons.mp hb with z | z
      · subst z
        exact ⟨(s.fr i b na.1).1, (hk i b na.1 na.2).2.1⟩
      · rcases m3 b z with z | z
        · exact hB b z
        · exact ⟨(s.fr i b (n2 b z).1).1, (hk i b (n2 b z).1 (n2 b z).2).2.1⟩
theorem esc_op (s : Sta c F Z H σ τ A) {p : Bool} {o : R} {x : V} {d : D} {τ' : T} (q : OpW c Z H σ o x) (h : esc p τ o = some (d, τ')) : ∃ Z' A', Post c p F Z H σ τ A τ' H Z' A' ∧ Rep c Z' d x := by
  cases o with
  | d d' =>
    cases h
    exact ⟨Z, A, Post.refl s, q⟩
  | m m => exact q.elim
  | pl i f =>
    unfold esc at h
    simp only at h
    cases p with
    | true => simp at h
    | false =>
      rw [if_neg Bool.false_ne_true] at h
      split at h
      · rename_i m e
        cases h
        obtain ⟨B, hB, nd, o, put⟩ := place_at s q e
        have hz : Same Z (fzw Z H B) := fzw_z fun a ha => (s.fr i a (hB a ha)).2.1
        have r : Rep c (fzw Z H B) (frz m) x := OR.frz hz m x B (fun a ha => fzw_in ha) o
        have hf : ∀ a o, fzw Z H B a = some o → F a = none := fun a o e => by
          by_cases z : a ∈ B
          · exact (s.fr i a (hB a z)).1
          · rw [fzw_out z] at e; exact s.fz a o e
        obtain ⟨A', st⟩ := put (fzw Z H B) H (.v (frz m)) [] hz (fzw_h s.zh) s.fh hf (s.tz.mono hz) (fun j a ha hb => ⟨rfl, by rw [fzw_out hb]; exact (s.fr j a ha).2.1, by simp⟩) ⟨rfl, r⟩ List.nodup_nil (fun a ha => by cases ha)
        exact ⟨_, A', ⟨hz, st, fun z => by cases z⟩, r⟩
      · cases h
theorem esc_ok (s : Sta c F Z H σ τ A) {p : Bool} {r : R} {x : V} {B : List Addr} {d : D} {τ' : T} (q : Res c F Z H σ τ A r x B) (h : esc p τ r = some (d, τ')) : ∃ Z' A', Post c p F Z H σ τ A τ' H Z' A' ∧ Rep c Z' d x := by
  cases r with
  | d d' => exact esc_op s (o := .d d') q.rr.2 h
  | m m =>
    cases h
    obtain ⟨h1, h2, h3⟩ := freeze_new s q
    exact ⟨_, A, ⟨h1, h2, fun _ => ⟨Same.refl _, rfl, rfl⟩⟩, h3⟩
  | pl i f =>
    refine esc_op s (o := .pl i f) ?_ h
    cases f with
    | none => exact q.rr.2.1
    | some f => exact q.rr.2.2
/-- a result laid anew: a value that was there, a new tuple, a new list -/
noncomputable def NewR (c : Cn) (Z H : Hp) (r : R) (z : V) (H' : Hp) : Prop :=
  (∃ d, r = .d d ∧ H' = H ∧ Rep c Z d z) ∨ (∃ a vs ds, r = .d (.tup ds) ∧ z = .ref a ∧ H a = none ∧ H' = L2.upd H a (.tup vs) ∧ RepL c Z ds vs) ∨ ∃ a vs ds, r = .m (.lst ds) ∧ z = .ref a ∧ H a = none ∧ H' = L2.upd H a (.lst vs) ∧ RepL c Z ds vs
theorem NewR.post {p : Bool} (s : Sta c F Z H σ τ A) {r : R} {z : V} {H' : Hp} (n : NewR c Z H r z H') : ∃ Z' B, Post c p F Z H σ τ A τ H' Z' A ∧ Res c F Z' H' σ τ A r z B := by
  rcases n with ⟨d, rfl, rfl, q⟩ | ⟨a, vs, ds, rfl, rfl, na, rfl, q⟩ | ⟨a, vs, ds, rfl, rfl, na, rfl, q⟩
  · exact ⟨Z, [], Post.refl s, ⟨⟨rfl, q⟩, List.nodup_nil, fun _ _ _ h => (by cases h), fun a h => by cases h⟩⟩
  · have nz : Z a = none := s.zh.free na
    have nf : F a = none := s.fh.free na
    refine ⟨L2.upd Z a (.tup vs), [], Post.grow s (Same.upd na) (Same.upd nz) (fun b o e => ?_) (fun b o e => ?_) (fun i b hb => ?_) s.tz.new, ⟨⟨rfl, a, vs, rfl, upd_same, RepL.mono (Same.upd nz) ds vs q⟩, List.nodup_nil, fun _ _ _ h => (by cases h), fun a h => by cases h⟩⟩
    · by_cases z : b = a
      · subst z; rw [upd_same] at e ⊢; exact e
      · rw [upd_ne z] at e ⊢; exact s.zh _ _ e
    · by_cases z : b = a
      · subst z; exact nf
      · rw [upd_ne z] at e; exact s.fz _ _ e
    · have : b ≠ a := fun z => by subst z; exact (s.fr i b hb).2.2 na
      rw [upd_ne this]
      exact (s.fr i b hb).2.1
  · have nz : Z a = none := s.zh.free na
    have nf : F a = none := s.fh.free na
    refine ⟨Z, [a], Post.grow s (Same.upd na) (Same.refl _) (s.zh.trans (Same.upd na)) s.fz (fun i b hb => (s.fr i b hb).2.1) (s.tz.upd fun _ z => nomatch z), ⟨⟨a, vs, rfl, rfl, upd_same, q⟩, by simp, fun i b hb h => ?_, fun b h => ?_⟩⟩
    · have e : b = a := by simpa using h
      subst e; exact (s.fr i b hb).2.2 na
    · have e : b = a := by simpa using h
      subst e; exact ⟨nf, nz, by rw [upd_same]; intro z; cases z⟩
end
end Ev

/-! Ev, part Sd: sorting where some tuples are empty; sorted of a set. -/
namespace Ev
open PySem PySem.W PySem.SeqAt PyProof.Rows
section
variable {prog : Program} {w : World} {A : Around} {E : Value → Shared → Prop} {s : Shared}
/-- tuple's own __lt__, as sorting calls it -/
theorem call_tup_lt {Q : Value → Shared → Prop} {l b : Addr} {xs ys : Array Value} {e r : Nat → Bool} (hl : s.heap.IsTuple l xs) (hb : s.heap.IsTuple b ys) (he : ∀ j (h1 : j < xs.size) (h2 : j < ys.size), EqAt A.in1 s xs[j] ys[j] (e j))
    (hr : ∀ j (h1 : j < xs.size) (h2 : j < ys.size), e j = false → RcLt A.in1 s xs[j] ys[j] (r j)) (h : Q (.bool (firstLt e r (decide (xs.size < ys.size)) (List.range (min xs.size ys.size)))) s) :
    wpAny (model prog w) A (call (.builtin "tuple.__lt__") [.ref l, .ref b]) Q E s := by
  obtain ⟨⟨c1, d1, a1, l1⟩, ho, hc, n, hd⟩ := id hl
  obtain ⟨⟨c2, d2, a2, l2⟩, ho2, hc2, n2, hd2⟩ := id hb
  simp only at hc hd hc2 hd2
  subst hc hd hc2 hd2
  exact call_meets F.slot_tuple_lt ⟨_, ho, rfl⟩ F.entry_tuple_lt (F.args_tuple_lt_2 _ _) (tuple_ltAt l b xs ys n n2 d1 d2 l1 l2 e r) ⟨ho, ho2, he, hr, h⟩
theorem one_tup {xs ys : List PyData} {a b : Value} {as bs : List Addr} {Q : Bool → Shared → Prop} (ra : Reads s.heap a (.tuple xs) as) (rb : Reads s.heap b (.tuple ys) bs) (h : alike (.tuple xs) (.tuple ys) = true)
    (hu : A.units + min (PyData.tuple xs).depth (PyData.tuple ys).depth < cLine) (hq : Q (dataLt (.tuple xs) (.tuple ys)) s) : wpAny (model prog w) A (oneLt' true a b) Q E s := by
  have hal : alikeAll xs ys = true := by simpa [alike] using h
  cases ra with
  | @tuple l o vs n _ as₁ h1 h2 h3 h4 =>
    cases rb with
    | @tuple l' o' vs' n' _ bs₁ k1 k2 k3 k4 =>
      have n1 : vs.size = xs.length := by simpa using ReadsAll.length _ _ _ h4
      have n2 : vs'.size = ys.length := by simpa using ReadsAll.length _ _ _ k4
      rw [dataLt_tuple, ← firstLt_toks xs ys hal, ← n1, ← n2] at hq
      rw [oneLt'_eq]
      simp only [if_true]
      refine wpAny_bind (wpAny_cRoomFor (room_here hu) ?_)
      refine wpAny_bind (wpAny_callSpecialIfBound?_slot (T := "tuple") ⟨_, h1, h2⟩ F.slot_tuple_lt (call_tup_lt (e := pairEq xs ys) (r := fun j => dataLt (xs.getD j .none) (ys.getD j .none)) ⟨_, h1, h2, _, h3⟩ ⟨_, k1, k2, _, k3⟩ (fun j j1 j2 => ?_) (fun j j1 j2 hj => ?_) ?_))
      · have := eqAt_alikeAll xs ys A.in1 s vs.toList vs'.toList _ _ h4 k4 hal (room_in hu) j (by simpa using j1) (by simpa using j2)
        simpa using this
      · have := rcLt_alikeAll xs ys A.in1 s vs.toList vs'.toList _ _ h4 k4 hal (room_in hu) j (by simpa using j1) (by simpa using j2) hj
        simpa using this
      · exact wpAny_truthy_bool hq
/-- the first items of tuples, where there are any -/
theorem firsts_at : ∀ {vs : List Value} {ds : List PyData} {Q : List (Option Value) → Shared → Prop}, EachIs (fun v d => ∃ as, Reads s.heap v d as) vs ds → (∀ d ∈ ds, ∃ xs, d = PyData.tuple xs) →
    (∀ fs : List (Option Value), fs.length = vs.length → (∀ i : Nat, (∃ f : Value, fs[i]? = some (some f)) → ∃ x r, ds[i]? = some (PyData.tuple (x :: r))) → (∀ i : Nat, fs[i]? = some none → ds[i]? = some (PyData.tuple [])) → Q fs s) → wpAny (model prog w) A (vs.mapM firstOfTuple') Q E s
  | [], _, Q, .nil, _, h => by
    rw [List.mapM_nil]
    exact wpAny_pure (h [] rfl (fun i ⟨f, e⟩ => by simp at e) fun i e => by simp at e)
  | v :: vs, d :: ds, Q, .cons ⟨as, r⟩ t, ht, h => by
    obtain ⟨xs, rfl⟩ := ht d (List.mem_cons_self ..)
    cases r with
    | @tuple a o its n _ _ h1 h2 h3 h4 =>
      rw [List.mapM_cons]
      refine wpAny_bind ?_
      rw [kas_first_eq]
      refine wpAny_bind (Looks.here (show Looks _ s.heap (typeOf (.ref a)) o.cls from (Looks.ld h1).andThen .now) ?_)
      rw [h2, if_neg (by first | decide | simp)]
      refine wpAny_bind (listItems_at h1 h3 (wpAny_pure ?_))
      refine wpAny_bind (firsts_at t (fun d hd => ht d (List.mem_cons_of_mem _ hd)) fun fs l1 l2 l3 => wpAny_pure (h _ (by simp [l1]) (fun i => ?_) fun i => ?_))
      · cases i with
        | zero =>
          rintro ⟨f, e⟩
          cases xs with
          | nil =>
            have : its.toList = [] := by cases q : its.toList with | nil => rfl | cons _ _ => rw [q] at h4; cases h4
            have : its[0]? = none := by rw [← Array.getElem?_toList, this]; rfl
            simp [this] at e
          | cons x r => exact ⟨x, r, rfl⟩
        | succ i => simpa using l2 i
      · cases i with
        | zero =>
          intro e
          cases xs with
          | nil => rfl
          | cons x r =>
            cases q : its.toList with
            | nil => rw [q] at h4; cases h4
            | cons f fr =>
              have : its[0]? = some f := by rw [← Array.getElem?_toList, q]; rfl
              simp [this] at e
        | succ i => simpa using l3 i
theorem SortsAt.tups {vs : List Value} {ds : List PyData} (e : EachIs (fun v d => ∃ as, Reads s.heap v d as) vs ds) (hal : AllAlike ds) (ht : ∀ d ∈ ds, ∃ xs, d = .tuple xs) (hu : ∀ d, d ∈ ds → A.units + d.depth < cLine) : SortsAt prog w A s (dataKind s.heap ds) vs := by
  by_cases hall : ∀ d ∈ ds, ∃ x r, d = .tuple (x :: r)
  · exact SortsAt.data e hal (.inl hall) hu
  · have hempty : PyData.tuple [] ∈ ds := Classical.not_not.mp fun z => hall fun d hd => by
      obtain ⟨xs, rfl⟩ := ht d hd
      cases xs with
      | nil => exact absurd hd z
      | cons x r => exact ⟨x, r, rfl⟩
    have room : ∀ {d d' : PyData}, d ∈ ds → A.units + min d.depth d'.depth < cLine := fun {d d'} hd => Nat.lt_of_le_of_lt (Nat.add_le_add_left (Nat.min_le_left _ _) _) (hu d hd)
    have lt1 : PyProof.Rows.H.LtAt prog w A s (dataKind s.heap ds) oneType' := by
      intro E x y a b Q ha hb hq
      obtain ⟨d, as, hd, ra, rfl⟩ := dataKind_inv ha
      obtain ⟨d', as', hd', rb, rfl⟩ := dataKind_inv hb
      obtain ⟨xs, rfl⟩ := ht d hd
      obtain ⟨ys, rfl⟩ := ht d' hd'
      rw [keyLt'_oneType]
      exact one_tup ra rb (hal _ hd _ hd') (room hd) hq
    have lt2 : PyProof.Rows.H.LtAt prog w A s (dataKind s.heap ds) general' := by
      intro E x y a b Q ha hb hq
      obtain ⟨d, as, hd, ra, rfl⟩ := dataKind_inv ha
      obtain ⟨d', as', hd', rb, rfl⟩ := dataKind_inv hb
      show wpAny _ A (oneLt' false x y) Q E s
      exact oneLt_alike (fun z => by cases z) ra rb (hal d hd d' hd') (fun z => by obtain ⟨xs, q⟩ := ht d hd; rw [z] at q; cases q) (room hd) hq
    refine ⟨fun v hv => ?_, ?_⟩
    · obtain ⟨d, hd, as, r⟩ := e.left v hv
      exact ⟨_, dataKind_some hal hd r⟩
    · have look : ∀ v ∈ vs, Looks (model prog w) s.heap (typeOf v) (.type "tuple") := fun v hv => by
        obtain ⟨d, hd, as, r⟩ := e.left v hv
        obtain ⟨xs, rfl⟩ := ht d hd
        exact looks_reads r
      have len := e.length
      obtain ⟨i0, hi0, ei0⟩ := List.getElem_of_mem hempty
      classical
      have kinds : ∀ (kd : SortKind), (kd = if ∃ x r, ds[0]? = some (PyData.tuple (x :: r)) then general' else oneType') → 2 ≤ vs.length → ∀ (E : Value → Shared → Prop) {Q : SortKind → Shared → Prop}, Q kd s → wpAny (model prog w) A (keyKind' vs.toArray) Q E s := by
        intro kd hkd h2 E Q hq
        rw [keyKind'_eq, List.mapM_toArray, map_eq_pure_bind]
        refine wpAny_bind (wpAny_bind (firsts_at e ht fun fs l1 l2 l3 => wpAny_pure ?_))
        have fi : fs[i0]? = some none := by
          have li : i0 < fs.length := by rw [l1, len]; exact hi0
          cases q : fs[i0] with
          | none => rw [List.getElem?_eq_getElem li, q]
          | some f =>
            obtain ⟨x, r, z⟩ := l2 i0 ⟨f, by rw [List.getElem?_eq_getElem li, q]⟩
            rw [List.getElem?_eq_getElem hi0, ei0] at z
            cases z
        have na : ¬ (fs.toArray.all fun x => x.isSome) = true := fun z => by
          rw [List.all_toArray, List.all_eq_true] at z
          have := z none (List.mem_of_getElem? fi)
          cases this
        rw [if_neg na]
        have f0 : fs.toArray[0]? = fs[0]? := by simp
        rw [f0]
        have l0 : 0 < fs.length := by omega
        cases q : fs[0] with
        | some f =>
          have q' : fs[0]? = some (some f) := by rw [List.getElem?_eq_getElem l0, q]
          have : ∃ x r, ds[0]? = some (PyData.tuple (x :: r)) := l2 0 ⟨f, q'⟩
          rw [if_pos this] at hkd
          rw [q', if_pos (by rfl)]
          exact wpAny_pure (hkd ▸ hq)
        | none =>
          have q' : fs[0]? = some none := by rw [List.getElem?_eq_getElem l0, q]
          have : ¬ ∃ x r, ds[0]? = some (PyData.tuple (x :: r)) := fun ⟨x, r, z⟩ => by rw [l3 0 q'] at z; cases z
          rw [if_neg this] at hkd
          rw [q', if_neg (by simp)]
          rw [oneTypeOnly'_eq, List.mapM_toArray, map_eq_pure_bind]
          refine wpAny_bind (wpAny_bind (wpAny_bind (kas_mapM (r := Value.type "tuple") _ (fun v hv Q' hq => (look v hv).here hq) (wpAny_pure ?_))))
          have t0 : (List.map (fun _ => Value.type "tuple") vs).toArray[0]? = some (Value.type "tuple") := by
            cases vs with
            | nil => simp at h2
            | cons _ _ => simp
          have t1 : ((List.map (fun _ => Value.type "tuple") vs).toArray.all fun x => x == Value.type "tuple") = true := by simp
          rw [t0]
          simp only [t1, if_true]
          exact wpAny_pure (wpAny_pure (hkd ▸ hq))
      by_cases z : ∃ x r, ds[0]? = some (PyData.tuple (x :: r))
      · exact ⟨general', lt2, fun h2 E Q hq => kinds general' (by rw [if_pos z]) h2 E hq⟩
      · exact ⟨oneType', lt1, fun h2 E Q hq => kinds oneType' (by rw [if_neg z]) h2 E hq⟩
/-- what sorting takes: all alike, and tuples all, or none None or a tuple -/
noncomputable def Srt (ds : List PyData) : Prop := (∀ d ∈ ds, ∃ xs, d = .tuple xs) ∨ ∀ d ∈ ds, d ≠ .none ∧ ∀ xs, d ≠ .tuple xs
theorem SortsAt.srt {vs : List Value} {ds : List PyData} (e : EachIs (fun v d => ∃ as, Reads s.heap v d as) vs ds) (hal : AllAlike ds) (hk : Srt ds) (hu : ∀ d, d ∈ ds → A.units + d.depth < cLine) : SortsAt prog w A s (dataKind s.heap ds) vs :=
  hk.elim (fun h => SortsAt.tups e hal h hu) fun h => SortsAt.data e hal (.inr h) hu
variable {β : Type} {vs : List Value} {bs : List β} {enc : β → PyData} {R : Value → β → Prop}
/-- sorted of what gives its items in some order -/
theorem sorted_collP {x : Value} {Q : Value → Shared → Prop} (Pm : List β → Prop) (hP : ∀ bs', Pm bs' → bs'.Perm bs) (hL : bs.length ≤ sizeLine)
    (coll : ∀ (Q' : List Value → Shared → Prop), (∀ (s' : Shared) (vs : List Value) (bs' : List β), (∀ b o, s.heap.get? b = some o → s'.heap.get? b = some o) → s.heap.objs.size ≤ s'.heap.objs.size → s'.gens = s.gens → s'.os = s.os → EachIs R vs bs' → Pm bs' → Q' vs s') → wpAny (model prog w) A.in1 (collect x) Q' E s)
    (rd : ∀ (h' : Heap), (∀ b o, s.heap.get? b = some o → h'.get? b = some o) → ∀ v b, b ∈ bs → R v b → ∃ as, Reads h' v (enc b) as) (hal : AllAlike (bs.map enc)) (hk : Srt (bs.map enc))
    (hu : ∀ b ∈ bs, A.units + 2 + (enc b).depth < cLine)
    (h : ∀ (s' : Shared) (p : Addr) (out : List Value) (c : Nat) (bs' : List β), (∀ b o, s.heap.get? b = some o → s'.heap.get? b = some o) → s'.gens = s.gens → s'.os = s.os → s.heap.objs.size ≤ p → s'.heap.get? p = some (seqObj "list" (List.toArray out) c) → Pm bs' → EachIs R out (bs'.mergeSort (dataLe false enc)) → Q (.ref p) s') :
    wpAny (model prog w) A (call (.builtin "sorted") [x]) Q E s := by
  refine Calls.call_function_entry kind_sorted plain_sorted entry_sorted (args_sorted1 _) ?_
  unfold Builtin.«sorted»
  refine wpAny_bind (m := checkCount "sorted" 1 1 _) (wpAny_pure ?_)
  refine wpAny_bind (coll _ fun s1 vs bs' k1 hz g1 o1 e pm0 => ?_)
  have pm := hP bs' pm0
  have hlen : vs.length ≤ sizeLine := by rw [e.length, pm.length_eq]; exact hL
  refine wpAny_bind (wpAny_newList ?_ hlen)
  have hoL : (s1.heap.push (seqObj "list" vs.toArray 0)).get? s1.heap.objs.size = some (seqObj "list" vs.toArray 0) := Heap.get?_push_size _ rfl
  have old : ∀ b o, s.heap.get? b = some o → (sortingHeap (s1.heap.push (seqObj "list" vs.toArray 0)) s1.heap.objs.size vs).get? b = some o := fun b o q => by
    have q1 := k1 b o q
    exact sortingHeap_old (Nat.ne_of_lt (Heap.lt_size q1)) (Heap.get?_push_of_some _ q1)
  have er : EachIs (fun v b => ∃ as, Reads (sortingHeap (s1.heap.push (seqObj "list" vs.toArray 0)) s1.heap.objs.size vs) v (enc b) as) vs bs' := (each_mem e).mono fun v b ⟨r, hb⟩ => rd _ old v b (pm.mem_iff.mp hb) r
  have hal' : AllAlike (bs'.map enc) := fun d hd d' hd' => hal d ((pm.map enc).mem_iff.mp hd) d' ((pm.map enc).mem_iff.mp hd')
  have hk' : Srt (bs'.map enc) := hk.elim (fun q => .inl fun d hd => q d ((pm.map enc).mem_iff.mp hd)) fun q => .inr fun d hd => q d ((pm.map enc).mem_iff.mp hd)
  refine wpAny_bind (wpAny_holding (wpAny_call_entry slot_list_sort ⟨_, hoL, rfl⟩ entry_list_sort ?_ (args_list_sort _)))
  refine list_sort_vals (s := { s1 with heap := s1.heap.push (seqObj "list" vs.toArray 0) }) hoL (SortsAt.srt (A := A.in1.in1) (s := { s1 with heap := sortingHeap (s1.heap.push (seqObj "list" vs.toArray 0)) s1.heap.objs.size vs })
    (each_map (R := fun v d => ∃ as, Reads (sortingHeap (s1.heap.push (seqObj "list" vs.toArray 0)) s1.heap.objs.size vs) v d as) enc er) hal' hk' (bound_map fun b hb => hu b (pm.mem_iff.mp hb))) hlen ⟨_, rfl, ?_⟩
  obtain ⟨c, hc⟩ := sortedHeap_at (vs := vs) (out := (sortVals (dataKind (sortingHeap (s1.heap.push (seqObj "list" vs.toArray 0)) s1.heap.objs.size vs) (bs'.map enc)) false vs vs).toArray) hoL
  refine wpAny_pure ⟨_, rfl, h _ s1.heap.objs.size _ c bs' (fun b o q => ?_) g1 o1 hz hc pm0 (sortVals_data false e er hal')⟩
  have q1 := k1 b o q
  exact (sortedHeap_old (Nat.ne_of_lt (Heap.lt_size q1)) (by rw [size_push']; exact Nat.lt_succ_of_lt (Heap.lt_size q1))).trans (Heap.get?_push_of_some _ q1)
/-- a list's, a tuple's items, collected -/
theorem coll_seq {a : Addr} {T : String} {ob : Obj} {its : List Value} {ep : Nat} {Q : List Value → Shared → Prop} (hT : T = "list" ∨ T = "tuple") (hob : s.heap.get? a = some ob) (hcl : ob.cls = .type T) (hda : ob.data = .seq its.toArray ep) (hz : its.length ≤ sizeLine)
    (k : ∀ h', (∀ b o, s.heap.get? b = some o → h'.get? b = some o) → s.heap.objs.size ≤ h'.objs.size → Q its { s with heap := h' }) : wpAny (model prog w) A (collect (.ref a)) Q E s := by
  have z : its.toArray.size ≤ sizeLine := by rw [List.size_toArray]; exact hz
  have new : (s.heap.push { cls := .type "list", data := .seq ([] : List Value).toArray }).get? s.heap.objs.size = some { cls := .type "list", data := .seq #[] 0 } := Heap.get?_push_size _ rfl
  have full := Heap.get?_update_self (Obj.mapSeq (· ++ its.toArray)) new rfl
  have all : ((#[] : Array Value) ++ its.toArray).toList = its := by simp
  have done : wpAny (model prog w) A (match Value.ref s.heap.objs.size with
      | Value.ref l => do
        match (← load l).data with
          | Data.seq ys _ => pure ys.toList
          | _ => unsupported "internal:collect"
      | _ => unsupported "internal:collect") Q E { s with heap := (s.heap.push { cls := .type "list", data := .seq ([] : List Value).toArray }).update s.heap.objs.size (Obj.mapSeq (· ++ its.toArray)) } := by
    refine wpAny_bind (m := load s.heap.objs.size) (wpAny_load full (wpAny_pure ?_))
    show Q ((#[] : Array Value) ++ its.toArray).toList _
    rw [all]
    refine k _ (fun b o hb => ?_) ?_
    · rw [Heap.get?_update_other _ _ (Nat.ne_of_gt (Heap.lt_size hb))]
      exact Heap.get?_push_of_some _ hb
    · show s.heap.objs.size ≤ ((s.heap.objs.push _).modify _ _).size
      rw [Array.size_modify, Array.size_push]
      omega
  unfold collect
  refine wpAny_bind (wpAny_runValue (codeAny_builtin F.entry_proto_collect ?_))
  rw [Around.under_plainId F.plain_proto_collect _]
  refine wpAny_bind (m := newList []) (wpAny_newObj_type (wpAny_pure ⟨plainId_quiet F.plain_list_iadd _, codeAny_builtin F.entry_list_iadd ?_⟩))
  rw [Around.under_plainId F.plain_list_iadd _]
  refine wpAny_mono (wpAny_extend_seq (hsz := z) (A := A) (R := fun r s' => r = .ok (.ret (.ref s.heap.objs.size)) ∧ s' = { s with heap := (s.heap.push { cls := .type "list", data := .seq ([] : List Value).toArray }).update s.heap.objs.size (Obj.mapSeq (· ++ its.toArray)) })
    (s := { s with heap := s.heap.push { cls := .type "list", data := .seq ([] : List Value).toArray } }) _ a _ 0 hT new (Heap.get?_push_of_some _ hob) hcl hda ⟨rfl, rfl⟩) (fun fin s' q => ?_) fun e s' q => absurd q.1 (by simp)
  cases fin with
  | done f =>
    obtain ⟨r1, rfl⟩ := q
    cases r1
    exact done
  | again cd =>
    refine ⟨q.1, codeAny_mono q.2 fun r s2 hr => ?_⟩
    obtain ⟨rfl, rfl⟩ := hr
    exact done
end
end Ev

/-! Ev, part Sf: list(d) of a dict, of either kind of keys; displays of one pair. -/
namespace Ev
open PySem L2 PySem.W PyProof.Rows
section
variable {prog : Program} {w : World} {A : Around} {E : Value → Shared → Prop} {s : Shared} {d : Addr} {es : Array DictEntry} {ep : Nat}
theorem src_raw (lo : (d == sysModules) = false) : KdlSrc prog w "dict" d d es.size (fun i v => ∃ hi : i < es.size, v = es[i].key) (fun h => h.DictRaw d es ep) where
  type := fun _ q => q.typeIs
  there := fun _ q => by
    obtain ⟨o, ho, _⟩ := q
    exact ⟨Heap.lt_size ho, Heap.lt_size ho⟩
  keep := fun _ _ q k => q.at fun o e => k d (.inl rfl) o e
  notList := by decide
  notTuple := by decide
  hint := fun _ _ _ _ q z => kdl_hint_dict q.typeIs z
  iter := fun _ s hh q => by
    have hlt : d < s.heap.objs.size := by obtain ⟨o, ho, _⟩ := q; exact Heap.lt_size ho
    exact ⟨_, _, fun _ _ z => wpAny_pyIter_dict_raw lo q z, Walks.rawKeys hh _ d (Nat.ne_of_lt hlt) es ep, ⟨⟨_, Heap.get?_push_size _ rfl, rfl, rfl⟩, q.at fun o e => Heap.get?_push_of_some _ e⟩⟩
theorem list_raw {Q : Value → Shared → Prop} (lo : (d == sysModules) = false) (hh : A.handled = none) (q : s.heap.DictRaw d es ep) (hn : es.size ≤ sizeLine)
    (k : ∀ h' tk c' (acc : List Value), (∀ b o, s.heap.get? b = some o → h'.get? b = some o) → h'.get? s.heap.objs.size = some { cls := .type "list", dict := none, data := .seq acc.toArray c', slots := #[] } → acc = es.toList.map (·.key) → Q (.ref s.heap.objs.size) { s with heap := h', toks := tk }) :
    wpAny (model prog w) A (call (.type "list") [.ref d]) Q E s := by
  refine kdl_call (src_raw lo) hh q hn fun h' tk acc c' kp hl it => ?_
  refine k h' tk c' acc.toList kp (by rw [hl]) ?_
  refine List.ext_getElem (by rw [Array.length_toList, List.length_map, Array.length_toList]; exact it.1) fun i h1 h2 => ?_
  obtain ⟨hi, e⟩ := it.2 i acc[i] (by rw [Array.getElem?_eq_getElem])
  rw [Array.getElem_toList, List.getElem_map, Array.getElem_toList]
  exact e
end
section
variable {X : Cx}
theorem vals_of : ∀ {ys : List V} {us : List Value}, ys.length = us.length → (∀ (i : Nat) (y : V) (v : Value), ys[i]? = some y → us[i]? = some v → RelV y v) → Vals ys us
  | [], [], _, _ => .nil
  | [], _ :: _, h, _ => by cases h
  | _ :: _, [], h, _ => by cases h
  | y :: ys, u :: us, h, k => .cons (k 0 y u rfl rfl) (vals_of (by simpa using h) fun i a b h1 h2 => k (i + 1) a b (by simpa using h1) (by simpa using h2))
theorem kV_rel {P : Program} {w : World} {k : L2.Key} {u : Value} (h : (mixKind P w).is k u = true) : RelV (kV k) u := by
  rcases keyIs_shape h with ⟨i, t, rfl, rfl⟩ | ⟨x, t, rfl, rfl⟩
  · exact ⟨t, rfl⟩
  · exact ⟨t, rfl⟩
/-- the keys of a dict, as values of the abstract heap: texts, ints; the tuples that are its keys -/
noncomputable def KeysAre (H : Hp) (a : Addr) (ys : List V) : Prop :=
  (∃ kvs : List (L2.Key × V), H a = some (.dK kvs) ∧ ys = kvs.map fun p => kV p.1) ∨ ∃ (kvs : List (List L2.Key × V)), H a = some (.dT kvs) ∧ Paired (fun (p : List L2.Key × V) y => ∃ b, y = V.ref b ∧ H b = some (.tup (p.1.map kV))) kvs ys
theorem call_list_dict (hc : X.calm = true) : CallR X (.type "list") (fun xs H Q => ∃ a, xs = [.ref a] ∧ ((∃ kvs : List (L2.Key × V), H a = some (.dK kvs)) ∨ ∃ kvs : List (List L2.Key × V), H a = some (.dT kvs)) ∧ ∀ l ys, KeysAre H a ys → H l = none → Q (.ref l) (upd H l (.lst ys))) := by
  intro pins s σ H xs us Q I r h
  obtain ⟨a, rfl, hd, q⟩ := h
  obtain ⟨u, rfl, rx⟩ := vals1 r
  cases rx
  have fin : ∀ {es : Array DictEntry} {ep : Nat} {ys : List V}, (a == sysModules) = false → s.heap.DictRaw a es ep → es.size ≤ sizeLine → Vals ys (es.toList.map (·.key)) → KeysAre H a ys → wpAny (model X.prog X.w) X.A (call (.type "list") [.ref a]) (EP X pins σ Q) X.xe s := by
    intro es ep ys lo raw hz rv ka
    refine list_raw lo (I.ok.hd hc) raw hz fun h' tk c' acc kp e ea => ?_
    subst ea
    exact ⟨.ref s.heap.objs.size, _, I.laid (t' := tk) kp (Nat.le_refl _) (show ObjOk X.prog X.w _ h' _ (.lst ys) from ⟨by rw [rv.length, List.length_map, Array.length_toList]; exact hz, _, c', rv, e⟩), rfl, q _ _ ka (I.hok.fresh (Nat.le_refl _))⟩
  rcases hd with ⟨kvs, e⟩ | ⟨kvs, e⟩
  · obtain ⟨z, lo, vs, rel, dd⟩ := dk_of I.hok e
    obtain ⟨es, ep, raw, hs, hk⟩ := dd.raw
    have hl := rel.length
    refine fin (ys := kvs.map fun p => kV p.1) lo raw (by rw [hs, ← hl]; exact z) ?_ (.inl ⟨kvs, e, rfl⟩)
    have ek := rel.keys
    refine vals_of (by have e0 : es.toList.length = es.size := Array.length_toList; rw [List.length_map, List.length_map, e0, hs, hl]) fun i y v h1 h2 => ?_
    rw [List.getElem?_map] at h1 h2
    obtain ⟨en, h3, rfl⟩ := Option.map_eq_some_iff.mp h2
    obtain ⟨p, h4, rfl⟩ := Option.map_eq_some_iff.mp h1
    rw [Array.getElem?_toList] at h3
    obtain ⟨hi, h5⟩ := Array.getElem?_eq_some_iff.mp h3
    subst h5
    have h6 : vs[i]? = some (p.1, (vs[i]'(by omega)).2) := by
      have h7 : (kvs.map (·.1))[i]? = some p.1 := by rw [List.getElem?_map, h4]; rfl
      rw [ek, List.getElem?_map, List.getElem?_eq_getElem (show i < vs.length by omega)] at h7
      rw [List.getElem?_eq_getElem (show i < vs.length by omega)]
      have h8 := Option.some.inj h7
      rw [← h8]
    exact kV_rel (hk i hi p.1 _ h6).1
  · obtain ⟨z, lo, xs, rel, dd⟩ := dt_of I.hok e
    obtain ⟨es, ep, raw, hs, hk⟩ := dd.raw
    have hl := Paired.length rel
    refine fin (ys := xs.map fun p => V.ref p.2.1) lo raw (by rw [hs, ← hl]; exact z) ?_ (.inr ⟨kvs, e, ?_⟩)
    · refine vals_of (by have e0 : es.toList.length = es.size := Array.length_toList; rw [List.length_map, List.length_map, e0, hs]) fun i y v h1 h2 => ?_
      rw [List.getElem?_map] at h1 h2
      obtain ⟨en, h3, rfl⟩ := Option.map_eq_some_iff.mp h2
      obtain ⟨p, h4, rfl⟩ := Option.map_eq_some_iff.mp h1
      rw [Array.getElem?_toList] at h3
      obtain ⟨hi, h5⟩ := Array.getElem?_eq_some_iff.mp h3
      subst h5
      obtain ⟨y, h6, h7, _⟩ := hk i hi
      rw [h4] at h6
      cases h6
      exact h7
    · clear hk hs raw z dd fin hl e
      induction rel with
      | nil => exact .nil
      | cons h t ih => exact .cons ⟨_, rfl, h.2.1⟩ ih
end
end Ev

/-! Ev, part C: the operations on values keep what the evaluation says. -/
namespace Ev
open PySem L2 PyProof.Rows
section
variable {X : Cx}
/-- sum of a tuple of ints -/
noncomputable def rSumT (K : PySem.W.Frag) : List V → Hp → VK → Prop := fun vs H Q => ∃ (a : Addr) (ns : List Int), vs = [V.ref a] ∧ SqT K H a (ns.map V.int) ∧ Q (.int ns.sum) H
theorem cr_sumT (hc : X.calm = true) : CallR X (.builtin "sum") (rSumT X.K) := by
  intro pins s σ H vs us Q I r h
  obtain ⟨a, ns, rfl, hs, q⟩ := h
  obtain ⟨its, rv, hl, _⟩ := I.tuple hs
  rw [Vals.ref1 r]
  have hi := rv.ints
  obtain ⟨xs, ex⟩ := hi.allInts.items
  have hn : numsOf (intItems xs).toList = ns := by rw [← ex]; exact hi.numsOf
  rw [nums_intItems] at hn
  rw [ex] at hl
  refine PySem.W.ktm_sumG (I.ok.hd hc) hl fun h' tk t' hk => ?_
  refine ⟨.int _, H, I.kept hk, ?_, q⟩
  rw [preSum_eq, List.take_of_length_le (by simp), hn]
  exact ⟨_, rfl⟩
end
section
variable {c : Cn} {X : Cx}
theorem repInts {c : Cn} {Z : Hp} : ∀ {ds : List D} {ns : List Int} {vs : List V}, intsOf ds = some ns → RepL c Z ds vs → vs = ns.map V.int
  | [], ns, vs, h, q => by cases h; exact q
  | .int i :: r, ns, vs, h, q => by
    obtain ⟨v, w, rfl, q1, q2⟩ := q
    cases e : intsOf r with
    | none => simp [intsOf, e] at h
    | some ms =>
      have : ns = i :: ms := by simpa [intsOf, e] using h.symm
      subst this
      rw [repInts e q2]
      have q1' : v = V.int i := q1
      rw [q1', List.map_cons]
  | .non :: r, ns, vs, h, q => by simp [intsOf] at h
  | .bl _ :: r, ns, vs, h, q => by simp [intsOf] at h
  | .str _ :: r, ns, vs, h, q => by simp [intsOf] at h
  | .ty _ :: r, ns, vs, h, q => by simp [intsOf] at h
  | .cl _ :: r, ns, vs, h, q => by simp [intsOf] at h
  | .tup _ :: r, ns, vs, h, q => by simp [intsOf] at h
  | .lst _ :: r, ns, vs, h, q => by simp [intsOf] at h
  | .dK _ _ :: r, ns, vs, h, q => by simp [intsOf] at h
  | .dT _ _ :: r, ns, vs, h, q => by simp [intsOf] at h
  | .ins _ _ :: r, ns, vs, h, q => by simp [intsOf] at h
  | .scr _ :: r, ns, vs, h, q => by simp [intsOf] at h
theorem repBools {c : Cn} {Z : Hp} : ∀ {ds : List D} {ns : List Bool} {vs : List V}, boolsOf ds = some ns → RepL c Z ds vs → vs = ns.map V.bl
  | [], ns, vs, h, q => by cases h; exact q
  | .bl i :: r, ns, vs, h, q => by
    obtain ⟨v, w, rfl, q1, q2⟩ := q
    cases e : boolsOf r with
    | none => simp [boolsOf, e] at h
    | some ms =>
      have : ns = i :: ms := by simpa [boolsOf, e] using h.symm
      subst this
      rw [repBools e q2]
      have q1' : v = V.bl i := q1
      rw [q1', List.map_cons]
  | .non :: r, ns, vs, h, q => by simp [boolsOf] at h
  | .int _ :: r, ns, vs, h, q => by simp [boolsOf] at h
  | .str _ :: r, ns, vs, h, q => by simp [boolsOf] at h
  | .ty _ :: r, ns, vs, h, q => by simp [boolsOf] at h
  | .cl _ :: r, ns, vs, h, q => by simp [boolsOf] at h
  | .tup _ :: r, ns, vs, h, q => by simp [boolsOf] at h
  | .lst _ :: r, ns, vs, h, q => by simp [boolsOf] at h
  | .dK _ _ :: r, ns, vs, h, q => by simp [boolsOf] at h
  | .dT _ _ :: r, ns, vs, h, q => by simp [boolsOf] at h
  | .ins _ _ :: r, ns, vs, h, q => by simp [boolsOf] at h
  | .scr _ :: r, ns, vs, h, q => by simp [boolsOf] at h
/- data as the library's data -/
mutual
theorem Rep.dp {c : Cn} {Z H : Hp} (h : Same Z H) : ∀ (d : D) (pd : PyData) (x : V), toPy d = some pd → Rep c Z d x → Dp c.K H x pd
  | .non, _, _, e, q => by cases e; rw [show _ = V.non from q]; exact .non
  | .bl b, _, _, e, q => by cases e; rw [show _ = V.bl b from q]; exact .bl b
  | .int i, _, _, e, q => by cases e; rw [show _ = V.int i from q]; exact .int i
  | .str s, _, _, e, q => by cases e; rw [show _ = V.str s from q]; exact .str s
  | .tup ds, pd, _, e, q => by
    obtain ⟨a, vs, rfl, s, r⟩ := q
    cases e1 : toPys ds with
    | none => simp [toPy, e1] at e
    | some ps =>
      have : pd = .tuple ps := by simpa [toPy, e1] using e.symm
      subst this
      exact Dp.tup (sqT_mono h s).sq (RepL.dp h ds ps vs e1 r)
  | .lst ds, pd, _, e, q => by
    obtain ⟨a, vs, rfl, s, r⟩ := q
    cases e1 : toPys ds with
    | none => simp [toPy, e1] at e
    | some ps =>
      have : pd = .list ps := by simpa [toPy, e1] using e.symm
      subst this
      exact .lst (SqL.of (h _ _ s)) (RepL.dp h ds ps vs e1 r)
  | .ty _, _, _, e, _ => by simp [toPy] at e
  | .cl _, _, _, e, _ => by simp [toPy] at e
  | .dK _ _, _, _, e, _ => by simp [toPy] at e
  | .dT _ _, _, _, e, _ => by simp [toPy] at e
  | .ins _ _, _, _, e, _ => by simp [toPy] at e
  | .scr _, _, _, e, _ => by simp [toPy] at e
theorem RepL.dp {c : Cn} {Z H : Hp} (h : Same Z H) : ∀ (ds : List D) (ps : List PyData) (vs : List V), toPys ds = some ps → RepL c Z ds vs → DpAll c.K H vs ps
  | [], _, _, e, q => by cases e; rw [show _ = [] from q]; exact .nil
  | d :: ds, ps, _, e, q => by
    obtain ⟨v, r, rfl, q1, q2⟩ := q
    cases e1 : toPy d with
    | none => simp [toPys, e1] at e
    | some p =>
      cases e2 : toPys ds with
      | none => simp [toPys, e1, e2] at e
      | some s =>
        have : ps = p :: s := by simpa [toPys, e1, e2] using e.symm
        subst this
        exact .cons (Rep.dp h d p v e1 q1) (RepL.dp h ds s r e2 q2)
end
theorem Vw.dp {c : Cn} {Z H : Hp} (h : Same Z H) {d : D} {pd : PyData} {x : V} (e : toPy d = some pd) (q : Vw c Z H d x) : Dp c.K H x pd := by
  cases d with
  | dK _ _ => simp [toPy] at e
  | dT _ _ => simp [toPy] at e
  | lst ds =>
    obtain ⟨a, vs, rfl, s, r⟩ := q
    cases e1 : toPys ds with
    | none => simp [toPy, e1] at e
    | some ps =>
      have : pd = .list ps := by simpa [toPy, e1] using e.symm
      subst this
      exact .lst (SqL.of s) (RepL.dp h ds ps vs e1 r)
  | _ => exact Rep.dp h _ pd x e q
/-! ### dicts -/
theorem keyD_rep {c : Cn} {Z H : Hp} {d : D} {k : L2.Key} {x : V} (e : keyD d = some k) (q : Vw c Z H d x) : x = kV k := by
  cases d with
  | int i => cases e; exact q
  | str i => cases e; exact q
  | _ => cases e
theorem keysD_rep {c : Cn} {Z : Hp} : ∀ {ds : List D} {ks : List L2.Key} {xs : List V}, keysD ds = some ks → RepL c Z ds xs → xs = ks.map kV
  | [], ks, xs, e, q => by
    cases e
    exact q
  | d :: ds, ks, xs, e, q => by
    obtain ⟨v, r, rfl, q1, q2⟩ := q
    cases e1 : keyD d with
    | none => simp [keysD, e1] at e
    | some k =>
      cases e2 : keysD ds with
      | none => simp [keysD, e1, e2] at e
      | some ks' =>
        have : ks = k :: ks' := by simpa [keysD, e1, e2] using e.symm
        subst this
        have h1 : v = kV k := by
          cases d with
          | int i => cases e1; exact q1
          | str i => cases e1; exact q1
          | _ => cases e1
        rw [h1, keysD_rep e2 q2]
        rfl
theorem keyT_rep {c : Cn} {Z H : Hp} {d : D} {k : List L2.Key} {x : V} (hz : Same Z H) (e : keyT d = some k) (q : Vw c Z H d x) : ∃ b, x = .ref b ∧ H b = some (.tup (k.map kV)) := by
  unfold keyT at e
  split at e
  · obtain ⟨a, vs, rfl, s1, r1⟩ := q
    refine ⟨a, rfl, ?_⟩
    rw [← keysD_rep e r1]
    exact hz _ _ s1
  · cases e
section
variable {κ : Type} [DecidableEq κ] {c : Cn} {Z : Hp}
theorem dLook_rep {q : κ} : ∀ {kvs : List (κ × V)} {ds : List D}, RepL c Z ds (kvs.map (·.2)) → (∀ d, dLook (kvs.map (·.1)) ds q = some d → ∃ v, valV kvs q = some v ∧ Rep c Z d v) ∧ (dLook (kvs.map (·.1)) ds q).isSome = (valV kvs q).isSome
  | [], ds, h => by
    cases ds with
    | nil => exact ⟨fun d e => (by cases e), rfl⟩
    | cons d ds => obtain ⟨_, _, e, _⟩ := h; cases e
  | p :: kvs, [], h => by cases (show (p :: kvs).map (·.2) = [] from h)
  | p :: kvs, d :: ds, h => by
    obtain ⟨v, r, e, h1, h2⟩ := h
    cases e
    by_cases z : p.1 = q
    · have e1 : dLook ((p :: kvs).map (·.1)) (d :: ds) q = some d := by simp [dLook, z]
      rw [e1, valV_pos z]
      exact ⟨fun d' e => by cases e; exact ⟨_, rfl, h1⟩, rfl⟩
    · have e1 : dLook ((p :: kvs).map (·.1)) (d :: ds) q = dLook (kvs.map (·.1)) ds q := by simp [dLook, z]
      rw [e1, valV_neg z]
      exact dLook_rep h2
theorem dRepl_rep {q : κ} {e : D} {v : V} (he : Rep c Z e v) : ∀ {kvs : List (κ × V)} {ds : List D}, RepL c Z ds (kvs.map (·.2)) → RepL c Z (dRepl (kvs.map (·.1)) ds q e) ((kvs.map (fun kv => if kv.1 = q then (kv.1, v) else kv)).map (·.2))
  | [], ds, h => by
    cases ds with
    | nil => rfl
    | cons d ds => obtain ⟨_, _, e, _⟩ := h; cases e
  | p :: kvs, [], h => by cases (show (p :: kvs).map (·.2) = [] from h)
  | p :: kvs, d :: ds, h => by
    obtain ⟨w, r, e1, h1, h2⟩ := h
    cases e1
    have ih := dRepl_rep (q := q) he h2
    by_cases z : p.1 = q
    · simp only [List.map_cons, dRepl, if_pos z]
      exact ⟨_, _, rfl, he, ih⟩
    · simp only [List.map_cons, dRepl, if_neg z]
      exact ⟨_, _, rfl, h1, ih⟩
theorem dPut_rep {q : κ} {e : D} {v : V} (he : Rep c Z e v) {kvs : List (κ × V)} {ds : List D} (h : RepL c Z ds (kvs.map (·.2))) : (dPut (kvs.map (·.1)) ds q e).1 = (putK kvs q v).map (·.1) ∧ RepL c Z (dPut (kvs.map (·.1)) ds q e).2 ((putK kvs q v).map (·.2)) := by
  unfold dPut putK
  by_cases z : q ∈ kvs.map (·.1)
  · have z' : (kvs.any fun kv => decide (kv.1 = q)) = true := by
      obtain ⟨p, hp, e1⟩ := List.mem_map.mp z
      exact List.any_eq_true.mpr ⟨p, hp, by simpa using e1⟩
    rw [if_pos z, if_pos z']
    refine ⟨?_, dRepl_rep he h⟩
    show kvs.map (·.1) = _
    rw [List.map_map]
    apply List.map_congr_left
    intro p _
    by_cases y : p.1 = q <;> simp [y]
  · have z' : ¬ (kvs.any fun kv => decide (kv.1 = q)) = true := fun y => by
      obtain ⟨p, hp, e1⟩ := List.any_eq_true.mp y
      exact z (List.mem_map.mpr ⟨p, hp, by simpa using e1⟩)
    rw [if_neg z, if_neg z']
    simp only [List.map_append, List.map_cons, List.map_nil]
    exact ⟨trivial, RepL.append _ _ _ _ h (RepL.one he)⟩
end
/-- an operation by values: what it asks, what it gives -/
noncomputable def rBin (c : Cn) (f : D → D → Option R) : R2 := fun x y H Q => ∃ Z dx dy r, Same Z H ∧ Vw c Z H dx x ∧ Vw c Z H dy y ∧ f dx dy = some r ∧ ∀ z H', NewR c Z H r z H' → Q z H'
theorem newd {c : Cn} {Z H : Hp} {d : D} {z : V} (q : Rep c Z d z) : NewR c Z H (.d d) z H := .inl ⟨d, rfl, rfl, q⟩
theorem sl_eq : SL = sizeLine := by rw [sizeLine_eq]; rfl
theorem noR {r : R} (e : (none : Option R) = some r) : False := nomatch e
theorem ite_some {p : Prop} [Decidable p] {a : Option R} {r : R} (e : (if p then a else none) = some r) : p ∧ a = some r := by
  by_cases h : p
  · rw [if_pos h] at e; exact ⟨h, e⟩
  · rw [if_neg h] at e; cases e
theorem bin_ok (hK : X.K = c.K) (op : Operator) : OpR X (binaryOp op) (rBin c (binD op)) := by
  intro pins s σ H x y v u Q I rx ry h
  obtain ⟨Z, dx, dy, r, hz, vx, vy, e, k⟩ := h
  cases op with
  | Add =>
    cases dx with
    | int i =>
      cases dy with
      | int j =>
        cases e
        exact op_add pins s σ H x y v u Q I rx ry ⟨_, _, vx, vy, k _ _ (newd rfl)⟩
      | _ => exact (noR e).elim
    | str x1 =>
      cases dy with
      | str y1 =>
        obtain ⟨hc, e⟩ := ite_some e
        cases e
        exact op_add_str pins s σ H x y v u Q I rx ry ⟨_, _, vx, vy, by rw [← sl_eq]; exact hc, k _ _ (newd rfl)⟩
      | _ => exact (noR e).elim
    | tup xs =>
      cases dy with
      | tup ys =>
        obtain ⟨hc, e⟩ := ite_some e
        cases e
        obtain ⟨a, vs, rfl, s1, r1⟩ := vx
        obtain ⟨b, ws, rfl, s2, r2⟩ := vy
        have t1 := (sqT_mono hz s1).sq
        have t2 := (sqT_mono hz s2).sq
        rw [← hK] at t1 t2
        have l1 := RepL.len xs vs r1
        have l2 := RepL.len ys ws r2
        by_cases n1 : vs = []
        · subst n1
          have : xs = [] := by cases xs with | nil => rfl | cons _ _ => simp at l1
          subst this
          exact op_catA pins s σ H _ _ v u Q I rx ry ⟨a, b, [], ws, rfl, rfl, t1, t2, by simp; rw [l2, ← sl_eq]; simpa using hc, by simpa using k _ _ (newd ⟨b, ws, rfl, s2, r2⟩)⟩
        · by_cases n2 : ws = []
          · subst n2
            have : ys = [] := by cases ys with | nil => rfl | cons _ _ => simp at l2
            subst this
            refine op_catA pins s σ H _ _ v u Q I rx ry ⟨a, b, vs, [], rfl, rfl, t1, t2, by simp; rw [l1, ← sl_eq]; simpa using hc, ?_⟩
            have kk := k _ _ (newd (H := H) (d := .tup (xs ++ [])) ⟨a, vs, rfl, s1, by rw [List.append_nil]; exact r1⟩)
            simpa [n1] using kk
          · refine op_catA pins s σ H _ _ v u Q I rx ry ⟨a, b, vs, ws, rfl, rfl, t1, t2, by rw [l1, l2, ← sl_eq]; exact hc, ?_⟩
            exact ⟨fun z => absurd z n1, fun _ z => absurd z n2, fun _ _ p np => k _ _ (.inr (.inl ⟨p, vs ++ ws, xs ++ ys, rfl, rfl, np, rfl, RepL.append _ _ _ _ r1 r2⟩))⟩
      | _ => exact (noR e).elim
    | lst xs =>
      cases dy with
      | lst ys =>
        obtain ⟨hc, e⟩ := ite_some e
        cases e
        obtain ⟨a, vs, rfl, s1, r1⟩ := vx
        obtain ⟨b, ws, rfl, s2, r2⟩ := vy
        have l1 := RepL.len xs vs r1
        have l2 := RepL.len ys ws r2
        exact op_cat pins s σ H _ _ v u Q I rx ry ⟨a, b, vs, ws, rfl, rfl, s1, s2, by rw [l1, l2, ← sl_eq]; exact hc, fun p np => k _ _ (.inr (.inr ⟨p, vs ++ ws, xs ++ ys, rfl, rfl, np, rfl, RepL.append _ _ _ _ r1 r2⟩))⟩
      | _ => exact (noR e).elim
    | _ => exact (noR e).elim
  | Sub =>
    cases dx with
    | int i =>
      cases dy with
      | int j =>
        cases e
        exact op_sub pins s σ H x y v u Q I rx ry ⟨_, _, vx, vy, k _ _ (newd rfl)⟩
      | _ => exact (noR e).elim
    | _ => exact (noR e).elim
  | Mult =>
    cases dx with
    | int i =>
      cases dy with
      | int j =>
        obtain ⟨hc, e⟩ := ite_some e
        cases e
        exact op_mul pins s σ H x y v u Q I rx ry ⟨_, _, vx, vy, hc, k _ _ (newd rfl)⟩
      | _ => exact (noR e).elim
    | lst xs =>
      cases dy with
      | int n =>
        obtain ⟨hc, e⟩ := ite_some e
        cases e
        obtain ⟨a, vs, rfl, s1, r1⟩ := vx
        have l1 := RepL.len xs vs r1
        exact op_rep pins s σ H _ _ v u Q I rx ry ⟨a, _, vs, rfl, vy, s1, hc.1, hc.2.1, by rw [l1, ← sl_eq]; exact hc.2.2, fun p np => k _ _ (.inr (.inr ⟨p, _, _, rfl, rfl, np, rfl, RepL.rep r1 _⟩))⟩
      | _ => exact (noR e).elim
    | _ => exact (noR e).elim
  | FloorDiv =>
    cases dx with
    | int i =>
      cases dy with
      | int j =>
        obtain ⟨hc, e⟩ := ite_some e
        cases e
        exact op_fdiv pins s σ H x y v u Q I rx ry ⟨_, _, vx, vy, hc, k _ _ (newd rfl)⟩
      | _ => exact (noR e).elim
    | _ => exact (noR e).elim
  | Mod =>
    cases dx with
    | int i =>
      cases dy with
      | int j =>
        obtain ⟨hc, e⟩ := ite_some e
        cases e
        exact op_mod pins s σ H x y v u Q I rx ry ⟨_, _, vx, vy, hc, k _ _ (newd rfl)⟩
      | _ => exact (noR e).elim
    | _ => exact (noR e).elim
  | Pow =>
    cases dx with
    | int i =>
      cases dy with
      | int j =>
        obtain ⟨hc, e⟩ := ite_some e
        cases e
        exact op_pow pins s σ H x y v u Q I rx ry ⟨_, _, vx, vy, hc, k _ _ (newd rfl)⟩
      | _ => exact (noR e).elim
    | _ => exact (noR e).elim
  | LShift =>
    cases dx with
    | int i =>
      cases dy with
      | int j =>
        obtain ⟨hc, e⟩ := ite_some e
        cases e
        exact op_shl pins s σ H x y v u Q I rx ry ⟨_, _, vx, vy, hc, k _ _ (newd rfl)⟩
      | _ => exact (noR e).elim
    | _ => exact (noR e).elim
  | RShift =>
    cases dx with
    | int i =>
      cases dy with
      | int j =>
        obtain ⟨hc, e⟩ := ite_some e
        cases e
        exact op_shr pins s σ H x y v u Q I rx ry ⟨_, _, vx, vy, hc, k _ _ (newd rfl)⟩
      | _ => exact (noR e).elim
    | _ => exact (noR e).elim
  | BitAnd =>
    cases dx with
    | int i =>
      cases dy with
      | int j =>
        cases e
        exact op_and pins s σ H x y v u Q I rx ry ⟨_, _, vx, vy, k _ _ (newd rfl)⟩
      | _ => exact (noR e).elim
    | _ => exact (noR e).elim
  | BitOr =>
    cases dx with
    | int i =>
      cases dy with
      | int j =>
        cases e
        exact op_or pins s σ H x y v u Q I rx ry ⟨_, _, vx, vy, k _ _ (newd rfl)⟩
      | _ => exact (noR e).elim
    | _ => exact (noR e).elim
  | BitXor =>
    cases dx with
    | int i =>
      cases dy with
      | int j =>
        cases e
        exact op_xor pins s σ H x y v u Q I rx ry ⟨_, _, vx, vy, k _ _ (newd rfl)⟩
      | _ => exact (noR e).elim
    | _ => exact (noR e).elim
  | _ => exact (noR e).elim
noncomputable def rUn1 (c : Cn) (f : D → Option D) : V → Hp → VK → Prop := fun x H Q => ∃ Z dx d, Same Z H ∧ Vw c Z H dx x ∧ f dx = some d ∧ ∀ z, Rep c Z d z → Q z H
theorem un_ok (op : UnaryOp) : UnR X (unaryOp op) (rUn1 c (unD op)) := by
  intro pins s σ H x v Q I rx h
  obtain ⟨Z, dx, d, hz, vx, e, k⟩ := h
  unfold unD at e
  split at e
  · cases e
    exact un_neg pins s σ H x v Q I rx ⟨_, vx, k _ rfl⟩
  · cases e
    exact un_inv pins s σ H x v Q I rx ⟨_, vx, k _ rfl⟩
  · cases e
/-- a comparison -/
noncomputable def rCmp (c : Cn) (f : D → D → Option Bool) : R2 := fun x y H Q => ∃ Z dx dy b, Same Z H ∧ Vw c Z H dx x ∧ Vw c Z H dy y ∧ f dx dy = some b ∧ Q (.bl b) H
theorem is_bools {X : Cx} {pins : List (Addr × Obj)} {σ : L2.St} {s : Shared} {H : Hp} {Q : VK} {a b : Bool} {v u : Value} (I : Inv X pins σ H s) (rx : RelV (.bl a) v) (ry : RelV (.bl b) u) (k : Q (.bl (a == b)) H) : wpAny (model X.prog X.w) X.A (compareOp .Is v u) (EP X pins σ Q) X.xe s := by
  cases (show v = Value.bool a from rx)
  cases (show u = Value.bool b from ry)
  show wpAny _ _ ((isSame (Value.bool a) (Value.bool b)) >>= fun z => pure (Value.bool z)) _ _ s
  have e : isSame (Value.bool a) (Value.bool b) = pure (a == b) := by cases a <;> cases b <;> rfl
  rw [e]
  exact wpAny_bind (wpAny_pure (wpAny_pure ⟨.bl (a == b), H, I, rfl, k⟩))
theorem isnot_bools {X : Cx} {pins : List (Addr × Obj)} {σ : L2.St} {s : Shared} {H : Hp} {Q : VK} {a b : Bool} {v u : Value} (I : Inv X pins σ H s) (rx : RelV (.bl a) v) (ry : RelV (.bl b) u) (k : Q (.bl (!(a == b))) H) : wpAny (model X.prog X.w) X.A (compareOp .IsNot v u) (EP X pins σ Q) X.xe s := by
  cases (show v = Value.bool a from rx)
  cases (show u = Value.bool b from ry)
  show wpAny _ _ ((isSame (Value.bool a) (Value.bool b)) >>= fun z => pure (Value.bool (!z))) _ _ s
  have e : isSame (Value.bool a) (Value.bool b) = pure (a == b) := by cases a <;> cases b <;> rfl
  rw [e]
  exact wpAny_bind (wpAny_pure (wpAny_pure ⟨.bl (!(a == b)), H, I, rfl, k⟩))
theorem lexLt_le : ∀ ns ms : List Int, HT.lexLt ns ms = !lexLe ms ns
  | [], [] => rfl
  | [], _ :: _ => rfl
  | _ :: _, [] => rfl
  | x :: xs, y :: ys => by
    rw [HT.lexLt_cons, lexLe]
    by_cases e : x = y
    · subst e
      rw [if_pos rfl, if_pos rfl, lexLt_le]
    · rw [if_neg e, if_neg (fun z => e z.symm)]
      by_cases h : x < y
      · rw [decide_eq_true h, decide_eq_false (by omega)]; rfl
      · rw [decide_eq_false h, decide_eq_true (by omega)]; rfl
theorem lexAt_shift (e r : Nat → Bool) (z : Bool) : ∀ k i, Ob.lexAt e r z (i + 1) k = Ob.lexAt (fun j => e (j + 1)) (fun j => r (j + 1)) z i k
  | 0, _ => rfl
  | k + 1, i => by
    rw [Ob.lexAt_succ, Ob.lexAt_succ, lexAt_shift e r z k (i + 1)]
theorem lexAt_le : ∀ ns ms : List Int, Ob.lexAt (fun j => decide (ns.getD j 0 = ms.getD j 0)) (fun j => decide (ns.getD j 0 ≤ ms.getD j 0)) (decide (ns.length ≤ ms.length)) 0 (min ns.length ms.length) = lexLe ns ms
  | [], ms => by simp [Ob.lexAt_zero, lexLe]
  | n :: ns, [] => by simp [Ob.lexAt_zero, lexLe]
  | n :: ns, m :: ms => by
    have e1 : min (n :: ns).length (m :: ms).length = min ns.length ms.length + 1 := by simp only [List.length_cons]; omega
    have e2 : decide ((n :: ns).length ≤ (m :: ms).length) = decide (ns.length ≤ ms.length) := by simp
    rw [e1, e2, Ob.lexAt_succ, lexAt_shift, lexLe]
    have e3 := lexAt_le ns ms
    simp only [List.getD_cons_succ, List.getD_cons_zero, decide_eq_true_eq]
    rw [e3]
theorem dp_list {Z H : Hp} (h : Same Z H) {ds : List D} {ps : List PyData} {x : V} (e : toPys ds = some ps) (q : Vw c Z H (.lst ds) x) : Dp c.K H x (.list ps) := Vw.dp h (by simp [toPy, e]) q
theorem eqD_some {a b : D} {k : Bool} (h : eqD a b = some k) : ∃ x y, toPy a = some x ∧ toPy b = some y ∧ SeqAt.shaped x = true ∧ SeqAt.shaped y = true ∧ k = PyData.eqv x y := by
  unfold eqD at h
  split at h
  · rename_i x y ex ey
    split at h
    · rename_i hs
      rw [Bool.and_eq_true] at hs
      exact ⟨x, y, ex, ey, hs.1, hs.2, (Option.some.inj h).symm⟩
    · cases h
  · cases h
theorem inD_some {x : D} {ys : List D} {k : Bool} (h : inD x ys = some k) : ∃ p ps, toPy x = some p ∧ toPys ys = some ps ∧ SeqAt.shaped p = true ∧ SeqAt.shaped (.list ps) = true ∧ k = ps.any fun z => PyData.eqv z p := by
  unfold inD at h
  split at h
  · rename_i p ps e1 e2
    split at h
    · rename_i hs
      rw [Bool.and_eq_true] at hs
      exact ⟨p, ps, e1, e2, hs.1, hs.2, (Option.some.inj h).symm⟩
    · cases h
  · cases h
theorem in_tup (hu : X.A.units + 65 < cLine) {neg : Bool} {pins : List (Addr × Obj)} {s : Shared} {σ : L2.St} {H : Hp} {x y : V} {v u : Value} {Q : VK} (I : Inv X pins σ H s) (rx : RelV x v) (ry : RelV y u) {d : PyData} {ds : List PyData} (hd : Dp X.K H x d) (he : Dp X.K H y (.tuple ds))
    (sd : SeqAt.shaped d = true) (se : SeqAt.shaped (.list ds) = true) (q : Q (.bl (if neg then !ds.any (fun z => PyData.eqv z d) else ds.any fun z => PyData.eqv z d)) H) : wpAny (model X.prog X.w) X.A (compareOp (if neg then .NotIn else .In) v u) (EP X pins σ Q) X.xe s := by
  obtain ⟨as, r1⟩ := Dp.reads I d x v hd rx
  obtain ⟨bs, r2⟩ := Dp.reads I (.tuple ds) y u he ry
  have c1 : PyData.canLayAll0 ds = true := by
    have := SeqAt.canLay_of_shaped se
    simpa only [PyData.canLay0] using this
  have c2 : d.depth ≤ 64 := SeqAt.depth_of_shaped sd
  have c3 : X.A.units + 1 + min (PyData.depthAll ds) d.depth < cLine := by
    have : min (PyData.depthAll ds) d.depth ≤ d.depth := Nat.min_le_right _ _
    omega
  cases neg with
  | true => exact SeqAt.notIn_tuple_reads r2 r1 c1 (SeqAt.canLay_of_shaped sd) c3 ⟨.bl _, H, I, rfl, q⟩
  | false => exact SeqAt.in_tuple_reads r2 r1 c1 (SeqAt.canLay_of_shaped sd) c3 ⟨.bl _, H, I, rfl, q⟩
theorem isNon_ok {Z H : Hp} {dx : D} {x : V} (vx : Vw c Z H dx x) : decide (x = .non) = isNon dx := by
  cases dx with
  | non => cases (show x = .non from vx); rfl
  | bl b => cases (show x = .bl b from vx); rfl
  | int b => cases (show x = .int b from vx); rfl
  | str b => cases (show x = .str b from vx); rfl
  | ty b => cases (show x = .ty b.nm from vx); rfl
  | cl b => obtain ⟨_, _, rfl⟩ := vx; rfl
  | tup b => obtain ⟨_, _, rfl, _⟩ := vx; rfl
  | lst b => obtain ⟨_, _, rfl, _⟩ := vx; rfl
  | dK b _ => obtain ⟨_, _, _, rfl, _⟩ := vx; rfl
  | dT b _ => obtain ⟨_, _, _, rfl, _⟩ := vx; rfl
  | ins k b => obtain ⟨_, _, _, _, rfl, _⟩ := vx; rfl
  | scr b => obtain ⟨_, rfl, _⟩ := vx; rfl
  | exc b => obtain ⟨_, rfl, _⟩ := vx; rfl
theorem cmp_ok (hK : X.K = c.K) (hu : X.A.units + 65 < cLine) (op : CmpOp) : OpR X (compareOp op) (rCmp c (cmpD op)) := by
  intro pins s σ H x y v u Q I rx ry h
  obtain ⟨Z, dx, dy, b, hz, vx, vy, e, k⟩ := h
  have hu1 : X.A.units < cLine := by omega
  have hu2 : X.A.units + 64 < cLine := by omega
  cases op with
  | Lt =>
    unfold cmpD at e
    simp only at e
    split at e
    · cases e
      exact op_lt pins s σ H x y v u Q I rx ry ⟨_, _, vx, vy, k⟩
    · rename_i xs ys
      split at e
      · rename_i ns ms e1 e2
        cases e
        obtain ⟨a, vs, rfl, s1, r1⟩ := vx
        obtain ⟨a', ws, rfl, s2, r2⟩ := vy
        rw [repInts e1 r1] at s1
        rw [repInts e2 r2] at s2
        exact op_ltT hu1 pins s σ H _ _ v u Q I rx ry ⟨a, a', ns, ms, rfl, rfl, by rw [hK]; exact (sqT_mono hz s1).sq, by rw [hK]; exact (sqT_mono hz s2).sq, by rw [lexLt_le]; exact k⟩
      · cases e
    · cases e
  | LtE =>
    unfold cmpD at e
    simp only at e
    split at e
    · cases e
      exact op_le pins s σ H x y v u Q I rx ry ⟨_, _, vx, vy, k⟩
    · rename_i xs ys
      split at e
      · rename_i ns ms e1 e2
        cases e
        obtain ⟨a, vs, rfl, s1, r1⟩ := vx
        obtain ⟨a', ws, rfl, s2, r2⟩ := vy
        rw [repInts e1 r1] at s1
        rw [repInts e2 r2] at s2
        exact op_leT hu1 pins s σ H _ _ v u Q I rx ry ⟨a, a', ns, ms, rfl, rfl, by rw [hK]; exact (sqT_mono hz s1).sq, by rw [hK]; exact (sqT_mono hz s2).sq, by rw [lexAt_le]; exact k⟩
      · cases e
    · cases e
  | Gt =>
    unfold cmpD at e
    simp only at e
    split at e
    · cases e
      exact op_gt pins s σ H x y v u Q I rx ry ⟨_, _, vx, vy, k⟩
    · cases e
  | GtE =>
    unfold cmpD at e
    simp only at e
    split at e
    · cases e
      exact op_ge pins s σ H x y v u Q I rx ry ⟨_, _, vx, vy, k⟩
    · cases e
  | Eq =>
    obtain ⟨px, py, e1, e2, s1, s2, rfl⟩ := eqD_some (show eqD dx dy = some b from e)
    exact op_eqD hu2 pins s σ H x y v u Q I rx ry ⟨px, py, by rw [hK]; exact Vw.dp hz e1 vx, by rw [hK]; exact Vw.dp hz e2 vy, s1, s2, k⟩
  | NotEq =>
    have e' : (eqD dx dy).map (!·) = some b := e
    cases e0 : eqD dx dy with
    | none => rw [e0] at e'; cases e'
    | some b0 =>
      rw [e0] at e'
      cases e'
      obtain ⟨px, py, e1, e2, s1, s2, rfl⟩ := eqD_some e0
      exact op_neD hu2 pins s σ H x y v u Q I rx ry ⟨px, py, by rw [hK]; exact Vw.dp hz e1 vx, by rw [hK]; exact Vw.dp hz e2 vy, s1, s2, k⟩
  | Is =>
    unfold cmpD at e
    simp only at e
    split at e
    · cases e
      have hy : y = .non := vy
      exact op_isN pins s σ H x y v u Q I rx ry ⟨hy, by rw [isNon_ok vx]; exact k⟩
    · split at e
      · cases e
        cases (show x = .bl _ from vx)
        cases (show y = .bl _ from vy)
        exact is_bools I rx ry k
      · cases e
    · cases e
  | IsNot =>
    unfold cmpD at e
    simp only at e
    split at e
    · cases e
      have hy : y = .non := vy
      exact op_notN pins s σ H x y v u Q I rx ry ⟨hy, by rw [isNon_ok vx]; exact k⟩
    · split at e
      · cases e
        cases (show x = .bl _ from vx)
        cases (show y = .bl _ from vy)
        exact isnot_bools I rx ry k
      · cases e
    · cases e
  | In =>
    unfold cmpD at e
    simp only at e
    split at e
    · obtain ⟨px, ps, e1, e2, s1, s2, rfl⟩ := inD_some e
      exact op_inD hu pins s σ H x y v u Q I rx ry ⟨px, ps, by rw [hK]; exact Vw.dp hz e1 vx, by rw [hK]; exact dp_list hz e2 vy, s1, s2, k⟩
    · obtain ⟨px, ps, e1, e2, s1, s2, rfl⟩ := inD_some e
      exact in_tup hu (neg := false) I rx ry (by rw [hK]; exact Vw.dp hz e1 vx) (by rw [hK]; exact Vw.dp (d := .tup _) hz (by simp [toPy, e2]) vy) s1 s2 k
    · cases e0 : keyD dx with
      | none => rw [e0] at e; cases e
      | some q =>
        rw [e0] at e
        cases e
        obtain ⟨a, kvs, vs, rfl, s1, rfl, rfl, r1⟩ := vy
        obtain rfl : u = Value.ref a := ry
        cases keyD_rep e0 vx
        exact d_in (by omega) I (DGet.k s1) rx fun s' I' => ⟨.bl (valV kvs q).isSome, H, I', rfl, by rw [← (dLook_rep r1).2]; exact k⟩
    · cases e0 : keyT dx with
      | none => rw [e0] at e; cases e
      | some q =>
        rw [e0] at e
        cases e
        obtain ⟨a, kvs, vs, rfl, s1, rfl, rfl, r1⟩ := vy
        obtain rfl : u = Value.ref a := ry
        obtain ⟨b, rfl, hb⟩ := keyT_rep hz e0 vx
        exact d_in (by omega) I (DGet.t s1 hb) rx fun s' I' => ⟨.bl (valV kvs q).isSome, H, I', rfl, by rw [← (dLook_rep r1).2]; exact k⟩
    · cases e
  | NotIn =>
    unfold cmpD at e
    simp only at e
    split at e
    · rename_i ys
      cases e0 : inD dx ys with
      | none => rw [e0] at e; cases e
      | some b0 =>
        rw [e0] at e
        cases e
        obtain ⟨px, ps, e1, e2, s1, s2, rfl⟩ := inD_some e0
        exact op_notInD hu pins s σ H x y v u Q I rx ry ⟨px, ps, by rw [hK]; exact Vw.dp hz e1 vx, by rw [hK]; exact dp_list hz e2 vy, s1, s2, k⟩
    · rename_i ys
      cases e0 : inD dx ys with
      | none => rw [e0] at e; cases e
      | some b0 =>
        rw [e0] at e
        cases e
        obtain ⟨px, ps, e1, e2, s1, s2, rfl⟩ := inD_some e0
        exact in_tup hu (neg := true) I rx ry (by rw [hK]; exact Vw.dp hz e1 vx) (by rw [hK]; exact Vw.dp (d := .tup _) hz (by simp [toPy, e2]) vy) s1 s2 k
    · cases e0 : keyD dx with
      | none => rw [e0] at e; cases e
      | some q =>
        rw [e0] at e
        cases e
        obtain ⟨a, kvs, vs, rfl, s1, rfl, rfl, r1⟩ := vy
        obtain rfl : u = Value.ref a := ry
        cases keyD_rep e0 vx
        exact d_notIn (by omega) I (DGet.k s1) rx fun s' I' => ⟨.bl (!(valV kvs q).isSome), H, I', rfl, by rw [← (dLook_rep r1).2]; exact k⟩
    · cases e0 : keyT dx with
      | none => rw [e0] at e; cases e
      | some q =>
        rw [e0] at e
        cases e
        obtain ⟨a, kvs, vs, rfl, s1, rfl, rfl, r1⟩ := vy
        obtain rfl : u = Value.ref a := ry
        obtain ⟨b, rfl, hb⟩ := keyT_rep hz e0 vx
        exact d_notIn (by omega) I (DGet.t s1 hb) rx fun s' I' => ⟨.bl (!(valV kvs q).isSome), H, I', rfl, by rw [← (dLook_rep r1).2]; exact k⟩
    · cases e

theorem atI_rep {Z : Hp} {ds : List D} {vs : List V} {i : Int} {d : D} (q : RepL c Z ds vs) (h : atI ds i = some d) : ∃ v, atI vs i = some v ∧ Rep c Z d v := by
  unfold atI at h ⊢
  rw [RepL.len ds vs q]
  cases e : ixN ds.length i with
  | none => rw [e] at h; cases h
  | some j =>
    rw [e] at h
    exact RepL.get ds vs j d q h
/-- an item -/
noncomputable def rIdx (c : Cn) (f : D → D → Option D) : R2 := fun x y H Q => ∃ Z dx dy d, Same Z H ∧ Vw c Z H dx x ∧ Vw c Z H dy y ∧ f dx dy = some d ∧ ∀ z, Rep c Z d z → Q z H
theorem ix_dct (hu : X.A.units + 1 < cLine) : IxR X (fun x y H Q => ∃ a v, x = .ref a ∧ DGet H a y (some v) ∧ Q v H) := by
  intro value slice pins s σ H x y v u Q I rx ry h hs
  obtain ⟨a, w, rfl, g, q⟩ := h
  obtain rfl : v = Value.ref a := rx
  exact tail_any (dict_typeIs I g) PySem.F.slot_dict_getitem.lookup (d_getItem hu I g ry fun w' s' I' r' => ⟨w, H, I', r', q⟩) hs
theorem idx_ok (hK : X.K = c.K) (hu : X.A.units + 65 < cLine) : IxR X (rIdx c idxD) := by
  intro value slice pins s σ H x y v u Q I rx ry h hs
  obtain ⟨Z, dx, dy, d, hz, vx, vy, e, k⟩ := h
  unfold idxD at e
  split at e
  · obtain ⟨a, vs, rfl, s1, r1⟩ := vx
    obtain ⟨w, e1, r⟩ := atI_rep r1 e
    exact ix_list value slice pins s σ H _ y v u Q I rx ry ⟨a, vs, _, w, rfl, vy, SqL.of s1, e1, k w r⟩ hs
  · obtain ⟨a, vs, rfl, s1, r1⟩ := vx
    obtain ⟨w, e1, r⟩ := atI_rep r1 e
    exact ix_tup value slice pins s σ H _ y v u Q I rx ry ⟨a, vs, _, w, rfl, vy, by rw [hK]; exact (sqT_mono hz s1).sq, e1, k w r⟩ hs
  · split at e
    · rename_i q e0
      obtain ⟨a, kvs, vs, rfl, s1, rfl, rfl, r1⟩ := vx
      cases keyD_rep e0 vy
      obtain ⟨w, e1, r⟩ := (dLook_rep r1).1 _ e
      exact ix_dct (by omega) value slice pins s σ H _ _ v u Q I rx ry ⟨a, w, rfl, by rw [← e1]; exact DGet.k s1, k w r⟩ hs
    · cases e
  · split at e
    · rename_i q e0
      obtain ⟨a, kvs, vs, rfl, s1, rfl, rfl, r1⟩ := vx
      obtain ⟨b, rfl, hb⟩ := keyT_rep hz e0 vy
      obtain ⟨w, e1, r⟩ := (dLook_rep r1).1 _ e
      exact ix_dct (by omega) value slice pins s σ H _ _ v u Q I rx ry ⟨a, w, rfl, by rw [← e1]; exact DGet.t s1 hb, k w r⟩ hs
    · cases e
  · rename_i ns z
    obtain ⟨a, rfl, s1⟩ := vx
    obtain ⟨w, e1, r⟩ := atI_rep (RepL.ints (c := c) (Z := Z) ns) e
    exact ix_list value slice pins s σ H _ y v u Q I rx ry ⟨a, _, _, w, rfl, vy, by rw [hK]; exact hz.seq s1, e1, k w r⟩ hs
  · cases e
theorem cut_rep {Z : Hp} {ds : List D} {vs : List V} (q : RepL c Z ds vs) (lo hi : Option Int) : RepL c Z (cutD ds lo hi) (cutV vs lo hi) := by
  unfold cutD cutV
  rw [RepL.len ds vs q]
  exact RepL.take _ _ _ (RepL.drop _ _ _ q)
noncomputable def rSlc (c : Cn) : V → Option Int → Option Int → Hp → VK → Prop := fun x lo hi H Q => ∃ Z dx r, Same Z H ∧ Vw c Z H dx x ∧ slcP dx lo hi = some r ∧ ∀ z H', NewR c Z H r z H' → Q z H'
theorem slc_ok (hK : X.K = c.K) : SlR X (rSlc c) := by
  intro pins s σ H x v vl vu lo hi sl Q I rx hs pl pu h
  obtain ⟨Z, dx, r, hz, vx, e, k⟩ := h
  unfold slcP at e
  split at e
  · rename_i ns
    cases e
    obtain ⟨a, rfl, s1⟩ := vx
    refine sl_list pins s σ H _ v vl vu lo hi sl Q I rx hs pl pu ⟨a, _, rfl, by rw [hK]; exact hz.seq s1, fun p np => k _ _ (.inr (.inr ⟨p, _, _, rfl, rfl, np, rfl, ?_⟩))⟩
    have : cutV (ns.map V.int) lo hi = (cutI ns lo hi).map V.int := by unfold cutV cutI; simp
    rw [this]
    exact RepL.ints _
  · cases e
    obtain ⟨a, vs, rfl, s1, r1⟩ := vx
    exact sl_list pins s σ H _ v vl vu lo hi sl Q I rx hs pl pu ⟨a, vs, rfl, SqL.of s1, fun p np => k _ _ (.inr (.inr ⟨p, _, _, rfl, rfl, np, rfl, cut_rep r1 lo hi⟩))⟩
  · rename_i xs
    cases e
    obtain ⟨a, vs, rfl, s1, r1⟩ := vx
    refine sl_tupA pins s σ H _ v vl vu lo hi sl Q I rx hs pl pu ⟨a, vs, rfl, by rw [hK]; exact (sqT_mono hz s1).sq, fun w => ?_, fun w p np => k _ _ (.inr (.inl ⟨p, _, _, rfl, rfl, np, rfl, cut_rep r1 lo hi⟩))⟩
    refine k _ _ (newd ⟨a, vs, rfl, s1, ?_⟩)
    have : cutD xs lo hi = xs := by
      unfold cutD
      rw [← RepL.len xs vs r1, w.1, w.2, RepL.len xs vs r1]
      simp
    rw [this]
    exact r1
  · cases e
/-! ### built-in functions -/
noncomputable def Blt.val : Blt → Value
  | .len => .builtin "len" | .isi => .builtin "isinstance" | .int => .type "int" | .min2 => .builtin "min" | .max2 => .builtin "max" | .abs => .builtin "abs"
  | .tuple => .type "tuple" | .list => .type "list" | .sorted => .builtin "sorted" | .all => .builtin "all" | .any => .builtin "any" | .sum => .builtin "sum" | .max1 => .builtin "max" | .min1 => .builtin "min" | .repr => .builtin "repr"
noncomputable def VwL (c : Cn) (Z H : Hp) : List D → List V → Prop
  | [], xs => xs = []
  | d :: ds, xs => ∃ v r, xs = v :: r ∧ Vw c Z H d v ∧ VwL c Z H ds r
theorem kit_all (a b : Ty) : kitB a.nm b.nm = some (a.sub b) := by cases a <;> cases b <;> decide +kernel
theorem tyx {Z H : Hp} (hK : X.K = c.K) (hz : Same Z H) {d : D} {t : Ty} {x : V} (e : tyOfD d = some t) (q : Vw c Z H d x) : TyX X.K H x (.type t.nm) := by
  cases d with
  | non => cases e; cases (show x = .non from q); exact .base .non
  | bl b => cases e; cases (show x = .bl b from q); exact .base (.bl b)
  | int b => cases e; cases (show x = .int b from q); exact .base (.int b)
  | str b => cases e; cases (show x = .str b from q); exact .base (.str b)
  | ty b => cases e
  | cl b => cases e
  | tup ds =>
    cases e
    obtain ⟨a, vs, rfl, s, r⟩ := q
    exact .base (.tup (hz _ _ s))
  | lst ds =>
    cases e
    obtain ⟨a, vs, rfl, s, r⟩ := q
    exact .base (.lst s)
  | dK b _ =>
    cases e
    obtain ⟨a, kvs, vs, rfl, s, r⟩ := q
    exact .base (.dK s)
  | dT b _ =>
    cases e
    obtain ⟨a, kvs, vs, rfl, s, r⟩ := q
    exact .base (.dT s)
  | ins k b => cases e
  | scr b => cases e
  | exc b => cases e
theorem mem_of_lookup {α : Type} {k : Nat} {v : α} : ∀ {l : List (Nat × α)}, l.lookup k = some v → (k, v) ∈ l
  | [], h => by simp at h
  | (a, b) :: l, h => by
    by_cases e : k = a
    · subst e
      simp [List.lookup] at h
      simp [h]
    · have e' : (k == a) = false := by simpa using e
      simp only [List.lookup, e'] at h
      exact List.mem_cons_of_mem _ (mem_of_lookup h)
theorem isi_tys {C : Addr} (ic : ∀ t : Ty, PySem.W.kitOne X.K (.ref C) (.type t.nm) = some false) {Z : Hp} : ∀ {cs : List D} {vs : List V}, cs.all isTyD = true → RepL c Z cs vs → ∃ us : List Value, Paired ClsV vs us ∧ PySem.W.kitAny X.K (.ref C) us = some false ∧ Vals vs us
  | [], vs, e, q => by
    rw [show vs = [] from q]
    exact ⟨[], .nil, kitAny_nil, .nil⟩
  | d :: cs, vs, e, q => by
    obtain ⟨v, r, rfl, q1, q2⟩ := q
    rw [List.all_cons] at e
    obtain ⟨e1, e2⟩ := Bool.and_eq_true_iff.mp e
    obtain ⟨us, p, h, w⟩ := isi_tys ic e2 q2
    cases d with
    | ty u =>
      cases (show v = .ty u.nm from q1)
      exact ⟨.type u.nm :: us, .cons (.ty _) p, kitAny_cons (ic u) (fun _ => h) fun z => (by cases z), .cons rfl w⟩
    | _ => cases e1
theorem tyx_ins {Z H : Hp} (hK : X.K = c.K) (hz : Same Z H) {d : D} {ki : Nat} {x : V} (e : insD d = some ki) (q : Vw c Z H d x) : ∃ C, c.cls.lookup ki = some C ∧ TyX X.K H x (.ref C) ∧ IsC X.K c.cls ki C := by
  cases d with
  | ins k fs =>
    cases e
    obtain ⟨a, C, dx, gs, rfl, hC, s1, r1, ok⟩ := q
    have I := c.isc _ (mem_of_lookup hC)
    rw [← hK] at I
    exact ⟨C, hC, .base (.ins (hz _ _ s1) I.cl I.at_ I.gt I.tk I.mr), I⟩
  | _ => cases e
theorem isi_ins {Z H : Hp} {pins : List (Addr × Obj)} {σ : L2.St} {s : Shared} {us : List Value} {Q : VK} {x y : V} {dx dc : D} {ki : Nat} {b : Bool} (hK : X.K = c.K) (hz : Same Z H) (I : Inv X pins σ H s) (r : Vals [x, y] us) (ek : insD dx = some ki)
    (e0 : (match dc with
    | .ty _ => some false
    | .cl j => some (j == ki)
    | .tup cs => if cs.all isTyD = true then some false else none
    | _ => none) = some b) (vx : Vw c Z H dx x) (vc : Vw c Z H dc y) (k : ∀ (v : V) (H' : Hp), NewR c Z H (.d (.bl b)) v H' → Q v H') : wpAny (model X.prog X.w) X.A (call (.builtin "isinstance") us) (EP X pins σ Q) X.xe s := by
  obtain ⟨C, hC, ty, ic⟩ := tyx_ins hK hz ek vx
  split at e0
  · rename_i u
    cases e0
    exact call_isi pins s σ H _ us Q I r ⟨x, y, _, .type u.nm, _, rfl, by rw [show y = .ty u.nm from vc]; exact .ty _, ty, ic.tb u, k _ _ (.inl ⟨_, rfl, rfl, rfl⟩)⟩
  · rename_i j
    cases e0
    obtain ⟨D, hD, rfl⟩ := vc
    exact call_isi pins s σ H _ us Q I r ⟨x, _, _, .ref D, _, rfl, .own D, ty, ic.cc _ (mem_of_lookup hD), k _ _ (.inl ⟨_, rfl, rfl, rfl⟩)⟩
  · rename_i cs
    split at e0
    · rename_i hty
      cases e0
      obtain ⟨a, vs, rfl, s1, r1⟩ := vc
      obtain ⟨ws, p, h, vv⟩ := isi_tys ic.tb hty r1
      exact call_isiT pins s σ H _ us Q I r ⟨x, a, vs, _, ws, _, rfl, hz _ _ s1, p, ty, h, k _ _ (.inl ⟨_, rfl, rfl, rfl⟩)⟩
    · cases e0
  · cases e0
theorem isi_vals {Z : Hp} {t : Ty} : ∀ {cs : List D} {vs : List V} {b : Bool}, isiAll t cs = some b → RepL c Z cs vs → ∃ us : List Value, Paired ClsV vs us ∧ PySem.W.kitAny X.K (.type t.nm) us = some b ∧ Vals vs us
  | [], vs, b, e, q => by
    cases e
    rw [show vs = [] from q]
    exact ⟨[], .nil, kitAny_nil, .nil⟩
  | d :: cs, vs, b, e, q => by
    obtain ⟨v, r, rfl, q1, q2⟩ := q
    cases d with
    | ty u =>
      unfold isiAll at e
      split at e
      · rename_i b' e'
        cases e
        obtain ⟨us, p, h, w⟩ := isi_vals e' q2
        cases (show v = .ty u.nm from q1)
        refine ⟨.type u.nm :: us, .cons (.ty _) p, ?_, .cons rfl w⟩
        refine kitAny_cons (kit_ty (kit_all t u)) (fun z => ?_) fun z => ?_
        · rw [z]; exact h
        · rw [z]; rfl
      · cases e
    | _ => simp [isiAll] at e
theorem each_of {Z : Hp} : ∀ {ds : List D} {vs : List V} {us : List Value}, RepL c Z ds vs → Vals vs us → PySem.W.EachIs (fun (u : Value) (d : D) => ∃ v, RelV v u ∧ Rep c Z d v) us ds
  | [], vs, us, q, r => by
    rw [show vs = [] from q] at r
    cases r
    exact .nil
  | d :: ds, vs, us, q, r => by
    obtain ⟨v, w, rfl, q1, q2⟩ := q
    cases r with
    | cons r1 r2 => exact .cons ⟨v, r1, q1⟩ (each_of q2 r2)
theorem of_each {Z : Hp} : ∀ {ds : List D} {us : List Value}, PySem.W.EachIs (fun (u : Value) (d : D) => ∃ v, RelV v u ∧ Rep c Z d v) us ds → ∃ vs, Vals vs us ∧ RepL c Z ds vs
  | _, _, .nil => ⟨[], .nil, rfl⟩
  | _, _, .cons ⟨v, r1, q1⟩ t => by
    obtain ⟨vs, r2, q2⟩ := of_each t
    exact ⟨v :: vs, .cons r1 r2, v, vs, rfl, q1, q2⟩
noncomputable abbrev enc (d : D) : PyData := (toPy d).getD .none
theorem toPys_map : ∀ {ds : List D} {ps : List PyData}, toPys ds = some ps → ds.map enc = ps ∧ ∀ d ∈ ds, toPy d = some (enc d)
  | [], ps, e => by cases e; exact ⟨rfl, fun _ h => by cases h⟩
  | d :: ds, ps, e => by
    cases e1 : toPy d with
    | none => simp [toPys, e1] at e
    | some p =>
      cases e2 : toPys ds with
      | none => simp [toPys, e1, e2] at e
      | some s =>
        have : ps = p :: s := by simpa [toPys, e1, e2] using e.symm
        subst this
        obtain ⟨h1, h2⟩ := toPys_map e2
        have e3 : enc d = p := by show (toPy d).getD .none = p; rw [e1]; rfl
        refine ⟨by rw [List.map_cons, h1, e3], fun x hx => ?_⟩
        rcases List.mem_cons.mp hx with z | z
        · subst z; rw [e3]; exact e1
        · exact h2 x z
theorem headed_tup {p : PyData} (h : headed p = true) : ∃ xs, p = .tuple xs := by
  unfold headed at h
  split at h
  · exact ⟨_, rfl⟩
  · cases h
theorem sorted_ok (hK : X.K = c.K) (hu : X.A.units + 16 < cLine) : CallR X (.builtin "sorted") (fun xs H Q => ∃ Z ds ys a vs, Same Z H ∧ xs = [.ref a] ∧ (H a = some (.lst vs) ∨ TupAt c.K H a vs) ∧ RepL c Z ds vs ∧ sortD ds = some ys ∧ ∀ z H', NewR c Z H (.m (.lst ys)) z H' → Q z H') := by
  intro pins s σ H xs us Q I r h
  obtain ⟨Z, ds, ys, a, vs, hz, rfl, hl, q, e, k⟩ := h
  unfold sortD at e
  split at e
  · rename_i ps ep
    split at e
    · rename_i hc
      cases e
      obtain ⟨c1, c2, c3, c4⟩ := hc
      obtain ⟨m1, m2⟩ := toPys_map ep
      rw [Vals.ref1 r]
      obtain ⟨its, rv, T, o, n, hT, ho, hcl, hd, hlen⟩ : ∃ (its : List Value), Vals vs its ∧ ∃ (T : String) (o : Obj) (n : Nat), (T = "list" ∨ T = "tuple") ∧ s.heap.get? a = some o ∧ o.cls = .type T ∧ o.data = .seq its.toArray n ∧ vs.length ≤ sizeLine := by
        rcases hl with hl | hl
        · obtain ⟨its, rv, hp, hlen⟩ := I.list (SqL.of hl)
          obtain ⟨o, ho, hcl, n, hd⟩ := hp.isList
          exact ⟨its, rv, "list", o, n, .inl rfl, ho, hcl, hd, hlen⟩
        · obtain ⟨its, rv, hp, hlen⟩ := I.tuple (by rw [hK]; exact hl.sq)
          obtain ⟨o, ho, hcl, n, hd⟩ := hp
          exact ⟨its, rv, "tuple", o, n, .inr rfl, ho, hcl, hd, hlen⟩
      have hal : PySem.W.AllAlike (ds.map enc) := by
        rw [m1]
        intro d hd d' hd'
        exact List.all_eq_true.mp (List.all_eq_true.mp c2 d hd) d' hd'
      have hk : Srt (ds.map enc) := by
        rw [m1]
        rcases c3 with c3 | c3
        · exact .inl fun d hd => headed_tup (List.all_eq_true.mp c3 d hd)
        · refine .inr fun d hd => ?_
          have := List.all_eq_true.mp c3 d hd
          unfold notTup at this
          split at this
          · cases this
          · cases this
          · rename_i n1 n2
            exact ⟨n1, fun xs z => n2 xs z⟩
      have hrd : ∀ (u : Value) (d : D), d ∈ ds → (∃ v, RelV v u ∧ Rep c Z d v) → ∃ as, Reads s.heap u (enc d) as := fun u d hd ⟨v, r1, r2⟩ => Dp.reads I _ v _ (by rw [hK]; exact Rep.dp hz d _ v (m2 d hd) r2) r1
      refine sorted_collP (β := D) (bs := ds) (enc := enc) (R := fun u d => ∃ v, RelV v u ∧ Rep c Z d v) (Pm := fun bs' => bs' = ds) (hP := fun bs' h => by rw [h]) (by rw [← sl_eq]; exact c1) (fun Q' hq => ?_) (fun h' keep v b hb rr => ?_) hal hk (fun b hb => ?_) fun s' p out epo bs' kp g o1 hp hg pm eo => ?_
      · exact coll_seq hT ho hcl hd (by rw [rv.length] at hlen; exact hlen) fun h' kp hs => hq { s with heap := h' } its ds kp hs rfl rfl (each_of q rv) rfl
      · obtain ⟨as, rd⟩ := hrd v b hb rr
        exact ⟨as, PyProof.Rows.Reads.keeps (fun {b'} {o'} => keep b' o') rd⟩
      · have := List.all_eq_true.mp c4 (enc b) (by rw [← m1]; exact List.mem_map_of_mem hb)
        have := of_decide_eq_true this
        omega
      · subst pm
        obtain ⟨ws, rw1, rw2⟩ := of_each eo
        have hl2 : ws.length ≤ sizeLine := by
          rw [rw1.length, eo.length, List.length_mergeSort, ← sl_eq]; exact c1
        have J : Inv X pins σ (upd H p (.lst ws)) { s with heap := s'.heap, gens := s'.gens, drawn := s'.drawn, toks := s'.toks } :=
          Inv.call (s := s) I (ch := []) (Un.laid kp hp (I.hok.fresh hp)) (I.hok.laid kp hp ⟨hl2, out, epo, rw1, hg⟩) (by rw [g]; exact I.bare) (fun _ z => nomatch z)
        have es : s' = { s with heap := s'.heap, gens := s'.gens, drawn := s'.drawn, toks := s'.toks } := by
          cases s'
          cases s
          cases o1
          rfl
        rw [es]
        exact ⟨.ref p, _, J, rfl, k _ _ (.inr (.inr ⟨p, ws, _, rfl, rfl, I.hok.fresh hp, rfl, rw2⟩))⟩
    · cases e
  · cases e
theorem key_rep {Z : Hp} (k : L2.Key) : Rep c Z (keyV k) (kV k) := by cases k <;> rfl
theorem keys_rep {Z : Hp} : ∀ ks : List L2.Key, RepL c Z (ks.map keyV) (ks.map kV)
  | [] => rfl
  | k :: ks => ⟨_, _, rfl, key_rep k, keys_rep ks⟩
theorem keys_repK {H Z : Hp} {a : Addr} {ys : List V} {kvs : List (L2.Key × V)} (h : KeysAre H a ys) (e : H a = some (.dK kvs)) : RepL c Z ((kvs.map (·.1)).map keyV) ys := by
  rcases h with ⟨kvs', e', rfl⟩ | ⟨kvs', e', _⟩
  · rw [e] at e'
    cases e'
    have := keys_rep (c := c) (Z := Z) (kvs.map (·.1))
    have e2 : (kvs.map (·.1)).map kV = kvs.map fun p => kV p.1 := by rw [List.map_map]; rfl
    rw [e2] at this
    exact this
  · rw [e] at e'; cases e'
theorem keys_repT {H Z : Hp} {a : Addr} {ys : List V} {kvs : List (List L2.Key × V)} (tz : TupsIn Z H) (h : KeysAre H a ys) (e : H a = some (.dT kvs)) : RepL c Z ((kvs.map (·.1)).map fun k => .tup (k.map keyV)) ys := by
  rcases h with ⟨kvs', e', _⟩ | ⟨kvs', e', p⟩
  · rw [e] at e'; cases e'
  · rw [e] at e'
    cases e'
    clear e
    induction p with
    | nil => rfl
    | cons h t ih =>
      obtain ⟨b, rfl, hb⟩ := h
      exact ⟨_, _, rfl, ⟨b, _, rfl, tz _ _ hb, keys_rep _⟩, ih⟩
noncomputable def rBlt (c : Cn) (f : Blt) : List V → Hp → VK → Prop := fun xs H Q => ∃ Z ds r, Same Z H ∧ TupsIn Z H ∧ VwL c Z H ds xs ∧ bltD f ds = some r ∧ ∀ z H', NewR c Z H r z H' → Q z H'
theorem max_fold_ge : ∀ {ns : List Int} {n : Int}, n ≤ ns.foldl max n ∧ (∀ y ∈ ns, y ≤ ns.foldl max n) ∧ (ns.foldl max n = n ∨ ns.foldl max n ∈ ns)
  | [], n => ⟨by simp, fun _ h => (nomatch h), .inl rfl⟩
  | a :: ns, n => by
    obtain ⟨h1, h2, h3⟩ := max_fold_ge (ns := ns) (n := max n a)
    rw [List.foldl_cons]
    refine ⟨by omega, fun y hy => ?_, ?_⟩
    · rcases List.mem_cons.mp hy with rfl | hy
      · omega
      · exact h2 y hy
    · rcases h3 with h3 | h3
      · rw [h3]
        rcases Int.le_total n a with q | q
        · exact .inr (by rw [Int.max_eq_right q]; exact List.mem_cons_self)
        · exact .inl (Int.max_eq_left q)
      · exact .inr (List.mem_cons_of_mem _ h3)
theorem min_fold_le : ∀ {ns : List Int} {n : Int}, ns.foldl min n ≤ n ∧ (∀ y ∈ ns, ns.foldl min n ≤ y) ∧ (ns.foldl min n = n ∨ ns.foldl min n ∈ ns)
  | [], n => ⟨by simp, fun _ h => (nomatch h), .inl rfl⟩
  | a :: ns, n => by
    obtain ⟨h1, h2, h3⟩ := min_fold_le (ns := ns) (n := min n a)
    rw [List.foldl_cons]
    refine ⟨by omega, fun y hy => ?_, ?_⟩
    · rcases List.mem_cons.mp hy with rfl | hy
      · omega
      · exact h2 y hy
    · rcases h3 with h3 | h3
      · rw [h3]
        rcases Int.le_total n a with q | q
        · exact .inl (Int.min_eq_left q)
        · exact .inr (by rw [Int.min_eq_right q]; exact List.mem_cons_self)
      · exact .inr (List.mem_cons_of_mem _ h3)
theorem max_fold {ns : List Int} {n m : Int} (h1 : m ∈ n :: ns) (h2 : ∀ y ∈ n :: ns, y ≤ m) : m = ns.foldl max n := by
  obtain ⟨q1, q2, q3⟩ := max_fold_ge (ns := ns) (n := n)
  have a : ns.foldl max n ≤ m := by
    rcases q3 with q | q
    · rw [q]; exact h2 n List.mem_cons_self
    · exact h2 _ (List.mem_cons_of_mem _ q)
  have b : m ≤ ns.foldl max n := by
    rcases List.mem_cons.mp h1 with rfl | h
    · exact q1
    · exact q2 m h
  omega
theorem min_fold {ns : List Int} {n m : Int} (h1 : m ∈ n :: ns) (h2 : ∀ y ∈ n :: ns, m ≤ y) : m = ns.foldl min n := by
  obtain ⟨q1, q2, q3⟩ := min_fold_le (ns := ns) (n := n)
  have a : m ≤ ns.foldl min n := by
    rcases q3 with q | q
    · rw [q]; exact h2 n List.mem_cons_self
    · exact h2 _ (List.mem_cons_of_mem _ q)
  have b : ns.foldl min n ≤ m := by
    rcases List.mem_cons.mp h1 with rfl | h
    · exact q1
    · exact q2 m h
  omega
/-- repr of data -/
theorem repr_ok (hK : X.K = c.K) (hg : X.A.guards = some []) (hu : X.A.units + 65 < cLine) {pins : List (Addr × Obj)} {s : Shared} {σ : L2.St} {H Z : Hp} {x : V} {us : List Value} {Q : VK} {d : D} {res : R} (hz : Same Z H) (I : Inv X pins σ H s) (r : Vals [x] us) (vx : Vw c Z H d x) (e : reprD d = some res)
    (k : ∀ z H', NewR c Z H res z H' → Q z H') : wpAny (model X.prog X.w) X.A (call (.builtin "repr") us) (EP X pins σ Q) X.xe s := by
  obtain ⟨u, rfl, rx⟩ := vals1 r
  unfold reprD at e
  split at e
  · rename_i p ep
    split at e
    · rename_i ok
      cases e
      obtain ⟨as, rd⟩ := Dp.reads I p x u (by rw [hK]; exact Vw.dp hz ep vx) rx
      have fin : ∀ (h' : Heap) (v tk : Tok), (∀ b o, s.heap.get? b = some o → h'.get? b = some o) → EP X pins σ Q (.str p.shown v) { s with heap := h', toks := tk } := fun h' v tk kp =>
        ⟨.str p.shown, H, Inv.call (s := s) I (ch := []) (Un.kept kp) (I.hok.kept kp) I.bare (fun _ z => nomatch z), ⟨v, rfl⟩, k _ _ (newd rfl)⟩
      have fin0 : ∀ (v tk : Tok), EP X pins σ Q (.str p.shown v) { s with toks := tk } := fun v tk => fin s.heap v tk fun _ _ z => z
      cases p with
      | none =>
        cases rd
        refine PySem.P.repr_of_none ?_
        have := fin0 s.toks (s.toks + 1)
        rwa [PyData.shown_none] at this
      | bool b =>
        cases rd
        refine PySem.P.repr_of_bool ?_
        have := fin0 s.toks (s.toks + 1)
        rwa [PyData.shown_bool] at this
      | int i =>
        cases rd
        have hs : decide (i.natAbs.log2 < 1920) = true := by
          unfold okR at ok
          simp only [PyData.showable, Bool.and_eq_true] at ok
          exact ok.1.1.1
        refine PySem.P.repr_of_int (of_decide_eq_true hs) ?_
        have := fin0 s.toks (s.toks + 1)
        rwa [PyData.shown_int] at this
      | str x => cases ok
      | list xs =>
        have ok' : (((PyData.list xs).showable && !(PyData.list xs).hasDict && decide ((PyData.list xs).depth ≤ 60) && decide ((PyData.list xs).shown.length ≤ SL)) = true) := ok
        simp only [Bool.and_eq_true, Bool.not_eq_true', decide_eq_true_eq] at ok'
        obtain ⟨⟨⟨o1, o2⟩, o3⟩, o4⟩ := ok'
        cases rd with
        | list h1 h2 h3 h4 =>
          exact repr_of_reads' (h₀ := s.heap) (.list h1 h2 h3 h4) o1 (fun z => by rw [o2] at z; cases z) hg (by omega) (fun _ _ z => z) fin (by rw [← sl_eq]; exact o4)
      | tuple xs =>
        have ok' : (((PyData.tuple xs).showable && !(PyData.tuple xs).hasDict && decide ((PyData.tuple xs).depth ≤ 60) && decide ((PyData.tuple xs).shown.length ≤ SL)) = true) := ok
        simp only [Bool.and_eq_true, Bool.not_eq_true', decide_eq_true_eq] at ok'
        obtain ⟨⟨⟨o1, o2⟩, o3⟩, o4⟩ := ok'
        cases rd with
        | tuple h1 h2 h3 h4 =>
          exact repr_of_reads' (h₀ := s.heap) (.tuple h1 h2 h3 h4) o1 (fun z => by rw [o2] at z; cases z) hg (by omega) (fun _ _ z => z) fin (by rw [← sl_eq]; exact o4)
      | dict kvs =>
        have ok' : (((PyData.dict kvs).showable && !(PyData.dict kvs).hasDict && decide ((PyData.dict kvs).depth ≤ 60) && decide ((PyData.dict kvs).shown.length ≤ SL)) = true) := ok
        simp [PyData.hasDict] at ok'
    · cases e
  · cases e
theorem blt_ok (hK : X.K = c.K) (hc : X.calm = true) (hu : X.A.units + 65 < cLine) (f : Blt) (hg : f = .repr → X.A.guards = some []) : CallR X f.val (rBlt c f) := by
  intro pins s σ H xs us Q I r h
  obtain ⟨Z, ds, res, hz, tz, vl, e, k⟩ := h
  have no0 : bltD f [] = none := by cases f <;> rfl
  have no3 : ∀ a b d x, bltD f (a :: b :: d :: x) = none := fun a b d x => by cases f <;> cases a <;> first | rfl | (cases b <;> rfl)
  have no2 : ∀ a b, f ≠ .isi → f ≠ .min2 → f ≠ .max2 → bltD f [a, b] = none := fun a b n1 n2 n3 => by cases f <;> first | exact absurd rfl n1 | exact absurd rfl n2 | exact absurd rfl n3 | (cases a <;> rfl)
  have no1 : ∀ a, (f = .isi ∨ f = .min2 ∨ f = .max2) → bltD f [a] = none := fun a h => by rcases h with rfl | rfl | rfl <;> first | rfl | (cases a <;> rfl)
  cases ds with
  | nil => exact nomatch no0.symm.trans e
  | cons d0 ds =>
  cases ds with
  | cons d1 ds =>
    cases ds with
    | cons d2 ds => exact nomatch (no3 _ _ _ _).symm.trans e
    | nil =>
    cases f with
    | isi =>
      have e : ((isiD d0 d1).map fun b => R.d (.bl b)) = some res := e
      obtain ⟨x, _, rfl, vx, y, _, rfl, vc, rfl⟩ := vl
      cases e0 : isiD d0 d1 with
      | none => rw [e0] at e; cases e
      | some b =>
        rw [e0] at e
        cases e
        unfold isiD at e0
        split at e0
        · rename_i ki ek
          exact isi_ins hK hz I r ek e0 vx vc fun v H' n => k v H' n
        split at e0
        · rename_i t u et
          cases e0
          exact call_isi pins s σ H _ us Q I r ⟨x, y, _, .type u.nm, _, rfl, by rw [show y = .ty u.nm from vc]; exact .ty _, tyx hK hz et vx, kit_ty (kit_all t u), k _ _ (newd rfl)⟩
        · rename_i t j et
          cases e0
          obtain ⟨C, hC, rfl⟩ := vc
          exact call_isi pins s σ H _ us Q I r ⟨x, _, _, .ref C, _, rfl, .own C, tyx hK hz et vx, by rw [hK]; exact (c.isc _ (mem_of_lookup hC)).bt t, k _ _ (newd rfl)⟩
        · rename_i t cs et
          obtain ⟨a, vs, rfl, s1, r1⟩ := vc
          obtain ⟨ws, p, h, vv⟩ := isi_vals (X := X) e0 r1
          exact call_isiT pins s σ H _ us Q I r ⟨x, a, vs, _, ws, b, rfl, hz _ _ s1, p, tyx hK hz et vx, h, k _ _ (newd rfl)⟩
        · cases e0
    | min2 =>
      cases d0 with
      | int i0 =>
        cases d1 with
        | int i1 =>
          cases e
          obtain ⟨x, _, rfl, v1, y, _, rfl, v2, rfl⟩ := vl
          exact call_min2 hc pins s σ H _ us Q I r ⟨_, _, by rw [show x = .int _ from v1, show y = .int _ from v2], k _ _ (newd rfl)⟩
        | _ => exact (noR e).elim
      | _ => exact (noR e).elim
    | max2 =>
      cases d0 with
      | int i0 =>
        cases d1 with
        | int i1 =>
          cases e
          obtain ⟨x, _, rfl, v1, y, _, rfl, v2, rfl⟩ := vl
          exact call_max2 hc pins s σ H _ us Q I r ⟨_, _, by rw [show x = .int _ from v1, show y = .int _ from v2], k _ _ (newd rfl)⟩
        | _ => exact (noR e).elim
      | _ => exact (noR e).elim
    | _ => exact nomatch (no2 _ _ (by decide) (by decide) (by decide)).symm.trans e
  | nil =>
    cases f with
    | repr =>
      obtain ⟨x, _, rfl, vx, rfl⟩ := vl
      exact repr_ok hK (hg rfl) hu hz I r vx e k
    | len =>
      cases d0 with
      | lst xs =>
        cases e
        obtain ⟨x, _, rfl, ⟨a, vs, rfl, s1, r1⟩, rfl⟩ := vl
        exact call_len_seq pins s σ H _ us Q I r ⟨a, vs, rfl, .inl (SqL.of s1), by rw [RepL.len _ vs r1]; exact k _ _ (newd rfl)⟩
      | tup xs =>
        cases e
        obtain ⟨x, _, rfl, ⟨a, vs, rfl, s1, r1⟩, rfl⟩ := vl
        exact call_len_seq pins s σ H _ us Q I r ⟨a, vs, rfl, .inr (by rw [hK]; exact (sqT_mono hz s1).sq), by rw [RepL.len _ vs r1]; exact k _ _ (newd rfl)⟩
      | scr ns =>
        cases e
        obtain ⟨x, _, rfl, ⟨a, rfl, s1⟩, rfl⟩ := vl
        exact call_len_seq pins s σ H _ us Q I r ⟨a, _, rfl, .inl (by rw [hK]; exact hz.seq s1), by rw [List.length_map]; exact k _ _ (newd rfl)⟩
      | dK ks ws =>
        cases e
        obtain ⟨x, _, rfl, ⟨a, kvs, vs, rfl, s1, _, rfl, r1⟩, rfl⟩ := vl
        have ln := RepL.len _ _ r1
        rw [List.length_map] at ln
        exact call_lenD pins s σ H _ us Q I r ⟨a, kvs, rfl, s1, by rw [ln]; exact k _ _ (newd rfl)⟩
      | dT ks ws =>
        cases e
        obtain ⟨x, _, rfl, ⟨a, kvs, vs, rfl, s1, _, rfl, r1⟩, rfl⟩ := vl
        have ln := RepL.len _ _ r1
        rw [List.length_map] at ln
        exact call_len_dT pins s σ H _ us Q I r ⟨a, kvs, rfl, s1, by rw [ln]; exact k _ _ (newd rfl)⟩
      | _ => exact (noR e).elim
    | int =>
      cases d0 with
      | int i =>
        cases e
        obtain ⟨x, _, rfl, v1, rfl⟩ := vl
        exact call_int1 pins s σ H _ us Q I r (.inl ⟨_, by rw [show x = .int _ from v1], k _ _ (newd rfl)⟩)
      | bl b =>
        cases e
        obtain ⟨x, _, rfl, v1, rfl⟩ := vl
        exact call_int1 pins s σ H _ us Q I r (.inr ⟨_, by rw [show x = .bl _ from v1], k _ _ (newd rfl)⟩)
      | _ => exact (noR e).elim
    | abs =>
      cases d0 with
      | int i =>
        cases e
        obtain ⟨x, _, rfl, v1, rfl⟩ := vl
        exact call_abs pins s σ H _ us Q I r ⟨_, by rw [show x = .int _ from v1], k _ _ (newd rfl)⟩
      | _ => exact (noR e).elim
    | tuple =>
      cases d0 with
      | lst xs =>
        cases e
        obtain ⟨x, _, rfl, ⟨a, vs, rfl, s1, r1⟩, rfl⟩ := vl
        exact call_tuple_of pins s σ H _ us Q I r ⟨a, vs, rfl, .inl ⟨SqL.of s1, fun l nl => k _ _ (.inr (.inl ⟨l, vs, _, rfl, rfl, nl, rfl, r1⟩))⟩⟩
      | tup xs =>
        cases e
        obtain ⟨x, _, rfl, ⟨a, vs, rfl, s1, r1⟩, rfl⟩ := vl
        exact call_tuple_of pins s σ H _ us Q I r ⟨a, vs, rfl, .inr ⟨by rw [hK]; exact (sqT_mono hz s1).sq, k _ _ (newd ⟨a, vs, rfl, s1, r1⟩)⟩⟩
      | _ => exact (noR e).elim
    | list =>
      cases d0 with
      | lst xs =>
        cases e
        obtain ⟨x, _, rfl, ⟨a, vs, rfl, s1, r1⟩, rfl⟩ := vl
        exact call_list_of pins s σ H _ us Q I r ⟨a, vs, rfl, .inl (SqL.of s1), fun l nl => k _ _ (.inr (.inr ⟨l, vs, _, rfl, rfl, nl, rfl, r1⟩))⟩
      | tup xs =>
        cases e
        obtain ⟨x, _, rfl, ⟨a, vs, rfl, s1, r1⟩, rfl⟩ := vl
        exact call_list_of pins s σ H _ us Q I r ⟨a, vs, rfl, .inr (by rw [hK]; exact (sqT_mono hz s1).sq), fun l nl => k _ _ (.inr (.inr ⟨l, vs, _, rfl, rfl, nl, rfl, r1⟩))⟩
      | scr ns =>
        cases e
        obtain ⟨x, _, rfl, ⟨a, rfl, s1⟩, rfl⟩ := vl
        exact call_list_of pins s σ H _ us Q I r ⟨a, _, rfl, .inl (by rw [hK]; exact hz.seq s1), fun l nl => k _ _ (.inr (.inr ⟨l, _, _, rfl, rfl, nl, rfl, RepL.ints _⟩))⟩
      | dK ks ws =>
        cases e
        obtain ⟨x, _, rfl, ⟨a, kvs, vs, rfl, s1, rfl, rfl, r1⟩, rfl⟩ := vl
        refine call_list_dict hc pins s σ H _ us Q I r ⟨a, rfl, .inl ⟨kvs, s1⟩, fun l ys ka nl => k _ _ (.inr (.inr ⟨l, ys, _, rfl, rfl, nl, rfl, ?_⟩))⟩
        exact keys_repK ka s1
      | dT ks ws =>
        cases e
        obtain ⟨x, _, rfl, ⟨a, kvs, vs, rfl, s1, rfl, rfl, r1⟩, rfl⟩ := vl
        refine call_list_dict hc pins s σ H _ us Q I r ⟨a, rfl, .inr ⟨kvs, s1⟩, fun l ys ka nl => k _ _ (.inr (.inr ⟨l, ys, _, rfl, rfl, nl, rfl, ?_⟩))⟩
        exact keys_repT tz ka s1
      | _ => exact (noR e).elim
    | sorted =>
      cases d0 with
      | lst xs =>
        have e : ((sortD xs).map fun ys => R.m (.lst ys)) = some res := e
        cases e0 : sortD xs with
        | none => rw [e0] at e; cases e
        | some ys =>
          rw [e0] at e
          cases e
          obtain ⟨x, _, rfl, ⟨a, vs, rfl, s1, r1⟩, rfl⟩ := vl
          exact sorted_ok hK (by omega) pins s σ H _ us Q I r ⟨Z, xs, ys, a, vs, hz, rfl, .inl s1, r1, e0, k⟩
      | tup xs =>
        have e : ((sortD xs).map fun ys => R.m (.lst ys)) = some res := e
        cases e0 : sortD xs with
        | none => rw [e0] at e; cases e
        | some ys =>
          rw [e0] at e
          cases e
          obtain ⟨x, _, rfl, ⟨a, vs, rfl, s1, r1⟩, rfl⟩ := vl
          exact sorted_ok hK (by omega) pins s σ H _ us Q I r ⟨Z, xs, ys, a, vs, hz, rfl, .inr (sqT_mono hz s1), r1, e0, k⟩
      | _ => exact (noR e).elim
    | all =>
      cases d0 with
      | lst xs =>
        have e : ((boolsOf xs).map fun bs => R.d (.bl (bs.all id))) = some res := e
        cases e0 : boolsOf xs with
        | none => rw [e0] at e; cases e
        | some ys =>
          rw [e0] at e
          cases e
          obtain ⟨x, _, rfl, ⟨a, vs, rfl, s1, r1⟩, rfl⟩ := vl
          rw [repBools e0 r1] at s1
          exact cr_all hc pins s σ H _ us Q I r ⟨a, ys, rfl, SqL.of s1, k _ _ (newd rfl)⟩
      | _ => exact (noR e).elim
    | any =>
      cases d0 with
      | lst xs =>
        have e : ((boolsOf xs).map fun bs => R.d (.bl (bs.any id))) = some res := e
        cases e0 : boolsOf xs with
        | none => rw [e0] at e; cases e
        | some ys =>
          rw [e0] at e
          cases e
          obtain ⟨x, _, rfl, ⟨a, vs, rfl, s1, r1⟩, rfl⟩ := vl
          rw [repBools e0 r1] at s1
          exact cr_any hc pins s σ H _ us Q I r ⟨a, ys, rfl, SqL.of s1, k _ _ (newd rfl)⟩
      | _ => exact (noR e).elim
    | sum =>
      cases d0 with
      | lst xs =>
        have e : ((intsOf xs).map fun ns => R.d (.int ns.sum)) = some res := e
        cases e0 : intsOf xs with
        | none => rw [e0] at e; cases e
        | some ys =>
          rw [e0] at e
          cases e
          obtain ⟨x, _, rfl, ⟨a, vs, rfl, s1, r1⟩, rfl⟩ := vl
          rw [repInts e0 r1] at s1
          exact cr_sum hc pins s σ H _ us Q I r ⟨a, ys, rfl, SqL.of s1, k _ _ (newd rfl)⟩
      | tup xs =>
        have e : ((intsOf xs).map fun ns => R.d (.int ns.sum)) = some res := e
        cases e0 : intsOf xs with
        | none => rw [e0] at e; cases e
        | some ys =>
          rw [e0] at e
          cases e
          obtain ⟨x, _, rfl, ⟨a, vs, rfl, s1, r1⟩, rfl⟩ := vl
          rw [repInts e0 r1] at s1
          exact cr_sumT hc pins s σ H _ us Q I r ⟨a, ys, rfl, by rw [hK]; exact (sqT_mono hz s1).sq, k _ _ (newd rfl)⟩
      | _ => exact (noR e).elim
    | max1 =>
      cases d0 with
      | lst xs =>
        cases e0 : intsOf xs with
        | none =>
          have e : (match (none : Option (List Int)) with
            | some (n :: ns) => some (R.d (.int (ns.foldl max n)))
            | _ => none) = some res := by rw [← e0]; exact e
          exact (noR e).elim
        | some zs =>
          have e : (match some zs with
            | some (n :: ns) => some (R.d (.int (ns.foldl max n)))
            | _ => none) = some res := by rw [← e0]; exact e
          cases zs with
          | nil => exact (noR e).elim
          | cons n ns =>
            have e : some (R.d (.int (ns.foldl max n))) = some res := e
            cases e
            obtain ⟨x, _, rfl, ⟨a, vs, rfl, s1, r1⟩, rfl⟩ := vl
            rw [repInts e0 r1] at s1
            refine cr_max hc pins s σ H _ us Q I r ⟨a, n :: ns, rfl, SqL.of s1, by simp, fun m h1 h2 => ?_⟩
            have : m = ns.foldl max n := max_fold h1 h2
            subst this
            exact k _ _ (newd rfl)
      | _ => exact (noR e).elim
    | min1 =>
      cases d0 with
      | lst xs =>
        cases e0 : intsOf xs with
        | none =>
          have e : (match (none : Option (List Int)) with
            | some (n :: ns) => some (R.d (.int (ns.foldl min n)))
            | _ => none) = some res := by rw [← e0]; exact e
          exact (noR e).elim
        | some zs =>
          have e : (match some zs with
            | some (n :: ns) => some (R.d (.int (ns.foldl min n)))
            | _ => none) = some res := by rw [← e0]; exact e
          cases zs with
          | nil => exact (noR e).elim
          | cons n ns =>
            have e : some (R.d (.int (ns.foldl min n))) = some res := e
            cases e
            obtain ⟨x, _, rfl, ⟨a, vs, rfl, s1, r1⟩, rfl⟩ := vl
            rw [repInts e0 r1] at s1
            refine cr_min hc pins s σ H _ us Q I r ⟨a, n :: ns, rfl, SqL.of s1, by simp, fun m h1 h2 => ?_⟩
            have : m = ns.foldl min n := min_fold h1 h2
            subst this
            exact k _ _ (newd rfl)
      | _ => exact (noR e).elim
    | isi => exact nomatch (no1 _ (.inl rfl)).symm.trans e
    | min2 => exact nomatch (no1 _ (.inr (.inl rfl))).symm.trans e
    | max2 => exact nomatch (no1 _ (.inr (.inr rfl))).symm.trans e
/-! ### methods that change a list -/
noncomputable def Bm.id : Bm → String
  | .append => "list.append" | .pop0 => "list.pop" | .popAt => "list.pop" | .extend => "list.extend"
noncomputable def rBm (c : Cn) (m : Bm) : V → List V → Hp → VK → Prop := fun x vs H Q => ∃ Z l xs ws ds d ys, x = .ref l ∧ Same Z H ∧ H l = some (.lst ws) ∧ RepL c Z xs ws ∧ RepL c Z ds vs ∧ bmD m xs ds = some (d, ys) ∧ ∀ z ws', RepL c Z ys ws' → Rep c Z d z → Q z (upd H l (.lst ws'))
theorem bm_ok (m : Bm) : MtR X m.id (rBm c m) := by
  intro pins s σ H x vs v us Q I rx rv h
  obtain ⟨Z, l, xs, ws, ds, d, ys, rfl, hz, hl, q1, q2, e, k⟩ := h
  have ln := RepL.len xs ws q1
  unfold bmD at e
  split at e
  · split at e
    · rename_i hc
      cases e
      obtain ⟨w, _, rfl, q3, rfl⟩ := q2
      exact mt_append pins s σ H _ _ v us Q I rx rv ⟨l, ws, w, rfl, rfl, hl, by rw [ln, ← sl_eq]; exact hc, k _ _ (RepL.append _ _ _ _ q1 (RepL.one q3)) rfl⟩
    · cases e
  · cases e0 : xs[xs.length - 1]? with
    | none => rw [e0] at e; cases e
    | some d0 =>
      rw [e0] at e
      cases e
      cases (show vs = [] from q2)
      obtain ⟨w, e1, q3⟩ := RepL.get xs ws _ _ q1 e0
      exact mt_pop pins s σ H _ _ v us Q I rx rv ⟨l, ws, w, rfl, rfl, hl, by rw [ln]; exact e1, k _ _ (RepL.dropLast q1) q3⟩
  · split at e
    · rename_i hc
      split at e
      · rename_i kk e1
        cases e0 : xs[kk]? with
        | none => rw [e0] at e; cases e
        | some d0 =>
          rw [e0] at e
          cases e
          obtain ⟨w, _, rfl, q3, rfl⟩ := q2
          obtain ⟨w', e2, q4⟩ := RepL.get xs ws _ _ q1 e0
          exact mt_popAt pins s σ H _ _ v us Q I rx rv ⟨l, ws, _, kk, w', rfl, by rw [show w = .int _ from q3], hl, hc.1, hc.2, by rw [ln]; exact e1, e2, k _ _ (RepL.erase _ _ _ q1) q4⟩
      · cases e
    · cases e
  · split at e
    · rename_i hc
      cases e
      obtain ⟨w, _, rfl, ⟨b, zs, rfl, s2, r2⟩, rfl⟩ := q2
      exact mt_extend pins s σ H _ _ v us Q I rx rv ⟨l, b, ws, zs, rfl, rfl, hl, hz _ _ s2, by rw [ln, RepL.len _ zs r2, ← sl_eq]; exact hc, k _ _ (RepL.append _ _ _ _ q1 r2) rfl⟩
    · cases e
  · cases e
end
end Ev

/-! Ev, part D: calls: what is handed over, what comes back. -/
namespace Ev
open PySem L2 PyProof.Rows
section
variable {c : Cn} {F Z H : Hp} {σ : L2.St} {τ : T} {A : Nat → List Addr}
/-- more is left to others -/
theorem Sta.fin (s : Sta c F Z H σ τ A) {B : List Addr} (hB : ∀ a ∈ B, Z a = none ∧ ∀ i, a ∉ A i) : Sta c (fzw F H B) Z H σ τ A := by
  refine ⟨fzw_h s.fh, s.zh, fun a o e => ?_, s.len, s.own, s.nd, s.dj, fun i a ha => ?_, s.tz, s.xx⟩
  · by_cases z : a ∈ B
    · rw [(hB a z).1] at e; cases e
    · rw [fzw_out z]; exact s.fz a o e
  · obtain ⟨h1, h2, h3⟩ := s.fr i a ha
    exact ⟨by rw [fzw_out fun z => (hB a z).2 i ha]; exact h1, h2, h3⟩
theorem Sta.fout {H0 : Hp} {B : List Addr} (s : Sta c (fzw F H0 B) Z H σ τ A) (hB : ∀ a ∈ B, F a = none ∧ H0 a ≠ none) : Sta c F Z H σ τ A ∧ ∀ a ∈ B, H a = H0 a ∧ Z a = none ∧ ∀ i, a ∉ A i := by
  have key : ∀ a ∈ B, ∃ o, H0 a = some o ∧ fzw F H0 B a = some o := fun a ha => by
    cases e : H0 a with
    | none => exact absurd e (hB a ha).2
    | some o => exact ⟨o, rfl, by rw [fzw_in ha]; exact e⟩
  refine ⟨⟨fun a o e => ?_, s.zh, fun a o e => ?_, s.len, s.own, s.nd, s.dj, fun i a ha => ?_, s.tz, s.xx⟩, fun a ha => ?_⟩
  · have : a ∉ B := fun z => by rw [(hB a z).1] at e; cases e
    exact s.fh a o (by rw [fzw_out this]; exact e)
  · by_cases z : a ∈ B
    · exact (hB a z).1
    · have := s.fz a o e
      rw [fzw_out z] at this
      exact this
  · obtain ⟨h1, h2, h3⟩ := s.fr i a ha
    refine ⟨?_, h2, h3⟩
    by_cases z : a ∈ B
    · exact (hB a z).1
    · rw [fzw_out z] at h1; exact h1
  · obtain ⟨o, e1, e2⟩ := key a ha
    refine ⟨by rw [e1]; exact s.fh a o e2, ?_, fun i z => ?_⟩
    · cases e : Z a with
      | none => rfl
      | some o' =>
        have := s.fz a o' e
        rw [e2] at this; cases this
    · have := (s.fr i a z).1
      rw [e2] at this; cases this
noncomputable def OpsW (c : Cn) (Z H : Hp) (σ : L2.St) : List R → List V → Prop
  | [], xs => xs = []
  | r :: rs, xs => ∃ x w, xs = x :: w ∧ OpW c Z H σ r x ∧ OpsW c Z H σ rs w
theorem OpsW.keep {p : Bool} {τ' : T} {H' Z' : Hp} {A' : Nat → List Addr} (h : Post c p F Z H σ τ A τ' H' Z' A') : ∀ {rs : List R} {xs : List V}, OpsW c Z H σ rs xs → (∀ r ∈ rs, r.isF = true → p = true) → OpsW c Z' H' σ rs xs
  | [], _, q, _ => q
  | r :: rs, _, q, hp => by
    obtain ⟨x, w, rfl, q1, q2⟩ := q
    exact ⟨x, w, rfl, q1.keep h (hp r (by simp)), OpsW.keep h q2 fun r' hr => hp r' (by simp [hr])⟩
/-- what a call gets, and what is left to the caller meanwhile -/
structure Hand (c : Cn) (F Z H : Hp) (σ : L2.St) (τ : T) (A : Nat → List Addr) (xs : List V) (ms : List M) (is : List (Option Nat)) (Ac : Nat → List Addr) : Prop where
  st : Sta c F Z H σ τ A
  len : ms.length = xs.length
  lis : is.length = xs.length
  own : ∀ (j : Nat) (m : M), ms[j]? = some m → ∃ x, xs[j]? = some x ∧ OR c Z H m x (Ac j)
  nd : ∀ j, (Ac j).Nodup
  dj : ∀ j k a, a ∈ Ac j → a ∈ Ac k → j = k
  da : ∀ j i a, a ∈ Ac j → a ∉ A i
  fr : ∀ j a, a ∈ Ac j → F a = none ∧ Z a = none ∧ H a ≠ none
  gv : ∀ (j i : Nat), is[j]? = some (some i) → ∃ x, xs[j]? = some x ∧ σ[i]? = some (some x) ∧ τ[i]? = some none
  inj : ∀ (j k i : Nat), is[j]? = some (some i) → is[k]? = some (some i) → j = k
theorem Hand.nil (s : Sta c F Z H σ τ A) : Hand c F Z H σ τ A [] [] [] (fun _ => []) :=
  ⟨s, rfl, rfl, fun j m e => (by simp at e), fun _ => List.nodup_nil, fun _ _ _ h _ => (by cases h), fun _ _ _ h => (by cases h), fun _ _ h => (by cases h), fun j i e => (by simp at e), fun j k i e _ => (by simp at e)⟩
/-- one more ahead: its things are kept apart while the others are handed over -/
theorem Hand.cons {m : M} {x : V} {B : List Addr} {xs : List V} {ms : List M} {is : List (Option Nat)} {Ac : Nat → List Addr} {i0 : Option Nat} (h : Hand c (fzw F H B) Z H σ τ A xs ms is Ac) (hB : ∀ a ∈ B, F a = none ∧ H a ≠ none) (nB : B.Nodup) (o : OR c Z H m x B)
    (g : ∀ i, i0 = some i → σ[i]? = some (some x) ∧ τ[i]? = some none ∧ ∀ (j : Nat), is[j]? ≠ some (some i)) : Hand c F Z H σ τ A (x :: xs) (m :: ms) (i0 :: is) (fun j => match j with | 0 => B | j + 1 => Ac j) := by
  obtain ⟨s, k⟩ := h.st.fout hB
  have ap : ∀ j a, a ∈ Ac j → a ∉ B := fun j a ha z => by
    have := (h.fr j a ha).1
    rw [fzw_in z] at this
    exact (hB a z).2 this
  refine ⟨s, by simp [h.len], by simp [h.lis], fun j n e => ?_, fun j => ?_, fun j k' a h1 h2 => ?_, fun j i a h1 h2 => ?_, fun j a h1 => ?_, fun j i e => ?_, fun j k' i e1 e2 => ?_⟩
  · cases j with
    | zero =>
      have : m = n := by simpa using e
      subst this
      exact ⟨x, rfl, o⟩
    | succ j =>
      obtain ⟨y, e1, q⟩ := h.own j n (by simpa using e)
      exact ⟨y, by simpa using e1, q⟩
  · cases j with
    | zero => exact nB
    | succ j => exact h.nd j
  · cases j with
    | zero =>
      cases k' with
      | zero => rfl
      | succ k' => exact absurd h1 (ap k' a h2)
    | succ j =>
      cases k' with
      | zero => exact absurd h2 (ap j a h1)
      | succ k' => rw [h.dj j k' a h1 h2]
  · cases j with
    | zero => exact (k a h1).2.2 i h2
    | succ j => exact h.da j i a h1 h2
  · cases j with
    | zero => exact ⟨(hB a h1).1, (k a h1).2.1, (hB a h1).2⟩
    | succ j =>
      obtain ⟨h2, h3, h4⟩ := h.fr j a h1
      refine ⟨?_, h3, h4⟩
      rw [fzw_out (ap j a h1)] at h2
      exact h2
  · cases j with
    | zero =>
      obtain ⟨g1, g2, _⟩ := g i (by simpa using e)
      exact ⟨x, rfl, g1, g2⟩
    | succ j =>
      obtain ⟨y, e1, e2⟩ := h.gv j i (by simpa using e)
      exact ⟨y, by simpa using e1, e2⟩
  · cases j with
    | zero =>
      cases k' with
      | zero => rfl
      | succ k' => exact absurd (by simpa using e2) ((g i (by simpa using e1)).2.2 k')
    | succ j =>
      cases k' with
      | zero => exact absurd (by simpa using e1) ((g i (by simpa using e2)).2.2 j)
      | succ k' => rw [h.inj j k' i (by simpa using e1) (by simpa using e2)]
/-- slots that are empty stay so while others are handed over -/
theorem esc_none {p : Bool} {o : R} {d : D} {τ' : T} {i : Nat} (h : esc p τ o = some (d, τ')) (e : τ[i]? = some none) : τ'[i]? = some none := by
  cases o with
  | d d' => cases h; exact e
  | m m => cases h; exact e
  | pl j f =>
    unfold esc at h
    simp only at h
    cases p with
    | true => simp at h
    | false =>
      rw [if_neg Bool.false_ne_true] at h
      split at h
      · rename_i m hm
        cases h
        have ne : ∀ m', slotM τ j = some m' → j ≠ i := fun m' z q => by
          subst q
          rw [slotM_some z] at e; cases e
        cases f with
        | none =>
          have := ne m hm
          unfold setP
          rw [List.getElem?_set_ne this]; exact e
        | some f =>
          obtain ⟨k, fs, e1, _⟩ := getP_field hm
          have := ne _ e1
          unfold setP
          simp only
          rw [e1]
          simp only
          rw [List.getElem?_set_ne this]; exact e
      · cases h
theorem takeA_ok {p : Bool} {io : List Nat} : ∀ {rs : List R} {k : Nat} {F Z : Hp} {τ τ' : T} {A : Nat → List Addr} {xs : List V} {ms : List M} {is : List (Option Nat)}, Sta c F Z H σ τ A → OpsW c Z H σ rs xs → takeA p io k rs τ = some (ms, is, τ') →
    ∃ Z' A' Ac, Same Z Z' ∧ Hand c F Z' H σ τ' A' xs ms is Ac ∧ (∀ (i : Nat), τ[i]? = some none → τ'[i]? = some none ∧ ∀ (j : Nat), is[j]? ≠ some (some i)) ∧ (p = true → τ' = τ ∧ A' = A ∧ (∀ j, Ac j = []) ∧ ∀ (j i : Nat), is[j]? ≠ some (some i)) ∧ (∀ (j : Nat) (m : M), ms[j]? = some m → isV m = false → io.contains (k + j) = true ∧ ∃ i, is[j]? = some (some i))
  | [], k, F, Z, τ, τ', A, xs, ms, is, s, q, h => by
    cases h
    rw [show xs = [] from q]
    exact ⟨Z, A, _, Same.refl _, Hand.nil s, fun i e => ⟨e, fun j => (by simp)⟩, fun _ => ⟨rfl, rfl, fun _ => rfl, fun j i => (by simp)⟩, fun j m e => (by simp at e)⟩
  | r :: rs, k, F, Z, τ, τ', A, xs, ms, is, s, q, h => by
    obtain ⟨x, w, rfl, q1, q2⟩ := q
    have plain : ∀ {d : D} {τ1 : T}, esc p τ r = some (d, τ1) → (takeA p io (k + 1) rs τ1).map (fun (ms, is, τ') => (M.v d :: ms, none :: is, τ')) = some (ms, is, τ') →
        ∃ Z' A' Ac, Same Z Z' ∧ Hand c F Z' H σ τ' A' (x :: w) ms is Ac ∧ (∀ (i : Nat), τ[i]? = some none → τ'[i]? = some none ∧ ∀ (j : Nat), is[j]? ≠ some (some i)) ∧ (p = true → τ' = τ ∧ A' = A ∧ (∀ j, Ac j = []) ∧ ∀ (j i : Nat), is[j]? ≠ some (some i)) ∧ (∀ (j : Nat) (m : M), ms[j]? = some m → isV m = false → io.contains (k + j) = true ∧ ∃ i, is[j]? = some (some i)) := by
      intro d τ1 e1 e2
      cases e3 : takeA p io (k + 1) rs τ1 with
      | none => rw [e3] at e2; cases e2
      | some t =>
        obtain ⟨ms1, is1, τ2⟩ := t
        rw [e3] at e2
        cases e2
        obtain ⟨Z1, A1, po, rp⟩ := esc_op s q1 e1
        have q2' : OpsW c Z1 H σ rs w := by
          have : ∀ {rs : List R} {xs : List V}, OpsW c Z H σ rs xs → OpsW c Z1 H σ rs xs := by
            intro rs
            induction rs with
            | nil => intro xs q; exact q
            | cons r rs ih =>
              intro xs q
              obtain ⟨x, w, rfl, a1, a2⟩ := q
              refine ⟨x, w, rfl, ?_, ih a2⟩
              cases r with
              | d d => exact Rep.mono po.zz d x a1
              | m m => exact a1
              | pl i f => cases f <;> exact a1
          exact this q2
        obtain ⟨Z2, A2, Ac, zz, hd, em, pu, ow⟩ := takeA_ok po.st q2' e3
        have f0 : fzw F H ([] : List Addr) = F := by funext a; exact fzw_out (by simp)
        refine ⟨Z2, A2, _, po.zz.trans zz, Hand.cons (B := []) (i0 := none) (m := .v d) (x := x) (by rw [f0]; exact hd) (fun a z => (by cases z)) List.nodup_nil ⟨rfl, Rep.mono zz d x rp⟩ (fun i z => (by cases z)), fun i e => ?_, fun hp => ?_, fun j m e hv => ?_⟩
        · obtain ⟨k1, k2⟩ := em i (esc_none e1 e)
          refine ⟨k1, fun j => ?_⟩
          cases j with
          | zero => simp
          | succ j => simpa using k2 j
        · obtain ⟨_, y2, y3⟩ := po.pu hp
          obtain ⟨k1, k2, k3, k4⟩ := pu hp
          refine ⟨k1.trans y2, k2.trans y3, fun j => ?_, fun j i => ?_⟩
          · cases j with
            | zero => rfl
            | succ j => exact k3 j
          · cases j with
            | zero => simp
            | succ j => simpa using k4 j i
        · cases j with
          | zero =>
            have : M.v d = m := by simpa using e
            subst this
            cases hv
          | succ j =>
            obtain ⟨k1, i, k2⟩ := ow j m (by simpa using e) hv
            exact ⟨by rw [show k + (j + 1) = k + 1 + j by omega]; exact k1, i, by simpa using k2⟩
    have gen : ∀ {o : R}, o = r → (match esc p τ o with | some (d, τ1) => (takeA p io (k + 1) rs τ1).map fun (ms, is, τ') => (M.v d :: ms, none :: is, τ') | none => none) = some (ms, is, τ') → ∃ Z' A' Ac, Same Z Z' ∧ Hand c F Z' H σ τ' A' (x :: w) ms is Ac ∧ (∀ (i : Nat), τ[i]? = some none → τ'[i]? = some none ∧ ∀ (j : Nat), is[j]? ≠ some (some i)) ∧ (p = true → τ' = τ ∧ A' = A ∧ (∀ j, Ac j = []) ∧ ∀ (j i : Nat), is[j]? ≠ some (some i)) ∧ (∀ (j : Nat) (m : M), ms[j]? = some m → isV m = false → io.contains (k + j) = true ∧ ∃ i, is[j]? = some (some i)) := by
      intro o eo e
      subst eo
      split at e
      · rename_i d τ1 e1
        exact plain e1 e
      · cases e
    cases r with
    | d d => exact gen rfl h
    | m m => exact gen rfl h
    | pl i f =>
      cases f with
      | some f => exact gen rfl h
      | none =>
        unfold takeA at h
        cases p with
        | true => simp at h
        | false =>
          rw [if_neg Bool.false_ne_true] at h
          split at h
          · rename_i hio
            split at h
            · rename_i m hm
              cases e3 : takeA false io (k + 1) rs (τ.set i none) with
              | none => rw [e3] at h; cases h
              | some t =>
                obtain ⟨ms1, is1, τ2⟩ := t
                rw [e3] at h
                cases h
                have hi := slotM_some hm
                obtain ⟨v, e1, o⟩ := s.own i m hi
                have q1' : σ[i]? = some (some x) := q1
                rw [q1'] at e1
                cases e1
                have s1 := (s.drop i).fin (B := A i) fun a ha => ⟨(s.fr i a ha).2.1, fun j z => by
                  by_cases e : j = i
                  · subst e; rw [put1_same] at z; cases z
                  · rw [put1_ne e] at z; exact e (s.dj j i a z ha)⟩
                obtain ⟨Z2, A2, Ac, zz, hd, em, pu, ow⟩ := takeA_ok s1 q2 e3
                have li : i < τ.length := (List.getElem?_eq_some_iff.mp hi).1
                obtain ⟨em1, em2⟩ := em i (by rw [List.getElem?_set_self li])
                refine ⟨Z2, A2, _, zz, Hand.cons (B := A i) (i0 := some i) (m := m) (x := x) hd (fun a ha => ⟨(s.fr i a ha).1, (s.fr i a ha).2.2⟩) (s.nd i) (OR.keep zz m x (A i) (fun _ _ => rfl) o) (fun j z => by cases z; exact ⟨q1', em1, em2⟩), fun j e => ?_, fun hp => (by cases hp), fun j m' e hv => ?_⟩
                · have ne : i ≠ j := fun z => by subst z; rw [hi] at e; cases e
                  obtain ⟨k1, k2⟩ := em j (by rw [List.getElem?_set_ne ne]; exact e)
                  refine ⟨k1, fun l => ?_⟩
                  cases l with
                  | zero => simpa using ne
                  | succ l => simpa using k2 l
                · cases j with
                  | zero => exact ⟨hio, i, rfl⟩
                  | succ j =>
                    obtain ⟨k1, i', k2⟩ := ow j m' (by simpa using e) hv
                    exact ⟨by rw [show k + (j + 1) = k + 1 + j by omega]; exact k1, i', by simpa using k2⟩
            · cases h
          · exact gen rfl h
open Classical in
/-- what a callee leaves as it is -/
noncomputable def Fc (Z H : Hp) (Ac : Nat → List Addr) : Hp := fun a => if (∃ o, Z a = some o) ∨ (∃ j, a ∈ Ac j) then none else H a
theorem Fc_out {Z H : Hp} {Ac : Nat → List Addr} {a : Addr} (h1 : Z a = none) (h2 : ∀ j, a ∉ Ac j) : Fc Z H Ac a = H a := if_neg fun h => by
  rcases h with ⟨o, e⟩ | ⟨j, hj⟩
  · rw [h1] at e; cases e
  · exact h2 j hj
theorem Fc_z {Z H : Hp} {Ac : Nat → List Addr} {a : Addr} {o : HO} (h : Z a = some o) : Fc Z H Ac a = none := if_pos (.inl ⟨o, h⟩)
theorem Fc_a {Z H : Hp} {Ac : Nat → List Addr} {a : Addr} {j : Nat} (h : a ∈ Ac j) : Fc Z H Ac a = none := if_pos (.inr ⟨j, h⟩)
theorem Fc_h {Z H : Hp} {Ac : Nat → List Addr} : Same (Fc Z H Ac) H := fun a o e => by
  by_cases z : (∃ o, Z a = some o) ∨ ∃ j, a ∈ Ac j
  · unfold Fc at e; rw [if_pos z] at e; cases e
  · unfold Fc at e; rw [if_neg z] at e; exact e
theorem getMap {α β : Type} {f : α → β} {l : List α} {i : Nat} {y : β} (h : (l.map f)[i]? = some y) : ∃ x, l[i]? = some x ∧ f x = y := by
  rw [List.getElem?_map] at h
  cases e : l[i]? with
  | none => rw [e] at h; cases h
  | some x => rw [e] at h; exact ⟨x, rfl, Option.some.inj h⟩
theorem Hand.callee {xs : List V} {ms : List M} {is : List (Option Nat)} {Ac : Nat → List Addr} (h : Hand c F Z H σ τ A xs ms is Ac) : Sta c (Fc Z H Ac) Z H (xs.map some) (ms.map some) Ac := by
  refine ⟨Fc_h, h.st.zh, fun a o e => Fc_z e, by simp [h.len], fun i m e => ?_, h.nd, h.dj, fun i a ha => ⟨Fc_a ha, (h.fr i a ha).2⟩, h.st.tz, h.st.xx⟩
  obtain ⟨m', e1, e2⟩ := getMap e
  cases e2
  obtain ⟨x, e3, q⟩ := h.own i m e1
  exact ⟨x, by rw [List.getElem?_map, e3]; rfl, q⟩
theorem giveA_len : ∀ (is : List (Option Nat)) (os : List M) (τ : T), (giveA is os τ).length = τ.length
  | [], _, _ => by simp [giveA]
  | some i :: is, [], τ => by simp [giveA]
  | none :: is, [], τ => by simp [giveA]
  | some i :: is, m :: os, τ => by rw [giveA, giveA_len, List.length_set]
  | none :: is, m :: os, τ => by rw [giveA, giveA_len]
theorem giveA_out {i : Nat} : ∀ (is : List (Option Nat)) (os : List M) (τ : T), (∀ (j : Nat), is[j]? ≠ some (some i)) → (giveA is os τ)[i]? = τ[i]?
  | [], _, _, _ => by simp [giveA]
  | some k :: is, [], τ, _ => by simp [giveA]
  | none :: is, [], τ, _ => by simp [giveA]
  | some k :: is, m :: os, τ, h => by
    have nk : k ≠ i := by have := h 0; simpa using this
    rw [giveA, giveA_out is os _ fun j => by simpa using h (j + 1), List.getElem?_set_ne nk]
  | none :: is, m :: os, τ, h => by rw [giveA, giveA_out is os _ fun j => by simpa using h (j + 1)]
theorem giveA_in {i : Nat} {m : M} : ∀ (is : List (Option Nat)) (os : List M) (τ : T) (j : Nat), is[j]? = some (some i) → (∀ (k : Nat), is[k]? = some (some i) → k = j) → os[j]? = some m → i < τ.length → (giveA is os τ)[i]? = some (some m)
  | [], _, _, j, h, _, _, _ => by simp at h
  | _ :: is, [], τ, j, _, _, h, _ => by simp at h
  | some k :: is, m' :: os, τ, 0, h, u, e, l => by
    have e1 : k = i := by simpa using h
    have e2 : m' = m := by simpa using e
    subst e1 e2
    rw [giveA, giveA_out is os _ fun j z => by have := u (j + 1) (by simpa using z); omega, List.getElem?_set_self l]
  | none :: is, m' :: os, τ, 0, h, u, e, l => by simp at h
  | some k :: is, m' :: os, τ, j + 1, h, u, e, l => by
    rw [giveA]
    exact giveA_in is os _ j (by simpa using h) (fun k' z => by have := u (k' + 1) (by simpa using z); omega) (by simpa using e) (by rw [List.length_set]; exact l)
  | none :: is, m' :: os, τ, j + 1, h, u, e, l => by
    rw [giveA]
    exact giveA_in is os _ j (by simpa using h) (fun k' z => by have := u (k' + 1) (by simpa using z); omega) (by simpa using e) l
theorem giveA_none : ∀ (is : List (Option Nat)) (os : List M) (τ : T), (∀ (j i : Nat), is[j]? ≠ some (some i)) → giveA is os τ = τ
  | [], _, _, _ => by simp [giveA]
  | some k :: is, [], τ, _ => by simp [giveA]
  | none :: is, [], τ, _ => by simp [giveA]
  | some k :: is, m :: os, τ, h => (h 0 k (by simp)).elim
  | none :: is, m :: os, τ, h => by rw [giveA, giveA_none is os _ fun j i => by simpa using h (j + 1) i]
open Classical in
theorem Hand.back {xs : List V} {ms os : List M} {is : List (Option Nat)} {Ac Ac2 : Nat → List Addr} {H2 Z2 : Hp} (h : Hand c F Z H σ τ A xs ms is Ac) (zz : Same Z Z2) (s : Sta c (Fc Z H Ac) Z2 H2 (xs.map some) (os.map some) Ac2) :
    ∃ A3, Sta c F Z2 H2 σ (giveA is os τ) A3 ∧ (∀ B : List Addr, (∀ a ∈ B, Fc Z H Ac a = none ∧ H2 a ≠ none) → (∀ j a, a ∈ Ac2 j → a ∉ B) → (∀ i a, a ∈ A3 i → a ∉ B) ∧ ∀ a ∈ B, F a = none) ∧
      (∀ j : Nat, (∀ (i : Nat), is[j]? ≠ some (some i)) → (∀ i a, a ∈ A3 i → a ∉ Ac2 j) ∧ ∀ a ∈ Ac2 j, F a = none) ∧ (∀ H0, Same H0 H → (∀ j a, a ∈ Ac j → H0 a = none) → (∀ (j i : Nat), is[j]? ≠ some (some i)) → Same H0 H2 ∧ giveA is os τ = τ ∧ A3 = A) := by
  have lo : os.length = xs.length := by have := s.len; simpa using this
  -- what is the caller's own or others' is as it was
  have mine : ∀ i a, a ∈ A i → Fc Z H Ac a = H a ∧ H2 a = H a ∧ Z2 a = none := fun i a ha => by
    obtain ⟨h1, h2, h3⟩ := h.st.fr i a ha
    have e := Fc_out (H := H) h2 fun j z => h.da j i a z ha
    obtain ⟨o, eo⟩ := Option.ne_none_iff_exists'.mp h3
    refine ⟨e, by rw [eo]; exact s.fh a o (by rw [e]; exact eo), ?_⟩
    cases q : Z2 a with
    | none => rfl
    | some o' =>
      have := s.fz a o' q
      rw [e, eo] at this; cases this
  have oth : ∀ a o, F a = some o → Fc Z H Ac a = some o := fun a o e => by
    have z0 : Z a = none := by
      cases q : Z a with
      | none => rfl
      | some o' =>
        have := h.st.fz a o' q
        rw [e] at this; cases this
    rw [Fc_out z0 fun j z => by have := (h.fr j a z).1; rw [e] at this; cases this]
    exact h.st.fh a o e
  have fn : ∀ a, Fc Z H Ac a = none → F a = none := fun a e => by
    cases q : F a with
    | none => rfl
    | some o => rw [oth a o q] at e; cases e
  have old : ∀ a, Fc Z H Ac a = none → ∀ i, a ∉ A i := fun a e i ha => by
    rw [(mine i a ha).1] at e
    exact (h.st.fr i a ha).2.2 e
  let A3 : Nat → List Addr := fun i => if hj : ∃ j : Nat, is[j]? = some (some i) then Ac2 (choose hj) else A i
  have A3in : ∀ (j i : Nat), is[j]? = some (some i) → A3 i = Ac2 j := fun j i e => by
    have hj : ∃ j : Nat, is[j]? = some (some i) := ⟨j, e⟩
    show (if hj : ∃ j : Nat, is[j]? = some (some i) then Ac2 (choose hj) else A i) = _
    rw [dif_pos hj, h.inj _ j i (choose_spec hj) e]
  have A3out : ∀ i : Nat, (∀ (j : Nat), is[j]? ≠ some (some i)) → A3 i = A i := fun i e => by
    show (if hj : ∃ j : Nat, is[j]? = some (some i) then Ac2 (choose hj) else A i) = _
    rw [dif_neg fun ⟨j, z⟩ => e j z]
  have cas : ∀ i : Nat, (∃ j : Nat, is[j]? = some (some i) ∧ A3 i = Ac2 j) ∨ ((∀ (j : Nat), is[j]? ≠ some (some i)) ∧ A3 i = A i) := fun i => by
    by_cases hj : ∃ j : Nat, is[j]? = some (some i)
    · obtain ⟨j, e⟩ := hj
      exact .inl ⟨j, e, A3in j i e⟩
    · exact .inr ⟨fun j z => hj ⟨j, z⟩, A3out i fun j z => hj ⟨j, z⟩⟩
  have frs : ∀ i a, a ∈ A3 i → F a = none ∧ Z2 a = none ∧ H2 a ≠ none := fun i a ha => by
    rcases cas i with ⟨j, e, ea⟩ | ⟨e, ea⟩
    · rw [ea] at ha
      obtain ⟨h1, h2, h3⟩ := s.fr j a ha
      exact ⟨fn a h1, h2, h3⟩
    · rw [ea] at ha
      obtain ⟨h1, h2, h3⟩ := h.st.fr i a ha
      obtain ⟨_, k2, k3⟩ := mine i a ha
      exact ⟨h1, k3, by rw [k2]; exact h3⟩
  refine ⟨A3, ⟨fun a o e => s.fh a o (oth a o e), s.zh, fun a o e => fn a (s.fz a o e), by rw [giveA_len]; exact h.st.len, fun i m e => ?_, fun i => ?_, fun i k a h1 h2 => ?_, frs, s.tz, s.xx⟩, fun B hB hd => ⟨fun i a ha hb => ?_, fun a ha => fn a (hB a ha).1⟩, fun j hj => ⟨fun i a ha hb => ?_, fun a ha => fn a (s.fr j a ha).1⟩, fun H0 h0 h1 h2 => ⟨fun a o e0 => ?_, giveA_none _ _ _ h2, ?_⟩⟩
  · rcases cas i with ⟨j, ej, ea⟩ | ⟨ej, ea⟩
    · obtain ⟨x, x1, x2, x3⟩ := h.gv j i ej
      have lj : j < os.length := by rw [lo]; exact (List.getElem?_eq_some_iff.mp x1).1
      have li : i < τ.length := (List.getElem?_eq_some_iff.mp x3).1
      have e0 := giveA_in is os τ j ej (fun k z => h.inj k j i z ej) (show os[j]? = some os[j] by simp) li
      rw [e0] at e
      cases e
      obtain ⟨v, e1, q⟩ := s.own j os[j] (by rw [List.getElem?_map]; simp)
      rw [List.getElem?_map, x1] at e1
      cases e1
      exact ⟨x, x2, by rw [ea]; exact q⟩
    · rw [giveA_out is os τ ej] at e
      obtain ⟨v, e1, q⟩ := h.st.own i m e
      exact ⟨v, e1, by rw [ea]; exact OR.keep zz m v (A i) (fun a ha => (mine i a ha).2.1) q⟩
  · rcases cas i with ⟨j, ej, ea⟩ | ⟨ej, ea⟩
    · rw [ea]; exact s.nd j
    · rw [ea]; exact h.st.nd i
  · rcases cas i with ⟨j, ej, ea⟩ | ⟨ej, ea⟩
    · rw [ea] at h1
      rcases cas k with ⟨j', ej', ea'⟩ | ⟨ej', ea'⟩
      · rw [ea'] at h2
        have := s.dj j j' a h1 h2
        subst this
        rw [ej] at ej'
        cases ej'
        rfl
      · rw [ea'] at h2
        exact absurd h2 (old a (s.fr j a h1).1 k)
    · rw [ea] at h1
      rcases cas k with ⟨j', ej', ea'⟩ | ⟨ej', ea'⟩
      · rw [ea'] at h2
        exact absurd h1 (old a (s.fr j' a h2).1 i)
      · rw [ea'] at h2
        exact h.st.dj i k a h1 h2
  · rcases cas i with ⟨j, ej, ea⟩ | ⟨ej, ea⟩
    · rw [ea] at ha
      exact hd j a ha hb
    · rw [ea] at ha
      exact old a (hB a hb).1 i ha
  · rcases cas i with ⟨j', ej', ea⟩ | ⟨ej', ea⟩
    · rw [ea] at ha
      have := s.dj j' j a ha hb
      subst this
      exact hj i ej'
    · rw [ea] at ha
      exact old a (s.fr j a hb).1 i ha
  · have e := h0 a o e0
    cases q : Z a with
    | some o' =>
      have := h.st.zh a o' q
      rw [e] at this
      cases this
      exact s.zh a o (zz a o q)
    | none => exact s.fh a o (by rw [Fc_out q fun j z => by rw [h1 j a z] at e0; cases e0]; exact e)
  · funext i
    exact A3out i fun j => h2 j i
/-- an error: its class at cls, its dict at d -/
noncomputable def RepX (c : Cn) (Z : Hp) (x : XD) (cls : Value) (d : Option Addr) : Prop := ∃ C, c.exc.lookup x.1 = some C ∧ cls = .ref C ∧ match d with
  | none => x.2 = []
  | some dd => ∃ gs, Z dd = some (.xd gs) ∧ RepF c Z x.2 gs
theorem RepX.mono {c : Cn} {Z Z' : Hp} (h : Same Z Z') {x : XD} {cls : Value} {d : Option Addr} (q : RepX c Z x cls d) : RepX c Z' x cls d := by
  obtain ⟨C, h1, h2, h3⟩ := q
  refine ⟨C, h1, h2, ?_⟩
  cases d with
  | none => exact h3
  | some dd =>
    obtain ⟨gs, e, r⟩ := h3
    exact ⟨gs, h _ _ e, RepF.mono h _ _ r⟩
/-- what a def promises, by its evaluation, of a value -/
noncomputable def spN (c : Cn) (cl : Caller) (f : Nat) : Sp := fun vs H Q _ => ∃ F Z args A out os, Sta c F Z H (vs.map some) (args.map some) A ∧ cl f args = some (out, os) ∧
  ∀ x H' Z' A' B, Same Z Z' → Sta c F Z' H' (vs.map some) (os.map some) A' → Res c F Z' H' (vs.map some) (os.map some) A' (.m out) x B → Q x H'
/-- .. of an error -/
noncomputable def spR (c : Cn) (cl : Caller) (f : Nat) : Sp := fun vs H _ E => ∃ F Z args A x os, Sta c F Z H (vs.map some) (args.map some) A ∧ cl.exc f args = some (x, os) ∧
  ∀ k d H' Z' A', Same Z Z' → Sta c F Z' H' (vs.map some) (os.map some) A' → RepX c Z' x k d → E k d H'
noncomputable def spC (c : Cn) (cl : Caller) (f : Nat) : Sp := fun vs H Q E => spN c cl f vs H Q E ∨ spR c cl f vs H Q E
theorem resR_ok {m : M} {x : V} {B : List Addr} (q : Res c F Z H σ τ A (.m m) x B) : Res c F Z H σ τ A (resR m) x B := by
  refine ⟨?_, q.nd, q.dj, q.fr⟩
  cases m with
  | v d => exact q.rr
  | lst _ => exact q.rr
  | dK _ _ => exact q.rr
  | dT _ _ => exact q.rr
  | ins _ _ => exact q.rr
theorem Hand.use {cl : Caller} {f : Nat} {xs : List V} {ms os : List M} {m : M} {is : List (Option Nat)} {Ac : Nat → List Addr} {Q : VK} {E : XK} (h : Hand c F Z H σ τ A xs ms is Ac) (ev : cl f ms = some (m, os))
    (k : ∀ x H' Z' A' B, Same Z Z' → Sta c F Z' H' σ (giveA is os τ) A' → Res c F Z' H' σ (giveA is os τ) A' (resR m) x B → ((∀ j, Ac j = []) → (∀ (j i : Nat), is[j]? ≠ some (some i)) → Same H H' ∧ giveA is os τ = τ ∧ A' = A) → Q x H') : spC c cl f xs H Q E := by
  refine .inl ⟨_, Z, ms, Ac, m, os, h.callee, ev, fun x H' Z' A' B zz s r => ?_⟩
  obtain ⟨A3, s3, d1, _, d3⟩ := h.back zz s
  obtain ⟨d4, d5⟩ := d1 B (fun a ha => ⟨(r.fr a ha).1, (r.fr a ha).2.2⟩) fun j a h1 h2 => r.dj j a h1 h2
  exact k x H' Z' A3 B zz s3 (resR_ok (m := m) ⟨r.rr, r.nd, d4, fun a ha => ⟨d5 a ha, (r.fr a ha).2⟩⟩) fun h1 h2 => d3 H (Same.refl _) (fun j a z => by rw [h1 j] at z; cases z) h2
theorem Hand.useR {cl : Caller} {f : Nat} {xs : List V} {ms os : List M} {y : XD} {is : List (Option Nat)} {Ac : Nat → List Addr} {Q : VK} {E : XK} (h : Hand c F Z H σ τ A xs ms is Ac) (ev : cl.exc f ms = some (y, os))
    (k : ∀ cls d H' Z' A', Same Z Z' → Sta c F Z' H' σ (giveA is os τ) A' → RepX c Z' y cls d → E cls d H') : spC c cl f xs H Q E := by
  refine .inr ⟨_, Z, ms, Ac, y, os, h.callee, ev, fun cls d H' Z' A' zz s r => ?_⟩
  obtain ⟨A3, s3, _⟩ := h.back zz s
  exact k cls d H' Z' A3 zz s3 r
theorem Hand.fin {xs : List V} {ms : List M} {is : List (Option Nat)} {Ac : Nat → List Addr} (h : Hand c F Z H σ τ A xs ms is Ac) {B : List Addr} (hB : ∀ a ∈ B, Z a = none ∧ (∀ i, a ∉ A i) ∧ ∀ j, a ∉ Ac j) : Hand c (fzw F H B) Z H σ τ A xs ms is Ac :=
  ⟨h.st.fin fun a ha => ⟨(hB a ha).1, (hB a ha).2.1⟩, h.len, h.lis, h.own, h.nd, h.dj, h.da, fun j a ha => by
    obtain ⟨h1, h2, h3⟩ := h.fr j a ha
    exact ⟨by rw [fzw_out fun z => (hB a z).2.2 j ha]; exact h1, h2, h3⟩, h.gv, h.inj⟩
theorem Hand.grow {xs : List V} {ms : List M} {is : List (Option Nat)} {Ac : Nat → List Addr} (h : Hand c F Z H σ τ A xs ms is Ac) {H' : Hp} (g : Same H H') (ht : TupsIn Z H') : Hand c F Z H' σ τ A xs ms is Ac := by
  have live : ∀ j a, a ∈ Ac j → H' a = H a := fun j a ha => by
    cases e : H a with
    | none => exact absurd e (h.fr j a ha).2.2
    | some o => exact g _ _ e
  exact ⟨h.st.grow g ht, h.len, h.lis, fun j m e => by
    obtain ⟨x, e1, q⟩ := h.own j m e
    exact ⟨x, e1, OR.keep (Same.refl _) m x (Ac j) (fun a ha => live j a ha) q⟩, h.nd, h.dj, h.da, fun j a ha => by
    obtain ⟨h1, h2, h3⟩ := h.fr j a ha
    exact ⟨h1, h2, by rw [live j a ha]; exact h3⟩, h.gv, h.inj⟩
end
end Ev

/-! Ev, part U: calls where it is known which repr is under way: none. The kit's FnOk says nothing of the guards. -/
namespace Ev
open PySem PySem.Spec L2 PyProof.Rows
/-- a def's promise, where (if r) no guard is under way -/
structure FnR (r : Bool) (P : Program) (w : World) (K : PySem.W.Frag) (mg : Str → Option Value) (base : Heap) (CX : CXT) (k : Nat) (f : Addr) (fd : FuncData) (ps : List Str) (sp : Sp) : Prop where
  len : ∀ vs H Q E, sp vs H Q E → vs.length = ps.length
  run : ∀ (A : Around) (outer : List Env) (s : Shared) (H : Hp) (args : Args) (us : List Value) (vs : List V) (Q : VK) (E : XK), (r = true → A.guards = some []) → Room k A → Env0 P w K mg base A outer s H → BindsTo s fd args (ps.zip us) → Vals vs us → sp vs H Q E →
    codeAny (model P w) A (.call (.ref f) args) (CR CX outer P w H s Q E) s
section
variable {P : Program} {w : World} {K : PySem.W.Frag} {mg : Str → Option Value} {base : Heap} {CX : CXT} {k : Nat} {f : Addr} {fd : FuncData} {ps : List Str} {sp : Sp}
theorem FnR.ok (F : FnR false P w K mg base CX k f fd ps sp) : FnOk P w K mg base CX k f fd ps sp := ⟨F.len, fun A o s H a us vs Q E => F.run A o s H a us vs Q E fun h => by cases h⟩
theorem FnR.weak {r : Bool} (F : FnR r P w K mg base CX k f fd ps sp) : FnR true P w K mg base CX k f fd ps sp := ⟨F.len, fun A o s H a us vs Q E h => F.run A o s H a us vs Q E fun _ => h rfl⟩
theorem FnR.imp {r : Bool} {sp' : Sp} (F : FnR r P w K mg base CX k f fd ps sp) (h : ∀ vs H Q E, sp' vs H Q E → sp vs H Q E) : FnR r P w K mg base CX k f fd ps sp' :=
  ⟨fun vs H Q E q => F.len vs H Q E (h _ _ _ _ q), fun A o s H a us vs Q E hg hr he hb hv q => F.run A o s H a us vs Q E hg hr he hb hv (h _ _ _ _ q)⟩
end
theorem make_guards {A : Around} {C : Addr} {us : List Value} {kw : List (Str × Value)} (h : A.guards = some []) : (A.under (.builtin "type.__call__" ⟨.ref C :: us, kw⟩)).guards = some [] := by
  simp [Around.under, Code.guards, Code.isGuard, guardIds, pushGuards, h]
section
variable {X : Cx} {CX : CXT} {k : Nat} {f C : Addr} {fd : FuncData} {ps : List Str} {sp : Sp} {ds : List Value} {E : XK} {x m : Str} {p pos apos : Pos} {e o : Expr} {es : List Expr} {ta : TE} {t : TA} {r : List V → Hp → VK → Prop}
/-- what comes back of a call, with what came ahead of it -/
theorem back_of {pins : List (Addr × Obj)} {σ : L2.St} {H H0 : Hp} {s s0 : Shared} {Q : VK} (hx : Passes CX X E) (I : Inv X pins σ H s) {res : Result} {s' : Shared} {q : Value → Shared → Prop} (hq : CR CX X.stack X.prog X.w H s Q E res s') (k : ∀ u, EP X pins σ Q u s' → q u s') :
    callEnd q X.xe res s' := by
  cases res with
  | error e => exact hx pins σ H s e s' I hq
  | ok fl =>
    cases fl with
    | ret u => exact k u (I.after hq)
    | next => exact False.elim hq
    | brk => exact False.elim hq
    | cont => exact False.elim hq
/-- a def is called -/
theorem cr_fn (F : FnR true X.prog X.w X.K X.mg X.base CX k f fd ps sp) (hg : X.A.guards = some []) (hr : Room k X.A) (hb : Binds X.K fd ps []) (hx : Passes CX X E) : CallR X (.ref f) (fun vs H Q => sp vs H Q E) := by
  intro pins s σ H vs us Q I r h
  have hl : us.length = ps.length := by rw [← r.length]; exact F.len _ _ _ _ h
  have bd := hb s us I.kIn (by simpa using hl)
  rw [List.append_nil] at bd
  exact wpAny_call (codeAny_mono (F.run X.A X.stack s H ⟨us, []⟩ us vs Q E (fun _ => hg) hr I.env0 bd r h) fun res s' hq => back_of (s0 := s) (H0 := H) hx I hq fun _ z => z)
/-- a thing of a class is made -/
theorem cr_mk (M : Mk X.K C f) (F : FnR true X.prog X.w X.K X.mg X.base CX k f fd ps sp) (hg : X.A.guards = some []) (hr : Room (k + 1) X.A) (hb : Binds X.K fd ps []) (hx : Passes CX X E) :
    CallR X (.ref C) (fun vs H Q => ∀ x dx, H x = none → H dx = none → dx ≠ x → sp (.ref x :: vs) (upd (upd H dx (.own x)) x (.ins C dx [])) (fun v H2 => v = .non ∧ Q (.ref x) H2) E) := by
  intro pins s σ H vs us Q I r h
  have hq := h (s.heap.objs.size + 1) s.heap.objs.size (I.hok.fresh (Nat.le_succ _)) (I.hok.fresh (Nat.le_refl _)) (Nat.ne_of_lt (Nat.lt_succ_self _))
  have I2 := Inv.made (C := C) I
  have r2 : Vals (V.ref (s.heap.objs.size + 1) :: vs) (Value.ref (s.heap.objs.size + 1) :: us) := .cons rfl r
  have hl : (Value.ref (s.heap.objs.size + 1) :: us).length = ps.length := by
    rw [← r2.length]; exact F.len _ _ _ _ hq
  have bd := hb _ (Value.ref (s.heap.objs.size + 1) :: us) I2.kIn (by simpa using hl)
  rw [List.append_nil] at bd
  have run := F.run _ X.stack _ _ ⟨Value.ref (s.heap.objs.size + 1) :: us, []⟩ _ _ _ E (fun _ => make_guards (C := C) (us := us) (kw := []) hg) (hr.make C us []) (I2.env0.make C us []) bd r2 hq
  refine wpAny_call (make_map (f := f) I.kIn M.makes M.init (beq_iff_eq.mp M.fn) (codeAny_mono run fun res s' z => ?_))
  cases res with
  | error e => exact hx pins σ _ _ e s' I2 z
  | ok fl =>
    cases fl with
    | ret u =>
      obtain ⟨v, H', I3, rv, ev, q3⟩ := I2.after z
      subst ev
      exact ⟨rv, ⟨V.ref (s.heap.objs.size + 1), H', I3, rfl, q3⟩⟩
    | next => exact False.elim z
    | brk => exact False.elim z
    | cont => exact False.elim z
theorem callU {T : TA} {σ : L2.St} {H : Hp} {Q : VK} (q : tCall sp [] E T σ H Q) : tCB (fun vs H Q => sp vs H Q E) T σ H Q := by
  unfold tCall at q
  unfold tCB
  simpa only [List.append_nil] using q
theorem makeU {T : TA} {σ : L2.St} {H : Hp} {Q : VK} (q : tMake C sp [] E T σ H Q) : tCB (fun vs H Q => ∀ x dx, H x = none → H dx = none → dx ≠ x → sp (.ref x :: vs) (upd (upd H dx (.own x)) x (.ins C dx [])) (fun v H2 => v = .non ∧ Q (.ref x) H2) E) T σ H Q := by
  unfold tMake at q
  unfold tCB
  simpa only [List.append_nil] using q
theorem methU {T : TA} {σ : L2.St} {H : Hp} {Q : VK} (q : tMeth C m sp [] E ta T σ H Q) : ta σ H fun x H1 => ∃ a dx fs, x = .ref a ∧ H1 a = some (.ins C dx fs) ∧ fs.lookup m = none ∧ T σ H1 fun vs H2 => sp (x :: vs) H2 Q E := by
  unfold tMeth at q
  simpa only [List.append_nil] using q
/-- x(e, ..), x a global name -/
theorem pe_nameU {u : Addr} (hc : CallR X (.ref u) r) (hg : Gl X x) (hm : X.mg x = some (.ref u)) (hk : PySem.W.keepIn X.K (.ref u) = true) (ha : PA X (e :: es) t) (hdb : (x == ("__debug__" : Str)) = false) (he : starEach (e :: es) X.env = (false, eval e X.env) :: starEach es X.env)
    (hpl : (backTo pos (starEach es X.env)).any (·.1) = false) : PE X (.Call (.Name x p) (e :: es) [] pos) (tCB r t) :=
  ⟨fun pins s σ H Q I h => wpAny_Call_Name_kw (ld_glob I hg hm (PySem.W.callWith_K (h₀ := X.base) I.ok.mod.kin hk (thn (ha.run pos pins s σ H _ I h) fun us s1 ⟨vs, H1, I1, r1, q⟩ => ⟨I1.kIn, hc pins s1 σ H1 vs us Q I1 r1 q⟩) he hpl) hdb)⟩
theorem pe_nameU0 {u : Addr} (hc : CallR X (.ref u) r) (hg : Gl X x) (hm : X.mg x = some (.ref u)) (hk : PySem.W.keepIn X.K (.ref u) = true) (hdb : (x == ("__debug__" : Str)) = false) : PE X (.Call (.Name x p) [] [] pos) (tCB r tNil) :=
  ⟨fun pins s σ H Q I h => wpAny_Call_Name_kw (ld_glob I hg hm (PySem.W.callWith_K0 I.kIn hk (hc pins s σ H [] [] Q I .nil h)) hdb)⟩
/-- o.m(e, ..), the class's def at f -/
theorem pe_attrU {pl : Sem Bool} (he : PE X o ta) (c : Cls X.K C) (hm : Meth X.K C m f) (hc : CallR X (.ref f) r) (ha : PA X (e :: es) t) (hst : starEach (e :: es) X.env = (false, eval e X.env) :: starEach es X.env) (hpl : (backTo pos (starEach es X.env)).any (·.1) = false)
    (ht : eval (.Call (.Attribute o m apos) (e :: es) [] pos) X.env = (do
      let ov ← eval o X.env
      standAt apos.atName
      let (f, first) ← holding [ov] (getMethod ov m pl)
      callWith pos f first (backTo pos (starEach (e :: es) X.env)) (backToKw pos (keywordEach [] X.env)))) :
    PE X (.Call (.Attribute o m apos) (e :: es) [] pos) (fun σ H Q => ta σ H fun x H1 => ∃ a dx fs, x = .ref a ∧ H1 a = some (.ins C dx fs) ∧ fs.lookup m = none ∧ t σ H1 fun vs H2 => r (x :: vs) H2 Q) := by
  refine ⟨fun pins s σ H Q I h => PySem.W.methodCall_KW (pl := pl) (thn (he.run pins s σ H _ I h) fun u s1 ⟨x, H1, I1, rx, a, dx, fs, ex, ea, l, q⟩ => ?_) ht⟩
  subst ex
  cases rx
  exact getmeth_ok I1 ea c hm l (PySem.W.callWith_K (first := [.ref a]) (h₀ := X.base) I.ok.mod.kin hm.kp (thn (ha.run pos pins s1 σ H1 _ I1 q) fun us s2 ⟨vs, H2, I2, r2, q2⟩ => ⟨I2.kIn, hc pins s2 σ H2 (.ref a :: vs) (.ref a :: us) Q I2 (.cons rfl r2) q2⟩) hst hpl)
theorem pe_attrU0 {pl : Sem Bool} (he : PE X o ta) (c : Cls X.K C) (hm : Meth X.K C m f) (hc : CallR X (.ref f) r)
    (ht : eval (.Call (.Attribute o m apos) [] [] pos) X.env = (do
      let ov ← eval o X.env
      standAt apos.atName
      let (f, first) ← holding [ov] (getMethod ov m pl)
      callWith pos f first (backTo pos (starEach [] X.env)) (backToKw pos (keywordEach [] X.env)))) :
    PE X (.Call (.Attribute o m apos) [] [] pos) (fun σ H Q => ta σ H fun x H1 => ∃ a dx fs, x = .ref a ∧ H1 a = some (.ins C dx fs) ∧ fs.lookup m = none ∧ r [x] H1 Q) := by
  refine ⟨fun pins s σ H Q I h => PySem.W.methodCall_KW (pl := pl) (thn (he.run pins s σ H _ I h) fun u s1 ⟨x, H1, I1, rx, a, dx, fs, ex, ea, l, q⟩ => ?_) ht⟩
  subst ex
  cases rx
  exact getmeth_ok I1 ea c hm l (PySem.W.callWith_K0 (first := [.ref a]) I1.kIn hm.kp (hc pins s1 σ H1 [.ref a] [.ref a] Q I1 (.cons rfl .nil) q))
end
section
variable {CX : CXT} {P : Program} {w : World} {K : PySem.W.Frag} {mg : Str → Option Value} {base : Heap} {k : Nat} {f : Addr} {N ps : List Str} {sp : Sp}
/-- a def's promise by its body -/
theorem fnR_of {rp : Bool} {name qual : Str} {params : Arguments} {body : List Stmt} {scope : Scope} {dV kV doc pm cdv ct oc : Value} {an od : Option Addr} {osl : Array (Option Value)}
    (lk : K.lookup f = some ⟨oc, od, .func (PySem.W.fnOf name qual params body scope dV kV doc pm an cdv ct), osl⟩) (hcd : PySem.W.codeIn K cdv qual = true) (S : FnScope N ps scope) (len : ∀ vs H Q E, sp vs H Q E → vs.length = ps.length)
    (hbody : ∀ (A : Around) (outer : List Env) (s : Shared) (H : Hp) (vs : List V) (Q : VK) (E : XK), (rp = true → A.guards = some []) → Room k (A.deeper (envOfC qual scope s.heap.objs.size f cdv)) → sp vs H Q E →
      ∃ t, PSs (cxOf CX P w K mg base N qual scope f cdv A outer s H E) body t ∧ t { nx := fun _ H' => Q .non H', rt := Q } (start N vs) H) :
    FnR rp P w K mg base CX (k + 1) f (PySem.W.fnOf name qual params body scope dV kV doc pm an cdv ct) ps sp := by
  refine ⟨len, fun A outer s H args us vs Q E hg hr e0 hb rv hsp => ?_⟩
  obtain ⟨t, ht, hq⟩ := hbody A outer s H vs Q E hg (hr.deeper _) hsp
  have here : ∀ b o, base.get? b = some o → s.heap.get? b = some o := fun b o e => (e0.bs b o e).1
  have KX : K.In s.heap := e0.mod.kin.keeps here
  have kinds : ∀ y ∈ ps.zip us, scope.names.lookup y.1 = some .local ∨ (scope.names.lookup y.1 = some .cell ∧ ((cellsFrom (s.heap.objs.size + 1) scope.names []).lookup y.1).isSome = true) := fun ⟨n, v⟩ hy =>
    (S.par n (List.of_mem_zip hy).1).imp id fun q => ⟨q, PySem.W.cellsFrom_some _ _ _ (.inl q)⟩
  refine codeAny_call_function hr.depth (KX _ _ lk) rfl S.co S.gen rfl (PySem.W.codeRec_of KX hcd) (hb _ _ _ _ (wpAny_newFunctionEnv_cells S.kind kinds fun env he s1 x => ?_))
  subst he
  have I := inv_start (CX := CX) (E := E) S hr.hd e0 (len _ _ _ _ hsp) rv x
  refine ⟨(e0.mod.nolimit.keeps here).keeps x.toInCall.keep, codeAny_func (wpAny_mono (ht.run [] s1 (start N vs) H _ I hq) (fun fl s' hs => ?_) fun _ _ hs => hs)⟩
  cases fl with
  | ret u =>
    obtain ⟨v, σ', H', J, r', q⟩ := hs
    exact ⟨v, H', J.os, J.bare, J.base, J.hok, r', q⟩
  | next =>
    obtain ⟨σ', H', J, q⟩ := hs
    exact ⟨.non, H', J.os, J.bare, J.base, J.hok, rfl, q⟩
  | brk =>
    obtain ⟨_, _, _, q⟩ := hs
    exact False.elim q
  | cont =>
    obtain ⟨_, _, _, q⟩ := hs
    exact False.elim q
theorem funRX {rp : Bool} {x qual : Str} {st : Stmt} {fd : FuncData} (F : Fun K x qual st f fd) (S : FnScope N ps (defScope st)) (len : ∀ vs H Q E, sp vs H Q E → vs.length = ps.length)
    (hbody : ∀ (cdv : Value) (A : Around) (outer : List Env) (s : Shared) (H : Hp) (vs : List V) (Q : VK) (E : XK), (rp = true → A.guards = some []) → Room k (A.deeper (envOfC qual (defScope st) s.heap.objs.size f cdv)) → sp vs H Q E →
      ∃ t, PSs (cxOf (L2.CX P w) P w K mg base N qual (defScope st) f cdv A outer s H E) (defBody st) t ∧ t { nx := fun _ H' => Q .non H', rt := Q } (start N vs) H) : FnR rp P w K mg base (L2.CX P w) (k + 1) f fd ps sp := by
  obtain ⟨oc, od, kV, doc, pm, an, cdv, ct, osl, rfl, lk, hcd⟩ := F.ex
  exact fnR_of lk hcd S len fun A outer s H vs Q E hg hr hsp => hbody cdv A outer s H vs Q E hg hr hsp
end
/-- the heap behind the top, the script alone being tracked (or being an object of the module) -/
theorem top_run {P : Program} {w : World} {K : PySem.W.Frag} {mg mb : Str → Option Value} {CX : CXT} {k : Nat} {fa a : Addr} {fd : FuncData} {x : Str} {sp : Sp} {s₁ : Shared} {vs : List Value} {H : Hp}
    (KX : K.In s₁.heap) (hns : s₁.heap.Ns mainGlobals mg) (hb : s₁.heap.Ns builtinsNs mb) (hbb : ∀ x : Str, x ≠ "__name__" → mb x = bootBuiltins x) (hlim : s₁.heap.NoLimit) (hg : s₁.gens = #[])
    (ha : s₁.heap.get? a = some { cls := .type "list", data := .seq vs.toArray }) (hr : Room k callerA) (F : ∀ base : Heap, K.In base → base.Ns mainGlobals mg → FnR true P w K mg base CX k fa fd [x] sp) (hbind : ∀ (s : Shared) (u : Value), BindsTo s fd ⟨[u], []⟩ [(x, u)])
    (hsp : sp [.ref a] H (fun v _ => v = .bl true) fun _ _ _ => False) (hCX : ∀ e s', CX [] H s₁ (fun _ _ _ => False) e s' → False) (hO : Only H) (hok : HOk P w H s₁.heap) (hA : ∀ b, H b ≠ none → b = a) (hK : H a ≠ none → K.lookup a = none) :
    codeAny (model P w) callerA (.call (.ref fa) ⟨[.ref a], []⟩) (fun r s' => r = .ok (.ret (.bool true)) ∧ OldK s₁.heap s'.heap ∧ s'.os = s₁.os ∧ AllBare s'.gens) s₁ := by
  have free : ∀ {b : Addr} {o : Obj}, s₁.heap.get? b = some o → (b = a → ∃ es ep, o.data = .dict es ep) → H b = none := fun {b o} e d => by
    refine Decidable.byContradiction fun z => ?_
    have e2 := hA b z
    obtain ⟨es, ep, d⟩ := d e2
    rw [e2, ha] at e
    cases e
    cases d
  have ns : ∀ {b : Addr} {m : Str → Option Value}, s₁.heap.Ns b m → (hidT s₁.heap H).Ns b m := fun {b m} ⟨o, es, ep, e, d, r⟩ => ⟨o, es, ep, hidT_get e (free e fun _ => ⟨es, ep, d⟩), d, r⟩
  have kin : K.In (hidT s₁.heap H) := fun b o e => hidT_get (KX b o e) (Decidable.byContradiction fun z => by
    have e2 := hA b z
    subst e2
    rw [hK z] at e
    cases e)
  have M : Mod K mg (hidT s₁.heap H) := ⟨kin, ns hns, ⟨mb, ns hb, hbb⟩, hlim.imp fun mc h => ⟨ns h.1, h.2⟩⟩
  have e0 : Env0 P w K mg (hidT s₁.heap H) callerA [] s₁ H := ⟨rfl, M, fun b o e => of_hidT e, Nat.le_of_eq (hidT_size _ _), trivial, (fun b hb => by cases hb), hok, .of_eq hg⟩
  refine codeAny_mono ((F _ kin (ns hns)).run callerA [] s₁ H ⟨[.ref a], []⟩ [.ref a] [.ref a] _ _ (fun _ => rfl) hr e0 (hbind s₁ (.ref a)) (.cons rfl .nil) hsp) fun res s' h => ?_
  cases res with
  | error e => exact (hCX e s' h).elim
  | ok fl =>
    cases fl with
    | next => exact False.elim h
    | brk => exact False.elim h
    | cont => exact False.elim h
    | ret u =>
      obtain ⟨v, H', os, bare, un, hok', r', q⟩ := h
      rw [show v = V.bl true from q] at r'
      obtain rfl : u = Value.bool true := r'
      refine ⟨rfl, OldK.of_keep fun b o e => ?_, os, bare⟩
      rcases hO b with z | ⟨ob, xs, z⟩
      · exact un.keep b o e z (fun z => by cases z) (by simp)
      · rw [(hok b _ z).1] at e
        cases e
        exact (hok' b _ (un.frzs b _ _ z)).1
theorem lawR {P : Program} {w : World} {K : PySem.W.Frag} {mg mb : Str → Option Value} {CX : CXT} {k : Nat} {fa a : Addr} {fd : FuncData} {x : Str} {sp : Sp} {s₁ : Shared} {vs : List Value} {ns : List Int}
    (KX : K.In s₁.heap) (hns : s₁.heap.Ns mainGlobals mg) (hb : s₁.heap.Ns builtinsNs mb) (hbb : ∀ x : Str, x ≠ "__name__" → mb x = bootBuiltins x) (hlim : s₁.heap.NoLimit) (hg : s₁.gens = #[])
    (ha : s₁.heap.get? a = some { cls := .type "list", data := .seq vs.toArray }) (hi : IntsAre vs ns) (hl : ns.length ≤ sizeLine) (hr : Room k callerA)
    (F : ∀ base : Heap, K.In base → base.Ns mainGlobals mg → FnR true P w K mg base CX k fa fd [x] sp) (hbind : ∀ (s : Shared) (u : Value), BindsTo s fd ⟨[u], []⟩ [(x, u)])
    (hsp : ∀ H : Hp, Only H → SqL K H a (ns.map V.int) → sp [.ref a] H (fun v _ => v = .bl true) fun _ _ _ => False)
    (hCX : ∀ H e s', CX [] H s₁ (fun _ _ _ => False) e s' → False) :
    codeAny (model P w) callerA (.call (.ref fa) ⟨[.ref a], []⟩) (fun r s' => r = .ok (.ret (.bool true)) ∧ OldK s₁.heap s'.heap ∧ s'.os = s₁.os ∧ AllBare s'.gens) s₁ := by
  have rv := vals_ints hi
  have run := fun (H : Hp) (hO : Only H) (hS : SqL K H a (ns.map V.int)) => top_run (H := H) KX hns hb hbb hlim hg ha hr F hbind (hsp H hO hS) (hCX H) hO
  cases hk : K.lookup a with
  | some o =>
    have e := KX a o hk
    rw [ha] at e
    cases e
    exact run (fun _ => none) (fun _ => .inl rfl) (.inr ⟨_, vs.toArray, _, hk, rfl, rfl, rfl, by rw [List.size_toArray, hi.length]; exact hl, by simpa using rv⟩) (fun b u z => by cases (show (none : Option HO) = some u from z)) (fun b z => absurd rfl z) fun z => absurd rfl z
  | none =>
    refine run (fun b => if b = a then some (.frz { cls := .type "list", data := .seq vs.toArray } (.lst (ns.map V.int))) else none) (fun b => ?_) (.inl (.inr ⟨{ cls := .type "list", data := .seq vs.toArray }, if_pos rfl⟩)) (fun b u z => ?_) (fun b z => ?_) fun _ => hk
    · by_cases e : b = a
      · exact .inr ⟨_, _, if_pos e⟩
      · exact .inl (if_neg e)
    · by_cases e : b = a
      · cases (if_pos e).symm.trans z
        subst e
        exact ⟨ha, by rw [List.length_map]; exact hl, vs, _, rv, ha⟩
      · cases (if_neg e).symm.trans z
    · exact Decidable.byContradiction fun e => z (if_neg e)
end Ev

/-! Ev, part E: what is walked: lists and tuples alike, ranges, enumerate, zip. -/
namespace PySem
open AutoSeq1 (wpAny_loadPart')
theorem ev_meets_enum {v : Value} {ob : Obj} {HH : Heap → Prop} (B : Begins v ob HH) :
    Meets (Builtin.«enumerate.__new__» ⟨[.type "enumerate", v], []⟩) (fun _ R s => HH s.heap ∧
      R (.ok (.ret (.ref (s.heap.push ob).objs.size))) { s with heap := (s.heap.push ob).push { cls := .type "enumerate", data := .fields #[.none, .bool false, .ref s.heap.objs.size, rawInt 0, .none, .none] } }) :=
  .of_wp fun prog w A R s hh => by
    obtain ⟨hp, gg, dd, tk, os⟩ := s
    obtain ⟨hb, hr⟩ := hh
    have hsub := sub_enumerate
    have go : ∀ {A' : Around} {E : Value → Shared → Prop} {Q : Value → Shared → Prop}, Q (.ref hp.objs.size) ⟨hp.push ob, gg, dd, tk, os⟩ → wpAny (model prog w) A' (pyIter v) Q E ⟨hp, gg, dd, tk, os⟩ :=
      fun q => B.iter prog w _ _ ⟨hp, gg, dd, tk, os⟩ _ hb q
    wp_walk using go
    refine wpAny_stack_any fun st => wpAny_pure ?_
    split
    · rename_i cc _ _ _ _ _
      cases (cc == Value.type "enumerate")
      · wp_walk using go
        exact ⟨_, rfl, hr⟩
      · wp_walk using go
        exact ⟨_, rfl, hr⟩
    · wp_walk using go
      exact ⟨_, rfl, hr⟩
theorem ev_call_enum {prog : Program} {w : World} {A : Around} {E : Value → Shared → Prop} {s : Shared} {v : Value} {ob : Obj} {HH : Heap → Prop} {Q : Value → Shared → Prop} (B : Begins v ob HH) (hb : HH s.heap)
    (k : ∀ h', IsEnum h' (s.heap.objs.size + 1) s.heap.objs.size 0 .none → h'.get? s.heap.objs.size = some ob → (∀ b o, s.heap.get? b = some o → h'.get? b = some o) → Q (.ref (s.heap.objs.size + 1)) { s with heap := h' }) :
    wpAny (model prog w) A (call (.type "enumerate") [v]) Q E s := by
  refine callType_new F.called_enumerate (by decide) (F.typeCall_enumerate_1 _) (F.newCall_enumerate_1 _) (fun obj => F.args_object_init_2 obj _) F.entry_enumerate_new (ev_meets_enum B) ⟨hb, ?_⟩
  have hz : (s.heap.push ob).objs.size = s.heap.objs.size + 1 := Heap.size_push ..
  show _ ∧ _
  rw [hz]
  have he : IsEnum ((s.heap.push ob).push { cls := .type "enumerate", data := .fields #[.none, .bool false, .ref s.heap.objs.size, rawInt 0, .none, .none] }) (s.heap.objs.size + 1) s.heap.objs.size 0 .none := by
    have q := Heap.get?_push_size (s.heap.push ob) (o := { cls := .type "enumerate", data := .fields #[.none, .bool false, .ref s.heap.objs.size, rawInt 0, .none, .none] }) rfl
    rw [hz] at q
    exact q
  exact ⟨⟨_, he, rfl⟩, k _ he (Heap.get?_push_of_some _ (Heap.get?_push_size _ B.free)) fun b o x => Heap.get?_push_of_some _ (Heap.get?_push_of_some _ x)⟩
end PySem
namespace Ev
open PySem L2 PyProof.Rows
/-- a tuple's items with their numbers, in new pairs -/
noncomputable def ItE (K : PySem.W.Frag) (a : Addr) : It :=
  ⟨fun i H => ∃ (xs : List V) (x : V), SqT K H a xs ∧ xs[i]? = some x,
   fun i H v H' => ∃ T x, v = .ref T ∧ H T = none ∧ H' = upd H T (.tup [.int (i : Nat), x]) ∧ ∀ xs, SqT K H a xs → xs[i]? = some x,
   fun i H => ∃ xs : List V, SqT K H a xs ∧ xs.length ≤ i⟩
theorem turnE {P : Program} {w : World} {K : PySem.W.Frag} {elts : List Expr} {kk : Nat} {tpos : Pos} (a e it : Addr) :
    Turn P w K (.Tuple elts kk tpos) (ItE K a) [e, it] e (fun i h => (∃ old, IsEnum h e it ((i : Nat) : Int) old) ∧ h.IsTupleIter it a i ∧ e ≠ it) where
  mem := by simp
  obj := fun i h st b hb => by
    obtain ⟨⟨old, he⟩, ⟨o, ho, hc, hd⟩, _⟩ := st
    rcases (show b = e ∨ b = it by simpa using hb) with z | z
    · subst z; exact ⟨_, he, fun v q => nomatch q⟩
    · subst z; exact ⟨o, ho, fun v q => by rw [hd] at q; cases q⟩
  keep := fun i h h' st k => by
    obtain ⟨⟨old, he⟩, hi, hne⟩ := st
    exact ⟨⟨old, k e (by simp) _ he⟩, hi.at fun o q => k it (by simp) o q, hne⟩
  item := by
    intro X hP hw hK hc i pins s σ H E I hf st hg
    subst hP hw hK
    obtain ⟨⟨old, he⟩, hit, hne⟩ := st
    obtain ⟨xs, x, hq, hx⟩ := hg
    obtain ⟨its, rv, p, hz⟩ := I.tuple hq
    obtain ⟨u, hu, ru⟩ := rv.get hx
    have hel : e < s.heap.objs.size := Heap.lt_size he
    have hil : it < s.heap.objs.size := by
      obtain ⟨_, q, _⟩ := hit
      exact Heap.lt_size q
    have nai : a ≠ it := fun z => by
      obtain ⟨o, q1, q2, _⟩ := p
      obtain ⟨o', q3, q4, _⟩ := hit
      rw [z, q3] at q1
      cases q1
      rw [q4] at q2
      injection q2 with q5
      exact absurd q5 (by decide)
    have nae : a ≠ e := fun z => by
      obtain ⟨o, q1, q2, _⟩ := p
      have he' : s.heap.get? e = _ := he
      rw [z, he'] at q1
      cases q1
      have q3 : Value.type "enumerate" = Value.type "tuple" := q2
      injection q3 with q5
      exact absurd q5 (by decide)
    refine wpAny_pyNext_enum_itemD (Draws.tuple (show X.A.in1.handled = none from I.ok.hd hc) it a nai its.toArray) he ⟨hit, p⟩ (by rw [List.size_toArray]; exact (List.getElem?_eq_some_iff.mp hu).1) hne (by simp [hne, nae.symm]) fun y h' tk hy ho hst hT hsz hk => ?_
    have ey : y = u := by
      have hy' : its.toArray[i]? = some y := hy
      rw [List.getElem?_toArray, hu] at hy'
      exact (Option.some.inj hy').symm
    subst ey
    refine ⟨_, rfl, wpAny_letOwnedTupleGo_enum (s := { s with heap := h', toks := tk + 1 }) ho fun h2 he2 sb => ?_⟩
    have hT2 : h2.get? s.heap.objs.size = some { cls := .type "tuple", data := .seq #[.int i tk, y] } := (sb.2 _ (Nat.ne_of_gt hel)).trans hT
    have new : ObjOk X.prog X.w (upd H s.heap.objs.size (.tup [.int (i : Nat), x])) h2 s.heap.objs.size (.tup [.int (i : Nat), x]) :=
      ⟨by show 2 ≤ sizeLine; decide, [.int i tk, y], .cons ⟨_, rfl⟩ (.cons ru .nil), ⟨_, hT2, rfl, _, rfl⟩⟩
    have I1 : Inv X pins σ (upd H s.heap.objs.size (.tup [.int (i : Nat), x])) { s with heap := h2, toks := tk + 1 } :=
      I.turnedNew (ch := [e, it]) (fun b ob hb q => (sb.2 b fun z => hb (by simp [z])).trans (hk b ob (fun z => hb (by simp [z])) (fun z => hb (by simp [z])) q)) hf (Nat.le_refl _) new
    refine ⟨.ref s.heap.objs.size, _, I1, rfl, ⟨_, x, rfl, I.hok.fresh (Nat.le_refl _), rfl, fun ys hy => by rw [I.tuple_inj hy hq]; exact hx⟩, ⟨⟨y, ?_⟩, hst.1.at fun o q => (sb.2 it (Ne.symm hne)).trans q, hne⟩, fun b hb => ?_⟩
    · have e1 : ((i + 1 : Nat) : Int) = (i : Int) + 1 := by omega
      rw [e1]
      exact he2
    · have hb' : b < s.heap.objs.size := by
        rcases (show b = e ∨ b = it by simpa using hb) with z | z
        · subst z; exact hel
        · subst z; exact hil
      rw [upd_ne (Nat.ne_of_lt hb')]
      exact (hf b hb).1
  done := by
    intro X hP hw hK hc i pins s σ H E I hf st hg
    subst hP hw hK
    obtain ⟨⟨old, he⟩, hit, hne⟩ := st
    obtain ⟨xs, hq, hx⟩ := hg
    obtain ⟨its, rv, p, hz⟩ := I.tuple hq
    obtain ⟨f0, f1, f2, f3, f4, f5⟩ := hf it (by simp)
    have hl := rv.length
    have nai : a ≠ it := fun z => by
      obtain ⟨o, q1, q2, _⟩ := p
      obtain ⟨o', q3, q4, _⟩ := hit
      rw [z, q3] at q1
      cases q1
      rw [q4] at q2
      injection q2 with q5
      exact absurd q5 (by decide)
    have stop : ∀ {Q : Value → Shared → Prop} {E' : Value → Shared → Prop}, (∀ h' x, Heap.ExtBut it s.heap h' → (∃ o, h'.get? x = some o ∧ o.cls = .type "StopIteration") → E' (.ref x) { s with heap := h' }) → wpAny (model X.prog X.w) X.A.in1 (Builtin.SmallTypes.nextOf (.ref it)) Q E' s := fun {Q E'} hE =>
      wpAny_nextOf_tuple_end (show X.A.in1.handled = none from I.ok.hd hc) hit (show s.heap.IsTuple a its.toArray from p) (by simp; omega) hE
    have hT : s.TypeIs (.ref e) "enumerate" := ⟨_, he, rfl⟩
    unfold pyNext
    refine wpAny_bind (wpAny_attempt (wpAny_callSpecial?_slot (name := Str.ofString "__next__") hT F.slot_enumerate_next (wpAny_call_entry F.slot_enumerate_next hT F.entry_enumerate_next ?_ (F.args_enumerate_next_1 _))))
    show wpAny _ _ (field (.ref e) 2 >>= _) _ _ _
    refine wpAny_bind (wpAny_field he rfl (x := .ref it) rfl ?_)
    refine wpAny_bind (stop fun h' x hx' ho' => ?_)
    obtain ⟨o, ho, hcl⟩ := ho'
    refine wpAny_bind (wpAny_isInstance (T := "StopIteration") (b := true) ⟨o, ho, hcl⟩ isSubtype_stop (wpAny_pure ?_))
    exact ⟨rfl, I.turned (t' := s.toks) (fun b o hb q => hx' b o hb q) f0 f1 f3 f4 f5⟩
  self := fun A i s Q E st h => by
    obtain ⟨⟨_, he⟩, _⟩ := st
    exact wpAny_pyIter_enum he h
/-! ### what is walked, as a list of values -/
noncomputable abbrev WalkD (c : Cn) (Z : Hp) (J : It) (ds : List D) : Prop := Walk J ds.length (fun H => Same Z H) (fun i H x H' => ∃ d, ds[i]? = some d ∧ NewR c Z H (.d d) x H')
section
variable {c : Cn} {Z : Hp} {a b : Addr} {K : PySem.W.Frag}
theorem wd_list {ds : List D} {vs : List V} (h : Z a = some (.lst vs)) (r : RepL c Z ds vs) : WalkD c Z (Itl K a) ds := by
  rw [WalkD, ← RepL.len ds vs r]
  exact walk_list.mono (fun H q => SqL.of (q _ _ h)) fun i H x H' hi q y => by
    obtain ⟨rfl, e⟩ := y
    obtain ⟨d, e1, q1⟩ := RepL.getV ds vs i x r e
    exact ⟨d, e1, newd q1⟩
theorem wd_tup (hK : K = c.K) {ds : List D} {vs : List V} (h : TupAt c.K Z a vs) (r : RepL c Z ds vs) : WalkD c Z (Itt K a) ds := by
  rw [WalkD, ← RepL.len ds vs r]
  exact walk_tup.mono (fun H q => by rw [hK]; exact (sqT_mono q h).sq) fun i H x H' hi q y => by
    obtain ⟨rfl, e⟩ := y
    obtain ⟨d, e1, q1⟩ := RepL.getV ds vs i x r e
    exact ⟨d, e1, newd q1⟩
theorem wd_scr (hK : K = c.K) {ns : List Int} (h : SqL c.K Z a (ns.map V.int)) : WalkD c Z (Itl K a) (ns.map D.int) := by
  have e0 : (ns.map D.int).length = (ns.map V.int).length := by simp
  rw [WalkD, e0]
  exact walk_list.mono (fun H q => by rw [hK]; exact Same.seq q h) fun i H x H' hi q y => by
    obtain ⟨rfl, e⟩ := y
    obtain ⟨d, e1, q1⟩ := RepL.getV _ _ i x (RepL.ints (c := c) (Z := Z) ns) e
    exact ⟨d, e1, newd q1⟩
theorem wd_rng (lo hi : Int) : WalkD c Z (Itr lo (hi - lo).toNat) (rngD lo hi) := by
  have e0 : (rngD lo hi).length = (hi - lo).toNat := by simp [rngD]
  rw [WalkD, e0]
  exact walk_range.mono (fun H q => trivial) fun i H x H' hl q y => by
    obtain ⟨rfl, rfl⟩ := y
    exact ⟨.int (lo + (i : Int)), by simp [rngD, hl], newd rfl⟩
theorem enumD_len : ∀ (k : Nat) (ds : List D), (enumD k ds).length = ds.length
  | _, [] => rfl
  | k, d :: ds => by rw [enumD, List.length_cons, enumD_len, List.length_cons]
theorem enumD_get : ∀ (k : Nat) (ds : List D) (i : Nat) (d : D), ds[i]? = some d → (enumD k ds)[i]? = some (.tup [.int ((k + i : Nat) : Int), d])
  | _, [], i, d, h => by simp at h
  | k, e :: ds, 0, d, h => by
    have : e = d := by simpa using h
    subst this
    simp [enumD]
  | k, e :: ds, i + 1, d, h => by
    have := enumD_get (k + 1) ds i d (by simpa using h)
    rw [enumD, List.getElem?_cons_succ, this]
    have : k + 1 + i = k + (i + 1) := by omega
    rw [this]
theorem pair_new {d e : D} {x y : V} {H : Hp} {T : Addr} (hd : Rep c Z d x) (he : Rep c Z e y) (n : H T = none) : NewR c Z H (.d (.tup [d, e])) (.ref T) (upd H T (.tup [x, y])) :=
  .inr (.inl ⟨T, [x, y], [d, e], rfl, rfl, n, rfl, x, [y], rfl, hd, y, [], rfl, he, rfl⟩)
theorem wd_enumL {ds : List D} {vs : List V} (h : Z a = some (.lst vs)) (r : RepL c Z ds vs) : WalkD c Z (Ite K a) (enumD 0 ds) := by
  rw [WalkD, enumD_len, ← RepL.len ds vs r]
  exact walk_enum.mono (fun H q => SqL.of (q _ _ h)) fun i H v H' hi q y => by
    obtain ⟨T, x, z, rfl, nT, rfl, e1, e2⟩ := y
    cases e1
    obtain ⟨d, e3, q1⟩ := RepL.getV ds vs i z r e2
    exact ⟨_, enumD_get 0 ds i d e3, pair_new (by simp [Rep]) q1 nT⟩
theorem wd_enumT (hK : K = c.K) {ds : List D} {vs : List V} (h : TupAt c.K Z a vs) (r : RepL c Z ds vs) : WalkD c Z (ItE K a) (enumD 0 ds) := by
  rw [WalkD, enumD_len, ← RepL.len ds vs r]
  refine ⟨fun i H hi q => ⟨vs, vs[i], by rw [hK]; exact (sqT_mono q h).sq, by simp⟩, fun H q => ⟨vs, by rw [hK]; exact (sqT_mono q h).sq, Nat.le_refl _⟩, fun i H v H' hi q y => ?_⟩
  obtain ⟨T, z, rfl, nT, rfl, e2⟩ := y
  obtain ⟨d, e3, q1⟩ := RepL.getV ds vs i z r (e2 vs (by rw [hK]; exact (sqT_mono q h).sq))
  exact ⟨_, enumD_get 0 ds i d e3, pair_new (by simp [Rep]) q1 nT⟩
theorem zipD_len : ∀ (xs ys : List D), (zipD xs ys).length = min xs.length ys.length
  | [], ys => by simp [zipD]
  | x :: xs, [] => by simp [zipD]
  | x :: xs, y :: ys => by rw [zipD, List.length_cons, zipD_len, List.length_cons, List.length_cons]; omega
theorem zipD_get : ∀ (xs ys : List D) (i : Nat) (x y : D), xs[i]? = some x → ys[i]? = some y → (zipD xs ys)[i]? = some (.tup [x, y])
  | [], ys, i, x, y, h, _ => by simp at h
  | x' :: xs, [], i, x, y, _, h => by simp at h
  | x' :: xs, y' :: ys, 0, x, y, h, h' => by
    have e1 : x' = x := by simpa using h
    have e2 : y' = y := by simpa using h'
    subst e1 e2
    simp [zipD]
  | x' :: xs, y' :: ys, i + 1, x, y, h, h' => by
    rw [zipD, List.getElem?_cons_succ]
    exact zipD_get xs ys i x y (by simpa using h) (by simpa using h')
theorem wd_zipL {xs ys : List D} {vs ws : List V} (h : Z a = some (.lst vs)) (h' : Z b = some (.lst ws)) (r : RepL c Z xs vs) (r' : RepL c Z ys ws) : WalkD c Z (Itz K a b) (zipD xs ys) := by
  rw [WalkD, zipD_len, ← RepL.len xs vs r, ← RepL.len ys ws r']
  exact (walk_zip rfl).mono (fun H q => ⟨SqL.of (q _ _ h), SqL.of (q _ _ h')⟩) fun i H v H' hi q y => by
    obtain ⟨T, x, z, rfl, nT, rfl, e1, e2⟩ := y
    obtain ⟨d, e3, q1⟩ := RepL.getV xs vs i x r e1
    obtain ⟨d', e4, q2⟩ := RepL.getV ys ws i z r' e2
    exact ⟨_, zipD_get xs ys i d d' e3 e4, pair_new q1 q2 nT⟩
theorem wd_zipT (hK : K = c.K) {xs ys : List D} {vs ws : List V} (h : TupAt c.K Z a vs) (h' : TupAt c.K Z b ws) (r : RepL c Z xs vs) (r' : RepL c Z ys ws) : WalkD c Z (RZ.ItzT K a b) (zipD xs ys) := by
  rw [WalkD, zipD_len, ← RepL.len xs vs r, ← RepL.len ys ws r']
  have t1 : ∀ {H : Hp}, Same Z H → SqT K H a vs := fun q => by rw [hK]; exact (sqT_mono q h).sq
  have t2 : ∀ {H : Hp}, Same Z H → SqT K H b ws := fun q => by rw [hK]; exact (sqT_mono q h').sq
  refine ⟨fun i H hi q => ?_, fun H q => ⟨vs, ws, t1 q, t2 q, by omega⟩, fun i H v H' hi q y => ?_⟩
  · have h1 : i < vs.length := by omega
    have h2 : i < ws.length := by omega
    exact ⟨vs, ws, vs[i], ws[i], t1 q, t2 q, by simp, by simp⟩
  · obtain ⟨T, x, z, rfl, nT, rfl, e1, e2⟩ := y
    obtain ⟨d, e3, q1⟩ := RepL.getV xs vs i x r (e1 vs (t1 q))
    obtain ⟨d', e4, q2⟩ := RepL.getV ys ws i z r' (e2 ws (t2 q))
    exact ⟨_, zipD_get xs ys i d d' e3 e4, pair_new q1 q2 nT⟩
end
section
variable {X : Cx} {tg e : Expr} {te : TE}
/-- a list or a tuple -/
noncomputable def iSeq (K : PySem.W.Frag) (te : TE) : TI := fun σ H R => te σ H fun x H1 => ∃ a, x = .ref a ∧ ((∃ vs, SqL K H1 a vs ∧ R (Itl K a) H1) ∨ ∃ vs, SqT K H1 a vs ∧ R (Itt K a) H1)
theorem pi_seq (he : PE X e te) : PI X tg e (iSeq X.K te) := by
  refine ⟨fun pins s σ H R I h => thn (he.run pins s σ H _ I h) fun v s1 hv => ?_⟩
  obtain ⟨x, H1, I1, r1, a, rfl, q⟩ := hv
  cases r1
  have pin : ∀ b, b ∈ [s1.heap.objs.size] → FpOk X pins H1 b := fun b hb => by
    cases List.mem_singleton.mp hb
    exact I1.fpOk (Nat.le_refl _) (I1.hok.fresh (Nat.le_refl _))
  rcases q with ⟨vs, hq, q⟩ | ⟨vs, hq, q⟩
  · obtain ⟨its, rv, p, _⟩ := I1.list hq
    exact wpAny_pyIter_list p.isList ⟨_, _, _, _, H1, rfl, I1.kept (t' := s1.toks) fun b o z => Heap.get?_push_of_some _ z, turn_list a s1.heap.objs.size, ⟨_, Heap.get?_push_size _ rfl, rfl, rfl⟩, pin, q⟩
  · obtain ⟨its, rv, p, _⟩ := I1.tuple hq
    exact wpAny_pyIter_tuple (show s1.heap.IsTuple a its.toArray from p) ⟨_, _, _, _, H1, rfl, I1.kept (t' := s1.toks) fun b o z => Heap.get?_push_of_some _ z, turn_tuple a s1.heap.objs.size, ⟨_, Heap.get?_push_size _ rfl, rfl, rfl⟩, pin, q⟩
/-- enumerate of a list or a tuple -/
noncomputable def iEnumA (K : PySem.W.Frag) (ta : TA) : TI := fun σ H R => ta σ H fun vs H1 => ∃ a, vs = [.ref a] ∧ ((∃ xs, SqL K H1 a xs ∧ R (Ite K a) H1) ∨ ∃ xs, SqT K H1 a xs ∧ R (ItE K a) H1)
theorem pi_enumA {ta : TA} {p pos tpos : Pos} {elts : List Expr} {kk : Nat} (hg : Gl X "enumerate") (hm : X.mg "enumerate" = none) (ha : PA X [e] ta) (hs : starEach [e] X.env = [(false, eval e X.env)]) :
    PI X (.Tuple elts kk tpos) (.Call (.Name "enumerate" p) [e] [] pos) (iEnumA X.K ta) := by
  refine ⟨fun pins s σ H R I h => Call_ (ld_blt I hg hm boot_enumerate (PyProof.Rows.callWith_type1 (thn (ha.run pos pins s σ H _ I h) fun us s1 hv => ?_) hs rfl))⟩
  obtain ⟨vs, H1, I1, r1, a, rfl, q⟩ := hv
  cases r1 with
  | cons r rr =>
    cases rr
    cases r
    have pin : ∀ b, b ∈ [s1.heap.objs.size + 1, s1.heap.objs.size] → FpOk X pins H1 b := fun b hb => by
      have hle : s1.heap.objs.size ≤ b := by
        rcases (show b = s1.heap.objs.size + 1 ∨ b = s1.heap.objs.size by simpa using hb) with z | z
        · rw [z]; exact Nat.le_succ _
        · rw [z]; exact Nat.le_refl _
      exact I1.fpOk hle (I1.hok.fresh hle)
    rcases q with ⟨xs, hq, q⟩ | ⟨xs, hq, q⟩
    · obtain ⟨its, rv, p', _⟩ := I1.list hq
      refine call_enumerate_list p'.isList fun h' he hit _ hk => wpAny_pyIter_enum he ?_
      exact ⟨_, _, _, _, H1, rfl, I1.kept (t' := s1.toks) hk, turn_enum a (s1.heap.objs.size + 1) s1.heap.objs.size, ⟨⟨.none, he⟩, hit, Nat.succ_ne_self _⟩, pin, q⟩
    · obtain ⟨its, rv, p', _⟩ := I1.tuple hq
      refine ev_call_enum (begins_tuple a its.toArray) (show s1.heap.IsTuple a its.toArray from p') fun h' he hit hk => wpAny_pyIter_enum he ?_
      exact ⟨_, _, _, _, H1, rfl, I1.kept (t' := s1.toks) hk, turnE a (s1.heap.objs.size + 1) s1.heap.objs.size, ⟨⟨.none, he⟩, ⟨_, hit, rfl, rfl⟩, Nat.succ_ne_self _⟩, pin, q⟩
end
end Ev

/-! Ev, part F: each form of expression keeps what its evaluation says. -/
namespace Ev
open PySem L2 PyProof.Rows

/-! ### what an evaluation promises, as a wish -/
section
variable (c : Cn) (G : GS) (cl : Caller)
noncomputable def tE (e : CE) : TE := fun σ H Q => ∃ p F Z τ A r τ', Sta c F Z H σ τ A ∧ evE G cl p e τ = some (r, τ') ∧ ∀ x H' Z' A' B, Post c p F Z H σ τ A τ' H' Z' A' → Res c F Z' H' σ τ' A' r x B → Q x H'
noncomputable def tT (t : CT) : TT := fun σ H Q => ∃ p F Z τ A b τ', Sta c F Z H σ τ A ∧ evT G cl p t τ = some (b, τ') ∧ ∀ H' Z' A', Post c p F Z H σ τ A τ' H' Z' A' → Q b H'
noncomputable def tX (es : CEs) : TA := fun σ H Q => ∃ p F Z τ A ds τ', Sta c F Z H σ τ A ∧ evX G cl p es τ = some (ds, τ') ∧ ∀ xs H' Z' A', Post c p F Z H σ τ A τ' H' Z' A' → RepL c Z' ds xs → Q xs H'
noncomputable def tL (es : CEs) : TA := fun σ H Q => ∃ p F Z τ A rs τ', Sta c F Z H σ τ A ∧ evL G cl p es τ = some (rs, τ') ∧ ∀ xs H' Z' A', Post c p F Z H σ τ A τ' H' Z' A' → OpsW c Z' H' σ rs xs → Q xs H'
noncomputable def tI (it : CI) : TI := fun σ H R => ∃ p F Z τ A ds τ', Sta c F Z H σ τ A ∧ evI G cl p it τ = some (ds, τ') ∧ ∀ J H' Z' A', Post c p F Z H σ τ A τ' H' Z' A' → WalkD c Z' J ds → R J H'
end
theorem pe_imp {X : Cx} {e : Expr} {t t' : TE} (h : PE X e t) (hi : ∀ σ H Q, t' σ H Q → t σ H Q) : PE X e t' := ⟨fun pins s σ H Q I q => h.run pins s σ H Q I (hi σ H Q q)⟩
theorem pt_imp {X : Cx} {e : Expr} {t t' : TT} (h : PT X e t) (hi : ∀ σ H Q, t' σ H Q → t σ H Q) : PT X e t' := ⟨fun pins s σ H Q I q => h.run pins s σ H Q I (hi σ H Q q)⟩
theorem pa_imp {X : Cx} {es : List Expr} {t t' : TA} (h : PA X es t) (hi : ∀ σ H Q, t' σ H Q → t σ H Q) : PA X es t' := ⟨fun pos pins s σ H Q I q => h.run pos pins s σ H Q I (hi σ H Q q)⟩
theorem pi_imp {X : Cx} {tg e : Expr} {t t' : TI} (h : PI X tg e t) (hi : ∀ σ H R, t' σ H R → t σ H R) : PI X tg e t' := ⟨fun pins s σ H Q I q => h.run pins s σ H Q I (hi σ H Q q)⟩
theorem setl_isF (r : R) : (setl r).isF = r.isF := by cases r <;> rfl
section
variable {c : Cn} {G : GS} {cl : Caller} {F Z H : Hp} {σ : L2.St} {τ τ1 τ2 τ' : T} {A : Nat → List Addr} {p : Bool}
/-- one operand -/
theorem one_op (s : Sta c F Z H σ τ A) {a : CE} {ra : R} (e1 : evE G cl p a τ = some (ra, τ1)) {R : V → Hp → Prop}
    (k : ∀ x H1 Z1 A1, Post c p F Z H σ τ A τ1 H1 Z1 A1 → OpW c Z1 H1 σ (setl ra) x → R x H1) : tE c G cl a σ H R := by
  refine ⟨p, F, Z, τ, A, ra, τ1, s, e1, fun x H1 Z1 A1 B po re => ?_⟩
  obtain ⟨Z2, po2, ow⟩ := setl_ok po.st re (p := p)
  exact k x H1 Z2 A1 (po.trans po2 id) ow
/-- two operands -/
theorem two_op (s : Sta c F Z H σ τ A) {a b : CE} {ra rb : R} (e1 : evE G cl p a τ = some (ra, τ1)) (e2 : evE G cl (p || ra.isF) b τ1 = some (rb, τ2)) {R : V → V → Hp → Prop}
    (k : ∀ x y H2 Z2 A2, Post c p F Z H σ τ A τ2 H2 Z2 A2 → OpW c Z2 H2 σ (setl ra) x → OpW c Z2 H2 σ (setl rb) y → R x y H2) : tE c G cl a σ H fun x H1 => tE c G cl b σ H1 fun y H2 => R x y H2 := by
  refine one_op s e1 fun x H1 Z1 A1 po ow => ?_
  refine one_op po.st e2 fun y H2 Z2 A2 po2 ow2 => ?_
  exact k x y H2 Z2 A2 (po.trans po2 fun z => by rw [z]; rfl) (ow.keep po2 fun z => by rw [setl_isF] at z; rw [z]; simp) ow2
theorem fin_new {r : R} {z : V} {H1 Z1 H' : Hp} {A1 : Nat → List Addr} {Q : VK} (po : Post c p F Z H σ τ A τ1 H1 Z1 A1) (n : NewR c Z1 H1 r z H')
    (k : ∀ x H' Z' A' B, Post c p F Z H σ τ A τ1 H' Z' A' → Res c F Z' H' σ τ1 A' r x B → Q x H') : Q z H' := by
  obtain ⟨Z2, B, p2, re⟩ := NewR.post po.st n (p := p)
  exact k z H' Z2 A1 B (po.trans p2 id) re
section
variable {X : Cx} {ea eb ec : Expr} {a b d : CE} {pos : Pos}
theorem s_k {e : Expr} {dd : D} {v : V} (h : PE X e (tC v)) (hr : ∀ Z, Rep c Z dd v) : PE X e (tE c G cl (.k dd)) := pe_imp h fun σ H Q q => by
  obtain ⟨p, F, Z, τ, A, r, τ', s, e, k⟩ := q
  unfold evE at e
  cases e
  exact k v H Z A [] (Post.refl s) ⟨⟨rfl, hr Z⟩, List.nodup_nil, fun _ _ _ h => (by cases h), fun _ h => by cases h⟩
theorem s_g {e : Expr} {i : Nat} {v : V} (h : PE X e (tC v)) (hr : ∀ dd, G.consts[i]? = some dd → ∀ Z, Rep c Z dd v) : PE X e (tE c G cl (.g i)) := pe_imp h fun σ H Q q => by
  obtain ⟨p, F, Z, τ, A, r, τ', s, e, k⟩ := q
  unfold evE at e
  split at e
  · rename_i dd ed
    cases e
    exact k v H Z A [] (Post.refl s) ⟨⟨rfl, hr dd ed Z⟩, List.nodup_nil, fun _ _ _ h => (by cases h), fun _ h => by cases h⟩
  · cases e
theorem s_s {e : Expr} {i : Nat} (h : PE X e (tVar i)) : PE X e (tE c G cl (.s i)) := pe_imp h fun σ H Q q => by
  obtain ⟨p, F, Z, τ, A, r, τ', s, e, k⟩ := q
  unfold evE at e
  split at e
  · rename_i dd ed
    cases e
    obtain ⟨v, e1, o⟩ := s.own i _ (slotM_some ed)
    exact ⟨v, e1, k v H Z A [] (Post.refl s) ⟨⟨rfl, o.2⟩, List.nodup_nil, fun _ _ _ h => (by cases h), fun _ h => by cases h⟩⟩
  · rename_i m nv ed
    cases e
    obtain ⟨v, e1, o⟩ := s.own i _ (slotM_some ed)
    refine ⟨v, e1, k v H Z A [] (Post.refl s) ⟨⟨rfl, e1, m, ed, ?_⟩, List.nodup_nil, fun _ _ _ h => (by cases h), fun _ h => by cases h⟩⟩
    cases m with
    | v d => exact absurd rfl (nv d)
    | _ => rfl
  · cases e
theorem s_bin (hK : X.K = c.K) {op : Operator} (ha : PE X ea (tE c G cl a)) (hb : PE X eb (tE c G cl b)) : PE X (.BinOp ea op eb pos) (tE c G cl (.bin op a b)) :=
  pe_imp (pe_op (bin_ok hK op) ha hb) fun σ H Q q => by
    obtain ⟨p, F, Z, τ, A, r, τ', s, e, k⟩ := q
    unfold evE at e
    split at e
    · cases e
    · rename_i ra τ1 e1
      split at e
      · cases e
      · rename_i rb τ2 e2
        split at e
        · rename_i x y l1 l2
          cases e3 : binD op x y with
          | none => rw [e3] at e; cases e
          | some r0 =>
            rw [e3] at e
            cases e
            exact two_op s e1 e2 fun vx vy H2 Z2 A2 po w1 w2 => ⟨Z2, x, y, r, po.st.zh, look_ok po.st w1 l1, look_ok po.st w2 l2, e3, fun z H' n => fin_new po n k⟩
        · cases e
theorem s_un {op : UnaryOp} (ha : PE X ea (tE c G cl a)) : PE X (.UnaryOp op ea pos) (tE c G cl (.un op a)) :=
  pe_imp (pe_un (un_ok (c := c) op) ha) fun σ H Q q => by
    obtain ⟨p, F, Z, τ, A, r, τ', s, e, k⟩ := q
    unfold evE at e
    split at e
    · cases e
    · rename_i ra τ1 e1
      split at e
      · rename_i x l1
        cases e3 : unD op x with
        | none => rw [e3] at e; cases e
        | some r0 =>
          rw [e3] at e
          cases e
          exact one_op s e1 fun vx H2 Z2 A2 po w1 => ⟨Z2, x, r0, po.st.zh, look_ok po.st w1 l1, e3, fun z n => fin_new po (newd n) k⟩
      · cases e
theorem s_cmp (hK : X.K = c.K) (hu : X.A.units + 65 < cLine) {op : CmpOp} (ha : PE X ea (tE c G cl a)) (hb : PE X eb (tE c G cl b)) (hm : behindInMarks op eb = false) : PE X (.Compare ea [op] [eb] pos) (tE c G cl (.cmp op a b)) :=
  pe_imp (pe_cmpR (cmp_ok hK hu op) ha hb hm) fun σ H Q q => by
    obtain ⟨p, F, Z, τ, A, r, τ', s, e, k⟩ := q
    unfold evE at e
    split at e
    · cases e
    · rename_i ra τ1 e1
      split at e
      · cases e
      · rename_i rb τ2 e2
        split at e
        · rename_i x y l1 l2
          cases e3 : cmpD op x y with
          | none => rw [e3] at e; cases e
          | some r0 =>
            rw [e3] at e
            cases e
            exact two_op s e1 e2 fun vx vy H2 Z2 A2 po w1 w2 => ⟨Z2, x, y, r0, po.st.zh, look_ok po.st w1 l1, look_ok po.st w2 l2, e3, fin_new po (newd (d := .bl r0) (z := .bl r0) (show Rep c Z2 (.bl r0) (.bl r0) by simp only [Rep])) k⟩
        · cases e
theorem t_cmp (hK : X.K = c.K) (hu : X.A.units + 65 < cLine) {op : CmpOp} (ha : PE X ea (tE c G cl a)) (hb : PE X eb (tE c G cl b)) (hm : behindInMarks op eb = false) : PT X (.Compare ea [op] [eb] pos) (tT c G cl (.e (.cmp op a b))) :=
  pt_imp (pt_cmpR (cmp_ok hK hu op) ha hb hm) fun σ H Q q => by
    obtain ⟨p, F, Z, τ, A, r, τ', s, e, k⟩ := q
    unfold evT at e
    split at e
    · rename_i b0 τ3 e0
      cases e
      unfold evE at e0
      split at e0
      · cases e0
      · rename_i ra τ1 e1
        split at e0
        · cases e0
        · rename_i rb τ2 e2
          split at e0
          · rename_i x y l1 l2
            cases e3 : cmpD op x y with
            | none => rw [e3] at e0; cases e0
            | some r0 =>
              rw [e3] at e0
              cases e0
              exact two_op s e1 e2 fun vx vy H2 Z2 A2 po w1 w2 => ⟨Z2, x, y, r, po.st.zh, look_ok po.st w1 l1, look_ok po.st w2 l2, e3, r, rfl, k H2 Z2 A2 po⟩
          · cases e0
    · cases e
/-- a chain of two comparisons, in full -/
theorem chain_use {o1 o2 : CmpOp} {r : R} (s : Sta c F Z H σ τ A) (e : evE G cl p (.chain o1 o2 a b d) τ = some (r, τ')) {Q : VK} (k : ∀ w H' Z' A', Post c p F Z H σ τ A τ' H' Z' A' → r = .d (.bl w) → Q (.bl w) H') :
    tChain (rCmp c (cmpD o1)) (rCmp c (cmpD o2)) (tE c G cl a) (tE c G cl b) (tE c G cl d) σ H Q := by
  unfold evE at e
  split at e
  · rename_i x τ1 e1
    split at e
    · rename_i y τ2 e2
      refine one_op s e1 fun vx H1 Z1 A1 po1 w1 => one_op po1.st e2 fun vy H2 Z2 A2 po2 w2 => ?_
      have w1' : Rep c Z2 x vx := Rep.mono po2.zz x vx w1
      have po := po1.trans po2 id
      split at e
      · rename_i e3
        cases e
        exact ⟨Z2, x, y, false, po.st.zh, Vw.of po.st.zh w1', Vw.of po.st.zh w2, e3, false, rfl, k _ _ _ _ po rfl⟩
      · rename_i e3
        split at e
        · rename_i z τ3 e4
          cases e5 : cmpD o2 y z with
          | none => rw [e5] at e; cases e
          | some w =>
            rw [e5] at e
            cases e
            refine ⟨Z2, x, y, true, po.st.zh, Vw.of po.st.zh w1', Vw.of po.st.zh w2, e3, true, rfl, ?_⟩
            refine one_op po2.st e4 fun vz H3 Z3 A3 po3 w3 => ?_
            have w2' : Rep c Z3 y vy := Rep.mono po3.zz y vy w2
            exact ⟨Z3, y, z, w, po3.st.zh, Vw.of po3.st.zh w2', Vw.of po3.st.zh w3, e5, k _ _ _ _ (po.trans po3 id) rfl⟩
        · cases e
      · cases e
    · cases e
  · cases e
theorem s_chain (hK : X.K = c.K) (hu : X.A.units + 65 < cLine) {o1 o2 : CmpOp} (ha : PE X ea (tE c G cl a)) (hb : PE X eb (tE c G cl b)) (hc : PE X ec (tE c G cl d)) (hm : lastMarks [o1, o2] [eb, ec] = false) : PE X (.Compare ea [o1, o2] [eb, ec] pos) (tE c G cl (.chain o1 o2 a b d)) :=
  pe_imp (pe_chain (cmp_ok hK hu o1) (cmp_ok hK hu o2) ha hb hc hm) fun σ H Q q => by
    obtain ⟨p, F, Z, τ, A, r, τ', s, e, k⟩ := q
    exact chain_use s e fun w H' Z' A' po er => fin_new po (newd (d := .bl w) (z := .bl w) (show Rep c Z' (.bl w) (.bl w) by simp only [Rep])) (er ▸ k)
theorem t_chain (hK : X.K = c.K) (hu : X.A.units + 65 < cLine) {o1 o2 : CmpOp} (ha : PE X ea (tE c G cl a)) (hb : PE X eb (tE c G cl b)) (hc : PE X ec (tE c G cl d)) (hm : lastMarks [o1, o2] [eb, ec] = false) : PT X (.Compare ea [o1, o2] [eb, ec] pos) (tT c G cl (.e (.chain o1 o2 a b d))) :=
  pt_imp (pt_chain (cmp_ok hK hu o1) (cmp_ok hK hu o2) ha hb hc hm) fun σ H Q q => by
    obtain ⟨p, F, Z, τ, A, r, τ', s, e, k⟩ := q
    unfold evT at e
    split at e
    · rename_i b0 τ3 e0
      cases e
      exact chain_use s e0 fun w H' Z' A' po er => by
        cases er
        exact ⟨_, rfl, k H' Z' A' po⟩
    · cases e
/-- a plain value as a test -/
theorem t_e {e : Expr} (ha : PE X e (tE c G cl a)) (he : ∀ whole, isTrue e X.env whole = (do let v ← whole; standAt e.pos; holding [v] (truthy v))) : PT X e (tT c G cl (.e a)) :=
  pt_imp (pt_val ha he) fun σ H Q q => by
    obtain ⟨p, F, Z, τ, A, r, τ', s, e, k⟩ := q
    unfold evT at e
    split at e
    · rename_i b0 τ3 e0
      cases e
      exact one_op s e0 fun x H1 Z1 A1 po w => ⟨r, w, k H1 Z1 A1 po⟩
    · cases e
theorem t_and {x y : Expr} {rest : List Expr} {t u : CT} (ha : PT X x (tT c G cl t)) (hb : PW X (.BoolOp .And (y :: rest) pos) (tT c G cl u)) : PW X (.BoolOp .And (x :: y :: rest) pos) (tT c G cl (.and t u)) :=
  ⟨fun wh pins s σ H Q I q => (pw_and ha hb).run wh pins s σ H Q I (by
    obtain ⟨p, F, Z, τ, A, r, τ', s, e, k⟩ := q
    unfold evT at e
    split at e
    · rename_i τ1 e1
      exact ⟨p, F, Z, τ, A, true, τ1, s, e1, fun H1 Z1 A1 po => by
        refine iteT ?_
        exact ⟨p, F, Z1, τ1, A1, r, τ', po.st, e, fun H' Z' A' po2 => k H' Z' A' (po.trans po2 id)⟩⟩
    · rename_i r0 hn
      refine ⟨p, F, Z, τ, A, r, τ', s, e, fun H1 Z1 A1 po => ?_⟩
      cases r with
      | true => exact absurd e (hn τ')
      | false =>
        refine iteF ?_
        exact k H1 Z1 A1 po)⟩
theorem t_or {x y : Expr} {rest : List Expr} {t u : CT} (ha : PT X x (tT c G cl t)) (hb : PW X (.BoolOp .Or (y :: rest) pos) (tT c G cl u)) : PW X (.BoolOp .Or (x :: y :: rest) pos) (tT c G cl (.or t u)) :=
  ⟨fun wh pins s σ H Q I q => (pw_or ha hb).run wh pins s σ H Q I (by
    obtain ⟨p, F, Z, τ, A, r, τ', s, e, k⟩ := q
    unfold evT at e
    split at e
    · rename_i τ1 e1
      exact ⟨p, F, Z, τ, A, false, τ1, s, e1, fun H1 Z1 A1 po => by
        refine iteF ?_
        exact ⟨p, F, Z1, τ1, A1, r, τ', po.st, e, fun H' Z' A' po2 => k H' Z' A' (po.trans po2 id)⟩⟩
    · rename_i r0 hn
      refine ⟨p, F, Z, τ, A, r, τ', s, e, fun H1 Z1 A1 po => ?_⟩
      cases r with
      | false => exact absurd e (hn τ')
      | true =>
        refine iteT ?_
        exact k H1 Z1 A1 po)⟩
theorem t_not {x : Expr} {t : CT} (ha : PT X x (tT c G cl t)) : PT X (.UnaryOp .Not x pos) (tT c G cl (.not t)) :=
  pt_imp (pt_not ha) fun σ H Q q => by
    obtain ⟨p, F, Z, τ, A, r, τ', s, e, k⟩ := q
    unfold evT at e
    split at e
    · rename_i b0 τ1 e1
      cases e
      exact ⟨p, F, Z, τ, A, b0, _, s, e1, k⟩
    · cases e
theorem s_and {x y : Expr} {rest : List Expr} (ha : PE X x (tE c G cl a)) (hb : PE X (.BoolOp .And (y :: rest) pos) (tE c G cl b)) : PE X (.BoolOp .And (x :: y :: rest) pos) (tE c G cl (.and a b)) :=
  pe_imp (pe_and ha hb) fun σ H Q q => by
    obtain ⟨p, F, Z, τ, A, r, τ', s, e, k⟩ := q
    unfold evE at e
    split at e
    · rename_i τ1 e1
      exact one_op s e1 fun x H1 Z1 A1 po w => ⟨true, w, by
        refine iteT ?_
        exact ⟨p, F, Z1, τ1, A1, r, τ', po.st, e, fun x H' Z' A' B po2 re => k x H' Z' A' B (po.trans po2 id) re⟩⟩
    · rename_i τ1 e1
      cases e
      exact one_op s e1 fun x H1 Z1 A1 po w => ⟨false, w, by
        refine iteF ?_
        exact fin_new po (newd (d := .bl false) (show Rep c Z1 (.bl false) (.bl false) by simp only [Rep])) k⟩
    · cases e
theorem s_or {x y : Expr} {rest : List Expr} (ha : PE X x (tE c G cl a)) (hb : PE X (.BoolOp .Or (y :: rest) pos) (tE c G cl b)) : PE X (.BoolOp .Or (x :: y :: rest) pos) (tE c G cl (.or a b)) :=
  pe_imp (pe_or ha hb) fun σ H Q q => by
    obtain ⟨p, F, Z, τ, A, r, τ', s, e, k⟩ := q
    unfold evE at e
    split at e
    · rename_i τ1 e1
      exact one_op s e1 fun x H1 Z1 A1 po w => ⟨false, w, by
        refine iteF ?_
        exact ⟨p, F, Z1, τ1, A1, r, τ', po.st, e, fun x H' Z' A' B po2 re => k x H' Z' A' B (po.trans po2 id) re⟩⟩
    · rename_i τ1 e1
      cases e
      exact one_op s e1 fun x H1 Z1 A1 po w => ⟨true, w, by
        refine iteT ?_
        exact fin_new po (newd (d := .bl true) (show Rep c Z1 (.bl true) (.bl true) by simp only [Rep])) k⟩
    · cases e
theorem s_not {x : Expr} (ha : PE X x (tE c G cl a)) : PE X (.UnaryOp .Not x pos) (tE c G cl (.not a)) :=
  pe_imp (pe_not ha) fun σ H Q q => by
    obtain ⟨p, F, Z, τ, A, r, τ', s, e, k⟩ := q
    unfold evE at e
    split at e
    · rename_i b0 τ1 e1
      cases e
      exact one_op s e1 fun x H1 Z1 A1 po w => ⟨b0, w, fin_new po (newd (d := .bl (!b0)) (show Rep c Z1 (.bl (!b0)) (.bl (!b0)) by simp only [Rep])) k⟩
    · cases e
theorem s_ife {x : Expr} {t : CT} (ht : PT X x (tT c G cl t)) (ha : PE X ea (tE c G cl a)) (hb : PE X eb (tE c G cl b)) : PE X (.IfExp x ea eb pos) (tE c G cl (.ife t a b)) :=
  pe_imp (pe_ifExp ht ha hb) fun σ H Q q => by
    obtain ⟨p, F, Z, τ, A, r, τ', s, e, k⟩ := q
    unfold evE at e
    split at e
    · rename_i τ1 e1
      exact ⟨p, F, Z, τ, A, true, τ1, s, e1, fun H1 Z1 A1 po => by
        refine iteT ?_
        exact ⟨p, F, Z1, τ1, A1, r, τ', po.st, e, fun x H' Z' A' B po2 re => k x H' Z' A' B (po.trans po2 id) re⟩⟩
    · rename_i τ1 e1
      exact ⟨p, F, Z, τ, A, false, τ1, s, e1, fun H1 Z1 A1 po => by
        refine iteF ?_
        exact ⟨p, F, Z1, τ1, A1, r, τ', po.st, e, fun x H' Z' A' B po2 re => k x H' Z' A' B (po.trans po2 id) re⟩⟩
    · cases e
theorem s_tup {es : List Expr} {ces : CEs} {k1 : Nat} (h : PA X es (tX c G cl ces)) : PE X (.Tuple es k1 pos) (tE c G cl (.tup ces)) :=
  pe_imp (pe_tup h) fun σ H Q q => by
    obtain ⟨p, F, Z, τ, A, r, τ', s, e, k⟩ := q
    unfold evE at e
    split at e
    · rename_i ds τ1 e1
      split at e
      · rename_i hl
        cases e
        exact ⟨p, F, Z, τ, A, ds, _, s, e1, fun xs H1 Z1 A1 po rl => ⟨by rw [RepL.len ds xs rl, ← sl_eq]; exact hl, fun l nl => fin_new po (.inr (.inl ⟨l, xs, ds, rfl, rfl, nl, rfl, rl⟩)) k⟩⟩
      · cases e
    · cases e
theorem s_lst {es : List Expr} {ces : CEs} (h : PA X es (tX c G cl ces)) : PE X (.List es pos) (tE c G cl (.lst ces)) :=
  pe_imp (pe_lst h) fun σ H Q q => by
    obtain ⟨p, F, Z, τ, A, r, τ', s, e, k⟩ := q
    unfold evE at e
    split at e
    · rename_i ds τ1 e1
      split at e
      · rename_i hl
        cases e
        exact ⟨p, F, Z, τ, A, ds, _, s, e1, fun xs H1 Z1 A1 po rl => ⟨by rw [RepL.len ds xs rl, ← sl_eq]; exact hl, fun l nl => fin_new po (.inr (.inr ⟨l, xs, ds, rfl, rfl, nl, rfl, rl⟩)) k⟩⟩
      · cases e
    · cases e
theorem x_nil : PA X [] (tX c G cl .nil) := pa_imp pa_nil fun σ H Q q => by
  obtain ⟨p, F, Z, τ, A, r, τ', s, e, k⟩ := q
  unfold evX at e
  cases e
  exact k [] H Z A (Post.refl s) rfl
theorem u_xcons {ces : CEs} {Q : List V → Hp → Prop} (q : tX c G cl (.cons a ces) σ H Q) : tCons (tE c G cl a) (tX c G cl ces) σ H Q := by
    obtain ⟨p, F, Z, τ, A, r, τ', s, e, k⟩ := q
    unfold evX at e
    split at e
    · cases e
    · rename_i x τ1 e1
      split at e
      · cases e
      · rename_i dd τ2 e2
        cases e3 : evX G cl p ces τ2 with
        | none => rw [e3] at e; cases e
        | some t =>
          obtain ⟨ds, τ3⟩ := t
          rw [e3] at e
          cases e
          refine ⟨p, F, Z, τ, A, x, τ1, s, e1, fun v H1 Z1 A1 B po re => ?_⟩
          obtain ⟨Z2, A2, po2, rp⟩ := esc_ok po.st re e2
          refine ⟨p, F, Z2, τ2, A2, ds, _, po2.st, e3, fun xs H3 Z3 A3 po3 rl => ?_⟩
          exact k (v :: xs) H3 Z3 A3 ((po.trans po2 id).trans po3 id) ⟨v, xs, rfl, Rep.mono po3.zz dd v rp, rl⟩
theorem x_cons {es : List Expr} {ces : CEs} (h1 : PE X ea (tE c G cl a)) (h2 : PA X es (tX c G cl ces)) (hs : starEach (ea :: es) X.env = (false, eval ea X.env) :: starEach es X.env) : PA X (ea :: es) (tX c G cl (.cons a ces)) :=
  pa_imp (pa_cons h1 h2 hs) fun σ H Q q => u_xcons q
theorem l_nil : PA X [] (tL c G cl .nil) := pa_imp pa_nil fun σ H Q q => by
  obtain ⟨p, F, Z, τ, A, r, τ', s, e, k⟩ := q
  unfold evL at e
  cases e
  exact k [] H Z A (Post.refl s) rfl
theorem l_cons {es : List Expr} {ces : CEs} (h1 : PE X ea (tE c G cl a)) (h2 : PA X es (tL c G cl ces)) (hs : starEach (ea :: es) X.env = (false, eval ea X.env) :: starEach es X.env) : PA X (ea :: es) (tL c G cl (.cons a ces)) :=
  pa_imp (pa_cons h1 h2 hs) fun σ H Q q => by
    obtain ⟨p, F, Z, τ, A, r, τ', s, e, k⟩ := q
    unfold evL at e
    split at e
    · cases e
    · rename_i x τ1 e1
      cases e3 : evL G cl (p || x.isF) ces τ1 with
      | none => rw [e3] at e; cases e
      | some t =>
        obtain ⟨rs, τ2⟩ := t
        rw [e3] at e
        cases e
        refine one_op s e1 fun v H1 Z1 A1 po w => ?_
        refine ⟨p || x.isF, F, Z1, τ1, A1, rs, _, po.st, e3, fun xs H2 Z2 A2 po2 wl => ?_⟩
        exact k (v :: xs) H2 Z2 A2 (po.trans po2 fun z => by rw [z]; rfl) ⟨v, xs, rfl, w.keep po2 (fun z => by rw [setl_isF] at z; rw [z]; simp), wl⟩
theorem looks_ok (s : Sta c F Z H σ τ A) : ∀ {rs : List R} {xs : List V} {ds : List D}, OpsW c Z H σ rs xs → rs.mapM (look τ) = some ds → VwL c Z H ds xs
  | [], xs, ds, w, h => by
    have : ds = [] := by simpa using h.symm
    subst this
    exact w
  | r :: rs, xs, ds, w, h => by
    obtain ⟨x, ws, rfl, w1, w2⟩ := w
    rw [List.mapM_cons] at h
    cases e1 : look τ r with
    | none => rw [e1] at h; cases h
    | some d =>
      rw [e1] at h
      cases e2 : rs.mapM (look τ) with
      | none =>
        have h' : (do let bs ← rs.mapM (look τ); pure (d :: bs) : Option (List D)) = some ds := h
        rw [e2] at h'
        cases h'
      | some ds' =>
        have h' : (do let bs ← rs.mapM (look τ); pure (d :: bs) : Option (List D)) = some ds := h
        rw [e2] at h'
        cases h'
        exact ⟨x, ws, rfl, look_ok s w1 e1, looks_ok s w2 e2⟩
theorem s_blt {f : Blt} {ces : CEs} {e : Expr} {t : TA} (h : PE X e (tCB (rBlt c f) (tL c G cl ces))) : PE X e (tE c G cl (.blt f ces)) :=
  pe_imp h fun σ H Q q => by
    obtain ⟨p, F, Z, τ, A, r, τ', s, e, k⟩ := q
    unfold evE at e
    split at e
    · cases e
    · rename_i rs τ1 e1
      split at e
      · cases e
      · rename_i vs e2
        cases e3 : bltD f vs with
        | none => rw [e3] at e; cases e
        | some r0 =>
          rw [e3] at e
          cases e
          exact ⟨p, F, Z, τ, A, rs, _, s, e1, fun xs H1 Z1 A1 po wl => ⟨Z1, vs, r, po.st.zh, po.st.tz, looks_ok po.st wl e2, e3, fun z H' n => fin_new po n k⟩⟩
theorem s_idx (hK : X.K = c.K) (hu : X.A.units + 65 < cLine) (ha : PE X ea (tE c G cl a)) (hb : PE X eb (tE c G cl b)) (hs : PlainIx eb) : PE X (.Subscript ea eb pos) (tE c G cl (.idx a b)) :=
  pe_imp (pe_ix (idx_ok hK hu) ha hb hs) fun σ H Q q => by
    obtain ⟨p, F, Z, τ, A, r, τ', s, e, k⟩ := q
    unfold evE at e
    split at e
    · cases e
    · rename_i ra τ1 e1
      split at e
      · cases e
      · rename_i rb τ2 e2
        split at e
        · rename_i x y l1 l2
          cases e3 : idxD x y with
          | none => rw [e3] at e; cases e
          | some r0 =>
            rw [e3] at e
            cases e
            exact two_op s e1 e2 fun vx vy H2 Z2 A2 po w1 w2 => ⟨Z2, x, y, r0, po.st.zh, look_ok po.st w1 l1, look_ok po.st w2 l2, e3, fun z n => fin_new po (newd n) k⟩
        · cases e
theorem s_fld {f : Nat} {nm : Str} (hK : X.K = c.K) (hf : c.attrs[f]? = some nm) (hc : ∀ (k : Nat) (C : Addr), c.cls.lookup k = some C → Cls X.K C ∧ (c.fok k f = true → NoAttr X.K C nm)) (ha : PE X ea (tE c G cl a)) (hb : attributeBase ea nm X.env (eval ea X.env) = eval ea X.env) :
    PE X (.Attribute ea nm pos) (tE c G cl (.fld a f)) :=
  pe_imp (pe_fld ha hb) fun σ H Q q => by
    obtain ⟨p, F, Z, τ, A, r, τ', s, e, k⟩ := q
    unfold evE at e
    split at e
    · rename_i kk fs τ1 e1
      cases e2 : getD' f fs with
      | none => rw [e2] at e; cases e
      | some dd =>
        rw [e2] at e
        cases e
        refine one_op s e1 fun x H1 Z1 A1 po w => ?_
        obtain ⟨ad, C, dx, gs, rfl, hC, hZ, rf, ok⟩ := (show Rep c Z1 (.ins kk fs) x from w)
        have get : ∀ {fs : List (Nat × D)} {gs : List (Str × V)}, RepF c Z1 fs gs → getD' f fs = some dd → ∃ v, gs.lookup nm = some v ∧ Rep c Z1 dd v ∧ ∃ p ∈ fs, p.1 = f := by
          intro fs
          induction fs with
          | nil => intro gs _ h; simp [getD'] at h
          | cons q fs ih =>
            obtain ⟨g, n⟩ := q
            intro gs rf h
            obtain ⟨s1, v1, r1, rfl, hs1, q1, q2⟩ := rf
            by_cases eg : g = f
            · subst eg
              rw [hf] at hs1
              cases hs1
              have : n = dd := by simpa [getD'] using h
              subst this
              exact ⟨v1, by simp [List.lookup], q1, (g, n), by simp, rfl⟩
            · obtain ⟨v, z1, z2, p0, z3, z4⟩ := ih q2 (by simpa [getD', eg] using h)
              have ne : (nm == s1) = false := by
                have : nm ≠ s1 := fun z => eg (attr_inj hs1 (z ▸ hf))
                simpa using this
              exact ⟨v, by simp [List.lookup, ne, z1], z2, p0, by simp [z3], z4⟩
        obtain ⟨v, z1, z2, p0, z3, z4⟩ := get rf e2
        have hc' := hc kk C hC
        exact ⟨ad, C, dx, gs, v, rfl, po.st.zh _ _ hZ, hc'.1, hc'.2 (by rw [← z4]; exact ok p0 z3), z1, fin_new po (newd z2) k⟩
    · rename_i i τ1 e1
      have body : ∀ {m : M}, getP τ1 i (some f) = some m → (∀ x H' Z' A', Post c p F Z H σ τ A τ1 H' Z' A' → (∃ B, OR c Z' H' m x B) → OpW c Z' H' σ (.pl i (some f)) x → Q x H') → tFld X.K (tE c G cl a) nm σ H Q := fun {m} hm kk => by
        refine one_op s e1 fun x H1 Z1 A1 po w => ?_
        obtain ⟨kc, fs, h1, h2⟩ := getP_field hm
        obtain ⟨v, h3, o⟩ := po.st.own i _ (slotM_some h1)
        have w' : σ[i]? = some (some x) := w
        rw [w'] at h3
        cases h3
        obtain ⟨ad, C, dx, gs, B, rfl, eA, hC, hH, oF, ok⟩ := o
        obtain ⟨s2, x2, B1, B2, z1, z2, z3, _⟩ := oF.at h2
        rw [hf] at z1
        cases z1
        have hc' := hc kc C hC
        exact ⟨ad, C, dx, gs, x2, rfl, hH, hc'.1, hc'.2 (ok _ (getA_mem h2)), z2, kk x2 H1 Z1 A1 po ⟨B1, z3⟩ ⟨ad, C, dx, gs, nm, w', hH, hf, z2⟩⟩
      split at e
      · rename_i dd hd
        cases e
        exact body hd fun x H' Z' A' po o w => by
          obtain ⟨B, o⟩ := o
          exact fin_new po (newd o.2) k
      · rename_i m nv hd
        cases e
        refine body hd fun x H' Z' A' po o w => ?_
        refine k x H' Z' A' [] po ⟨⟨rfl, ⟨m, hd, ?_⟩, w⟩, List.nodup_nil, fun _ _ _ h => (by cases h), fun _ h => by cases h⟩
        cases m with
        | v d => exact absurd rfl (nv d)
        | _ => rfl
      · cases e
    · cases e
end
end
end Ev

/-! Ev, part G: calls, methods, slices, what is walked, comprehensions. -/
namespace Ev
open PySem L2 PyProof.Rows
section
variable {c : Cn} {G : GS} {cl : Caller} {F Z H : Hp} {σ : L2.St} {τ τ1 τ2 τ' : T} {A : Nat → List Addr} {p : Bool}
section
variable {X : Cx} {ea eb ec : Expr} {a b d : CE} {pos : Pos}
theorem u_call {f : Nat} {ces : CEs} {E : XK} {Q : VK} (q : tE c G cl (.call f ces) σ H Q) : tCall (spC c cl f) [] E (tL c G cl ces) σ H Q := by
    obtain ⟨p, F, Z, τ, A, r, τ', s, e, k⟩ := q
    unfold evE at e
    split at e
    · cases e
    · rename_i rs τ1 e1
      split at e
      · cases e
      · rename_i fn e2
        split at e
        · cases e
        · rename_i ms is τ2 e3
          split at e
          · cases e
          · rename_i m os e4
            cases e
            refine ⟨p, F, Z, τ, A, rs, τ1, s, e1, fun xs H1 Z1 A1 po wl => ?_⟩
            obtain ⟨Z2, A2, Ac, zz, hd, em, pu, ow⟩ := takeA_ok po.st wl e3
            rw [List.append_nil]
            refine hd.use e4 fun x H' Z' A' B z2 st re pur => k x H' Z' A' B ⟨(po.zz.trans zz).trans z2, st, fun hp => ?_⟩ re
            obtain ⟨y1, y2, y3⟩ := po.pu hp
            obtain ⟨k1, k2, k3, k4⟩ := pu hp
            obtain ⟨w1, w2, w3⟩ := pur k3 k4
            exact ⟨y1.trans w1, w2.trans (k1.trans y2), w3.trans (k2.trans y3)⟩
theorem s_call {f : Nat} {e : Expr} {ces : CEs} {E : L2.St → XK} (h : PE X e (fun σ H Q => tCall (spC c cl f) [] (E σ) (tL c G cl ces) σ H Q)) : PE X e (tE c G cl (.call f ces)) :=
  pe_imp h fun σ H Q q => u_call q
/-- a new thing that is to change no more -/
theorem s_frz {e : Expr} (h : PE X e (tE c G cl a)) : PE X e (tE c G cl (.frz a)) :=
  pe_imp h fun σ H Q q => by
    obtain ⟨p, F, Z, τ, A, r, τ', s, e, k⟩ := q
    unfold evE at e
    split at e
    · cases e
    · rename_i r0 τ1 e1
      cases e
      refine ⟨p, F, Z, τ, A, r0, τ', s, e1, fun x H' Z' A' B po re => ?_⟩
      cases r0 with
      | m m =>
        obtain ⟨h1, h2, h3⟩ := freeze_new po.st re
        exact k x H' _ A' [] ⟨po.zz.trans h1, h2, po.pu⟩ ⟨⟨rfl, h3⟩, List.nodup_nil, fun _ _ _ h => (by cases h), fun _ h => (by cases h)⟩
      | d d => exact k x H' Z' A' B po re
      | pl i f => exact k x H' Z' A' B po re
theorem u_mk {ci : Nat} {C : Addr} {kk : Cl} {ces : CEs} {E : XK} {Q : VK} (hC : c.cls.lookup ci = some C) (hk : G.cls.lookup ci = some kk) (q : tE c G cl (.mk ci ces) σ H Q) : tMake C (spC c cl kk.init) [] E (tL c G cl ces) σ H Q := by
    obtain ⟨p, F, Z, τ, A, r, τ', s, e, k⟩ := q
    unfold evE at e
    split at e
    · cases e
    · rename_i rs τ1 e1
      rw [hk] at e
      simp only at e
      split at e
      · cases e
      · rename_i fn e2
        split at e
        · cases e
        · rename_i ms is τ2 e3
          split at e
          · rename_i sm os e4
            cases e
            refine ⟨p, F, Z, τ, A, rs, τ1, s, e1, fun xs H1 Z1 A1 po wl x dx nx ndx nex => ?_⟩
            obtain ⟨Z2, A2, Ac, zz, hd, em, pu, ow⟩ := takeA_ok po.st wl e3
            rw [List.append_nil]
            have nx' : (L2.upd H1 dx (.own x)) x = none := by rw [upd_ne (Ne.symm nex)]; exact nx
            have g : Same H1 (L2.upd (L2.upd H1 dx (.own x)) x (.ins C dx [])) := (Same.upd ndx).trans (Same.upd nx')
            have zx : Z2 x = none := hd.st.zh.free nx
            have fx : F x = none := hd.st.fh.free nx
            have hd2 : Hand c (fzw F (L2.upd (L2.upd H1 dx (.own x)) x (.ins C dx [])) [x]) Z2 (L2.upd (L2.upd H1 dx (.own x)) x (.ins C dx [])) σ τ2 A2 xs ms is Ac :=
              (hd.grow g ((hd.st.tz.upd (a := dx) (o := .own x) fun _ z => by cases z).upd (a := x) (o := .ins C dx []) fun _ z => by cases z)).fin fun a ha => by
                cases List.mem_singleton.mp ha
                exact ⟨zx, fun i z => (hd.st.fr i x z).2.2 nx, fun j z => (hd.fr j x z).2.2 nx⟩
            have hd3 := Hand.cons (B := [x]) (i0 := none) (m := .ins ci []) (x := .ref x) hd2 (fun a ha => by
              cases List.mem_singleton.mp ha
              exact ⟨fx, by rw [upd_same]; intro z; cases z⟩) (by simp) ⟨x, C, dx, [], [], rfl, rfl, hC, upd_same, ⟨rfl, rfl⟩, fun p hp => by cases hp⟩ (fun i z => by cases z)
            refine .inl ⟨_, Z2, .ins ci [] :: ms, _, .v .non, sm :: os, hd3.callee, e4, fun v H' Z' A' B z2 st re => ?_⟩
            obtain ⟨A3, s3, _, d2, d3⟩ := hd3.back z2 st
            obtain ⟨d4, d5⟩ := d2 0 (fun i => by simp)
            obtain ⟨w, w1, w2⟩ := st.own 0 sm (by simp)
            have ew : w = .ref x := by
              have : (List.map some (V.ref x :: xs))[0]? = some (some w) := w1
              simpa using this.symm
            subst ew
            refine ⟨re.rr.2, k _ H' Z' A3 (A' 0) ⟨(po.zz.trans zz).trans z2, s3, fun hp => ?_⟩ ⟨w2, st.nd 0, d4, fun a ha => ⟨d5 a ha, (st.fr 0 a ha).2⟩⟩⟩
            obtain ⟨y1, y2, y3⟩ := po.pu hp
            obtain ⟨k1, k2, k3, k4⟩ := pu hp
            obtain ⟨w1, w2, w3⟩ := d3 H1 g (fun j a ha => by
              cases j with
              | zero =>
                cases List.mem_singleton.mp ha
                exact nx
              | succ j =>
                have : a ∈ Ac j := ha
                rw [k3 j] at this
                cases this) (fun j i => by
              cases j with
              | zero => simp
              | succ j => simpa using k4 j i)
            exact ⟨y1.trans w1, w2.trans (k1.trans y2), w3.trans (k2.trans y3)⟩
          · cases e
theorem s_mk {ci : Nat} {C : Addr} {kk : Cl} {e : Expr} {ces : CEs} {E : L2.St → XK} (hC : c.cls.lookup ci = some C) (hk : G.cls.lookup ci = some kk) (h : PE X e (fun σ H Q => tMake C (spC c cl kk.init) [] (E σ) (tL c G cl ces) σ H Q)) : PE X e (tE c G cl (.mk ci ces)) :=
  pe_imp h fun σ H Q q => u_mk hC hk q
theorem repF_none {f : Nat} {nm : Str} (hf : c.attrs[f]? = some nm) : ∀ {fs : List (Nat × D)} {gs : List (Str × V)}, RepF c Z fs gs → getD' f fs = none → gs.lookup nm = none
  | [], gs, q, _ => by rw [show gs = [] from q]; rfl
  | (g, n) :: fs, gs, q, h => by
    obtain ⟨s1, v1, r1, rfl, hs1, q1, q2⟩ := q
    by_cases e : g = f
    · simp [getD', e] at h
    · have ne : (nm == s1) = false := by
        have : nm ≠ s1 := fun z => e (attr_inj hs1 (z ▸ hf))
        simpa using this
      simp [List.lookup, ne, repF_none hf q2 (by simpa [getD', e] using h)]
theorem orF_none {f : Nat} {nm : Str} (hf : c.attrs[f]? = some nm) : ∀ {fs : List (Nat × M)} {gs : List (Str × V)} {B : List Addr}, ORF c Z H fs gs B → getA f fs = none → gs.lookup nm = none
  | [], gs, B, q, _ => by rw [q.1]; rfl
  | (g, n) :: fs, gs, B, q, h => by
    obtain ⟨s1, v1, r1, B1, B2, rfl, rfl, hs1, q1, q2⟩ := q
    by_cases e : g = f
    · simp [getA, e] at h
    · have ne : (nm == s1) = false := by
        have : nm ≠ s1 := fun z => e (attr_inj hs1 (z ▸ hf))
        simpa using this
      simp [List.lookup, ne, orF_none hf q2 (by simpa [getA, e] using h)]
theorem fzw_congr {F H H' : Hp} {B : List Addr} (h : ∀ a ∈ B, H a = H' a) : fzw F H B = fzw F H' B := by
  funext a
  by_cases z : a ∈ B
  · rw [fzw_in z, fzw_in z]; exact h a z
  · rw [fzw_out z, fzw_out z]
/-- a method of an own class: e is the call; for each class that has the method the library's reading -/
theorem s_um {m : Nat} {nm : Str} {e : Expr} {ces : CEs} {E : L2.St → XK} (hm : c.attrs[m]? = some nm)
    (h : ∀ (ci : Nat) (kk : Cl) (f : Nat), G.cls.lookup ci = some kk → kk.ms.lookup m = some f → ∃ C, c.cls.lookup ci = some C ∧ PE X e (fun σ H Q => tMeth C nm (spC c cl f) [] (E σ) (tE c G cl a) (tL c G cl ces) σ H Q)) : PE X e (tE c G cl (.um m a ces)) := by
  refine ⟨fun pins s σ H Q I q => ?_⟩
  obtain ⟨p, F, Z, τ, A, r, τ', s, e, k⟩ := q
  unfold evE at e
  split at e
  · cases e
  · rename_i ro τ1 e1
    split at e
    · cases e
    · rename_i ci e2
      split at e
      · cases e
      · rename_i kk e3
        split at e
        · cases e
        · rename_i f e4
          split at e
          · cases e
          · rename_i fn e5
            split at e
            · cases e
            · rename_i rs τ2 e6
              obtain ⟨C, hC, pe⟩ := h ci kk f e3 e4
              refine pe.run pins _ σ H Q I ?_
              have pure_ : ∀ {H1 Z1 H2 Z2 : Hp} {A1 A2 A2' A3 : Nat → List Addr} {τ3 : T} {is : List (Option Nat)} {os : List M} {H' : Hp}, Post c p F Z H σ τ A τ1 H1 Z1 A1 → (p = true → Same H1 H2 ∧ τ2 = τ1 ∧ A2 = A1) → (p = true → τ3 = τ2 ∧ A2' = A2) → (p = true → Same H2 H' ∧ giveA is os τ3 = τ3 ∧ A3 = A2') → p = true → Same H H' ∧ giveA is os τ3 = τ ∧ A3 = A := by
                intro H1 Z1 H2 Z2 A1 A2 A2' A3 τ3 is os H' po h1 h2 h3 hp
                obtain ⟨a1, a2, a3⟩ := po.pu hp
                obtain ⟨b1, b2, b3⟩ := h1 hp
                obtain ⟨c1, c2⟩ := h2 hp
                obtain ⟨d1, d2, d3⟩ := h3 hp
                exact ⟨(a1.trans b1).trans d1, d2.trans (c1.trans (b2.trans a2)), d3.trans (c2.trans (b3.trans a3))⟩
              cases ro with
              | d dd =>
                simp only at e
                split at e
                · cases e
                · rename_i ms is τ3 e7
                  split at e
                  · rename_i r0 o0 os e8
                    cases e
                    refine one_op s e1 fun x H1 Z1 A1 po w => ?_
                    have w' : Rep c Z1 dd x := w
                    cases dd with
                    | ins kc fs =>
                      unfold recvC at e2
                      simp only at e2
                      split at e2
                      · rename_i hn
                        cases e2
                        obtain ⟨ad, C', dx, gs, rfl, hC', hZ, rf, ok⟩ := id w'
                        rw [hC] at hC'
                        cases hC'
                        refine ⟨ad, dx, gs, rfl, po.st.zh _ _ hZ, repF_none hm rf (by simpa using hn), ?_⟩
                        refine ⟨p, F, Z1, τ1, A1, rs, τ2, po.st, e6, fun xs H2 Z2 A2 po2 wl => ?_⟩
                        obtain ⟨Z3, A3, Ac, zz, hd, em, pu, ow⟩ := takeA_ok po2.st wl e7
                        rw [List.append_nil]
                        have f0 : fzw F H2 ([] : List Addr) = F := by funext a; exact fzw_out (by simp)
                        have hd2 := Hand.cons (B := []) (i0 := none) (m := .v (.ins ci fs)) (x := .ref ad) (by rw [f0]; exact hd) (fun a z => by cases z) List.nodup_nil ⟨rfl, Rep.mono (po2.zz.trans zz) _ _ w'⟩ (fun i z => by cases z)
                        refine hd2.use e8 fun x H' Z' A' B z2 st re pur => k x H' Z' A' B ⟨((po.zz.trans po2.zz).trans zz).trans z2, st, pure_ (Z2 := Z2) po po2.pu (fun hp => ⟨(pu hp).1, (pu hp).2.1⟩) fun hp => ?_⟩ re
                        obtain ⟨k1, k2, k3, k4⟩ := pu hp
                        exact pur (fun j => by cases j with | zero => rfl | succ j => exact k3 j) fun j i => by cases j with | zero => simp | succ j => simpa using k4 j i
                      · cases e2
                    | _ => cases e2
                  · cases e
              | m mm =>
                simp only at e
                split at e
                · cases e
                rename_i np
                split at e
                · cases e
                · rename_i ms is τ3 e7
                  split at e
                  · rename_i r0 o0 os e8
                    cases e
                    refine ⟨p, F, Z, τ, A, .m mm, τ1, s, e1, fun x H1 Z1 A1 B po re1 => ?_⟩
                    cases mm with
                    | ins kc fs =>
                      unfold recvC at e2
                      simp only at e2
                      split at e2
                      · rename_i hn
                        cases e2
                        obtain ⟨ad, C', dx, gs, B', rfl, eB, hC', hH, oF, ok⟩ := id re1.rr
                        rw [hC] at hC'
                        cases hC'
                        refine ⟨ad, dx, gs, rfl, hH, orF_none hm oF (by simpa using hn), ?_⟩
                        have s1 := po.st.fin (B := B) fun a ha => ⟨(re1.fr a ha).2.1, fun i z => re1.dj i a z ha⟩
                        refine ⟨p, _, Z1, τ1, A1, rs, τ2, s1, e6, fun xs H2 Z2 A2 po2 wl => ?_⟩
                        obtain ⟨Z3, A3, Ac, zz, hd, em, pu, ow⟩ := takeA_ok po2.st wl e7
                        rw [List.append_nil]
                        obtain ⟨_, keep⟩ := po2.st.fout (F := F) (B := B) fun a ha => ⟨(re1.fr a ha).1, (re1.fr a ha).2.2⟩
                        have hB2 : ∀ a ∈ B, H2 a = H1 a := fun a ha => (keep a ha).1
                        rw [fzw_congr (F := F) (B := B) fun a ha => (hB2 a ha).symm] at hd
                        have hd2 := Hand.cons (B := B) (i0 := none) (m := .ins ci fs) (x := .ref ad) hd (fun a ha => ⟨(re1.fr a ha).1, by rw [hB2 a ha]; exact (re1.fr a ha).2.2⟩) re1.nd (OR.keep (po2.zz.trans zz) _ _ B hB2 re1.rr) (fun i z => by cases z)
                        refine .inl ⟨_, Z3, .ins ci fs :: ms, _, r0, o0 :: os, hd2.callee, e8, fun v H' Z' A' B5 z2 st re => ?_⟩
                        obtain ⟨A5, s5, d1, d2, d3⟩ := hd2.back z2 st
                        obtain ⟨d4, d5⟩ := d1 B5 (fun a ha => ⟨(re.fr a ha).1, (re.fr a ha).2.2⟩) fun j a h1 h2 => re.dj j a h1 h2
                        refine k v H' Z' A5 B5 ⟨((po.zz.trans po2.zz).trans zz).trans z2, s5, fun hp => ?_⟩ (resR_ok (m := r0) ⟨re.rr, re.nd, d4, fun a ha => ⟨d5 a ha, (re.fr a ha).2⟩⟩)
                        exact absurd hp np
                      · cases e2
                    | _ => cases e2
                  · cases e
              | pl i fo =>
                cases fo with
                | some f' => cases e
                | none =>
                  simp only at e
                  split at e
                  · cases e
                  · rename_i ms is τ3 e7
                    split at e
                    · rename_i r0 os e8
                      cases e
                      refine one_op s e1 fun x H1 Z1 A1 po w => ?_
                      have w' : σ[i]? = some (some x) := w
                      unfold recvC at e2
                      simp only at e2
                      split at e2
                      · rename_i kc fs e9
                        split at e2
                        · rename_i hn
                          cases e2
                          obtain ⟨v, e10, o⟩ := po.st.own i _ (slotM_some e9)
                          rw [w'] at e10
                          cases e10
                          obtain ⟨ad, C', dx, gs, B', rfl, eB, hC', hH, oF, ok⟩ := o
                          rw [hC] at hC'
                          cases hC'
                          refine ⟨ad, dx, gs, rfl, hH, orF_none hm oF (by simpa using hn), ?_⟩
                          refine ⟨p, F, Z1, τ1, A1, rs, τ2, po.st, e6, fun xs H2 Z2 A2 po2 wl => ?_⟩
                          obtain ⟨Z3, A3, Ac, zz, hd, em, pu, ow⟩ := takeA_ok po2.st (rs := .pl i none :: rs) (xs := .ref ad :: xs) ⟨_, _, rfl, w', wl⟩ e7
                          rw [List.append_nil]
                          refine hd.use e8 fun x H' Z' A' B z2 st re pur => k x H' Z' A' B ⟨((po.zz.trans po2.zz).trans zz).trans z2, st, pure_ (Z2 := Z2) po po2.pu (fun hp => ⟨(pu hp).1, (pu hp).2.1⟩) fun hp => ?_⟩ re
                          obtain ⟨k1, k2, k3, k4⟩ := pu hp
                          exact pur k3 k4
                        · cases e2
                      · cases e2
                    · cases e
end
end
end Ev

/-! Ev, part H: methods of lists, slices, dicts, what is walked, targets. -/
namespace Ev
open PySem L2 PyProof.Rows
section
variable {c : Cn} {G : GS} {cl : Caller} {F Z H : Hp} {σ : L2.St} {τ τ1 τ2 τ' : T} {A : Nat → List Addr} {p : Bool}
/-- a thing of one object at a place: it may be changed -/
theorem cell_at (s : Sta c F Z H σ τ A) {i : Nat} {f : Option Nat} {m : M} {x : V} (q : OpW c Z H σ (.pl i f) x) (h : getP τ i f = some m) (one : ∀ B, OR c Z H m x B → ∃ l, x = .ref l ∧ B = [l]) :
    ∃ l, x = .ref l ∧ OR c Z H m x [l] ∧ F l = none ∧ Z l = none ∧ ∀ m' o', OR c Z (L2.upd H l o') m' (.ref l) [l] → ∃ A', Sta c F Z (L2.upd H l o') σ (setP τ i m' f) A' := by
  obtain ⟨B, hB, nd, o, put⟩ := place_at s q h
  obtain ⟨l, rfl, rfl⟩ := one B o
  obtain ⟨fl, zl, _⟩ := s.fr i l (hB l (by simp))
  refine ⟨l, rfl, o, fl, zl, fun m' o' om => put Z (L2.upd H l o') m' [l] (Same.refl _) (fun b u e => ?_) (fun b u e => ?_) s.fz (s.tz.upd fun vs z => OR.nt _ _ _ om l (by simp) vs (by rw [upd_same, z])) (fun j b hb nb => ?_) om (by simp) fun b hb => ?_⟩
  · rw [upd_ne (ne_of_none e zl)]; exact s.zh _ _ e
  · rw [upd_ne (ne_of_none e fl)]; exact s.fh _ _ e
  · have : b ≠ l := by simpa using nb
    exact ⟨upd_ne this, (s.fr j b hb).2.1, nb⟩
  · cases List.mem_singleton.mp hb
    exact ⟨fl, zl⟩
theorem one_lst {ds : List D} {x : V} : ∀ B, OR c Z H (.lst ds) x B → ∃ l, x = .ref l ∧ B = [l] := fun B o => by
  obtain ⟨l, vs, e1, e2, _⟩ := o
  exact ⟨l, e1, e2⟩
theorem one_dK {ks : List L2.Key} {ds : List D} {x : V} : ∀ B, OR c Z H (.dK ks ds) x B → ∃ l, x = .ref l ∧ B = [l] := fun B o => by
  obtain ⟨l, _, _, e1, e2, _⟩ := o
  exact ⟨l, e1, e2⟩
theorem one_dT {ks : List (List L2.Key)} {ds : List D} {x : V} : ∀ B, OR c Z H (.dT ks ds) x B → ∃ l, x = .ref l ∧ B = [l] := fun B o => by
  obtain ⟨l, _, _, e1, e2, _⟩ := o
  exact ⟨l, e1, e2⟩
theorem isF_pl {i : Nat} {f : Option Nat} (h : (R.pl i f).isF = true) : f.isSome = true := by
  cases f with
  | none => cases h
  | some _ => rfl
theorem resD {d : D} {x : V} (r : Rep c Z d x) : Res c F Z H σ τ A (.d d) x [] := ⟨⟨rfl, r⟩, List.nodup_nil, fun _ _ _ h => (by cases h), fun _ h => by cases h⟩
section
variable {X : Cx} {ea eb ec : Expr} {a b d : CE} {pos : Pos}
theorem s_bm {m : Bm} {e : Expr} {ces : CEs} (h : PE X e (tBM X.K "list" (rBm c m) (tE c G cl a) (tX c G cl ces))) : PE X e (tE c G cl (.bm m a ces)) :=
  pe_imp h fun σ H Q q => by
    obtain ⟨p, F, Z, τ, A, r, τ', s, e, k⟩ := q
    unfold evE at e
    split at e
    · rename_i i f τ1 e1
      split at e
      · cases e
      · rename_i np
        split at e
        · rename_i xs0 e2
          split at e
          · cases e
          · rename_i ds τ2 e3
            split at e
            · rename_i xs e4
              split at e
              · rename_i dd ys e5
                cases e
                refine one_op s e1 fun x H1 Z1 A1 po w => ?_
                have w1 : OpW c Z1 H1 σ (.pl i f) x := w
                obtain ⟨l, rfl, o1, _⟩ := cell_at po.st w1 e2 one_lst
                obtain ⟨l', vs1, q1, _, h1, r1⟩ := o1
                cases q1
                refine ⟨.inl ⟨rfl, vs1, SqL.of h1⟩, f.isSome, F, Z1, τ1, A1, ds, τ2, po.st, e3, fun xs2 H2 Z2 A2 po2 rl => ?_⟩
                have w2 := OpW.keep w1 po2 isF_pl
                obtain ⟨l2, q2, o2, _, _, put⟩ := cell_at po2.st w2 e4 one_lst
                cases q2
                obtain ⟨l3, ws, q3, _, h3, r3⟩ := o2
                cases q3
                refine ⟨Z2, l, xs, ws, ds, dd, ys, rfl, po2.st.zh, h3, r3, rl, e5, fun z ws' rw rz => ?_⟩
                obtain ⟨A', st⟩ := put (.lst ys) (.lst ws') ⟨l, ws', rfl, rfl, upd_same, rw⟩
                exact k z _ Z2 A' [] ⟨po.zz.trans po2.zz, st, fun hp => absurd hp np⟩ (resD rz)
              · cases e
            · cases e
        · cases e
    · cases e
theorem s_bm0 {m : Bm} {e : Expr} (h : PE X e (tBM0 X.K "list" (rBm c m) (tE c G cl a))) : PE X e (tE c G cl (.bm m a .nil)) :=
  pe_imp h fun σ H Q q => by
    obtain ⟨p, F, Z, τ, A, r, τ', s, e, k⟩ := q
    unfold evE at e
    split at e
    · rename_i i f τ1 e1
      split at e
      · cases e
      · rename_i np
        split at e
        · rename_i xs0 e2
          unfold evX at e
          simp only at e
          rw [e2] at e
          simp only at e
          split at e
          · rename_i dd ys e5
            cases e
            refine one_op s e1 fun x H1 Z1 A1 po w => ?_
            have w1 : OpW c Z1 H1 σ (.pl i f) x := w
            obtain ⟨l2, rfl, o2, _, _, put⟩ := cell_at po.st w1 e2 one_lst
            obtain ⟨l3, ws, q3, _, h3, r3⟩ := o2
            cases q3
            refine ⟨.inl ⟨rfl, ws, SqL.of h3⟩, Z1, l2, xs0, ws, [], dd, ys, rfl, po.st.zh, h3, r3, rfl, e5, fun z ws' rw rz => ?_⟩
            obtain ⟨A', st⟩ := put (.lst ys) (.lst ws') ⟨l2, ws', rfl, rfl, upd_same, rw⟩
            exact k z _ Z1 A' [] ⟨po.zz, st, fun hp => absurd hp np⟩ (resD rz)
          · cases e
        · cases e
    · cases e
/-- a slice's part -/
noncomputable def tP (c : Cn) (G : GS) (cl : Caller) (e : CE) : TO := fun σ H Q => if isNonK e = true then Q none H else tE c G cl e σ H fun x H1 => ∃ i, x = .int i ∧ Q (some i) H1
theorem po_non {e : CE} (h : isNonK e = true) : PO X none (tP c G cl e) := ⟨fun pins s σ H Q I q => po_none.run pins s σ H Q I (by unfold tP at q; rw [if_pos h] at q; exact q)⟩
theorem po_ce {e : Expr} {ce : CE} (h : isNonK ce = false) (he : PE X e (tE c G cl ce)) : PO X (some e) (tP c G cl ce) := ⟨fun pins s σ H Q I q => (po_some he).run pins s σ H Q I (by unfold tP at q; rw [if_neg (by rw [h]; exact Bool.false_ne_true)] at q; exact q)⟩
theorem part_ok {lo : CE} {l : Option Int} (s : Sta c F Z H σ τ A) (h : (if isNonK lo = true then some (none, τ) else (match evE G cl p lo τ with
        | some (.d (.int l), τ2) => some (some l, τ2)
        | _ => none)) = some (l, τ2)) {R : Option Int → Hp → Prop} (k : ∀ H' Z' A', Post c p F Z H σ τ A τ2 H' Z' A' → R l H') : tP c G cl lo σ H R := by
  unfold tP
  by_cases z : isNonK lo = true
  · rw [if_pos z] at h ⊢
    cases h
    exact k H Z A (Post.refl s)
  · rw [if_neg z] at h ⊢
    split at h
    · rename_i i τ3 e1
      cases h
      exact one_op s e1 fun x H1 Z1 A1 po w => ⟨i, w, k H1 Z1 A1 po⟩
    · cases h
theorem s_slc (hK : X.K = c.K) {lo hi : CE} {elo ehi : Option Expr} {p2 : Pos} (ha : PE X ea (tE c G cl a)) (hl : PO X elo (tP c G cl lo)) (hh : PO X ehi (tP c G cl hi)) : PE X (.Subscript ea (.Slice elo ehi none p2) pos) (tE c G cl (.slc a lo hi)) :=
  pe_imp (pe_slice (slc_ok hK) ha hl hh) fun σ H Q q => by
    obtain ⟨p, F, Z, τ, A, r, τ', s, e, k⟩ := q
    unfold evE at e
    split at e
    · cases e
    · rename_i ra τ1 e1
      split at e
      · cases e
      · rename_i l τ2 e2
        split at e
        · cases e
        · rename_i h τ3 e3
          split at e
          · rename_i x l1
            cases e4 : slcP x l h with
            | none => rw [e4] at e; cases e
            | some r0 =>
              rw [e4] at e
              cases e
              refine one_op s e1 fun vx H1 Z1 A1 po1 w1 => ?_
              refine part_ok po1.st e2 fun H2 Z2 A2 po2 => ?_
              have w2 := OpW.keep w1 po2 (fun z => by rw [setl_isF] at z; rw [z]; simp)
              refine part_ok po2.st e3 fun H3 Z3 A3 po3 => ?_
              have w3 := OpW.keep w2 po3 (fun z => by rw [setl_isF] at z; rw [z]; simp)
              have po := (po1.trans po2 (fun z => by rw [z]; rfl)).trans po3 (fun z => by rw [z]; rfl)
              exact ⟨Z3, x, r, po3.st.zh, look_ok po3.st w3 l1, e4, fun z H' n => fin_new po n k⟩
          · cases e
theorem s_dct (t : Bool) {e : Expr} (h : PE X e (fun σ H Q => ∀ d, H d = none → Q (.ref d) (L2.upd H d (if t then .dT [] else .dK [])))) : PE X e (tE c G cl (.dct t)) :=
  pe_imp h fun σ H Q q => by
    obtain ⟨p, F, Z, τ, A, r, τ', s, e, k⟩ := q
    unfold evE at e
    cases e
    intro d hd
    have nz : Z d = none := s.zh.free hd
    have nf : F d = none := s.fh.free hd
    refine k _ _ Z A [d] (Post.grow s (Same.upd hd) (Same.refl _) (s.zh.trans (Same.upd hd)) s.fz (fun i b hb => (s.fr i b hb).2.1) (s.tz.upd fun _ z => by cases t <;> cases z)) ⟨?_, by simp, fun i b hb h => ?_, fun b h => ?_⟩
    · cases t with
      | true => exact ⟨d, [], [], rfl, rfl, upd_same, rfl, rfl, rfl⟩
      | false => exact ⟨d, [], [], rfl, rfl, upd_same, rfl, rfl, rfl⟩
    · have e : b = d := by simpa using h
      subst e; exact (s.fr i b hb).2.2 hd
    · have e : b = d := by simpa using h
      subst e; exact ⟨nf, nz, by rw [upd_same]; intro z; cases z⟩
/-- a new tuple of values, frozen -/
theorem tup_new {p : Bool} (s : Sta c F Z H σ τ A) {vs : List V} {ds : List D} (r : RepL c Z ds vs) {q : Addr} (hq : H q = none) : Post c p F Z H σ τ A τ (L2.upd H q (.tup vs)) (L2.upd Z q (.tup vs)) A := by
  have nz : Z q = none := s.zh.free hq
  have nf : F q = none := s.fh.free hq
  refine Post.grow s (Same.upd hq) (Same.upd nz) (fun b o e => ?_) (fun b o e => ?_) (fun i b hb => ?_) s.tz.new
  · by_cases z : b = q
    · subst z; rw [upd_same] at e ⊢; exact e
    · rw [upd_ne z] at e ⊢; exact s.zh _ _ e
  · by_cases z : b = q
    · subst z; exact nf
    · rw [upd_ne z] at e; exact s.fz _ _ e
  · have : b ≠ q := fun z => by subst z; exact (s.fr i b hb).2.2 hq
    rw [upd_ne this]
    exact (s.fr i b hb).2.1
end
end
end Ev

/-! Ev, part I: what is walked, targets, comprehensions. -/
namespace Ev
open PySem L2 PyProof.Rows
/-- unpacking a tuple or a list -/
noncomputable def gTL (K : PySem.W.Frag) (n : Nat) (t : TGs) : TG := fun v σ H Q => gTup K n t v σ H Q ∨ gUnl K n t v σ H Q
theorem pg_tl {X : Cx} {pos : Pos} {es : List Expr} {k : Nat} {t : TGs} {n : Nat} (h1 : PG X (.Tuple es k pos) (gTup X.K n t)) (h2 : PG X (.Tuple es k pos) (gUnl X.K n t)) : PG X (.Tuple es k pos) (gTL X.K n t) :=
  ⟨fun pins s σ H v u Q I r hw => hw.elim (fun h => h1.run pins s σ H v u Q I r h) fun h => h2.run pins s σ H v u Q I r h⟩
mutual
noncomputable def gT (K : PySem.W.Frag) : Tg → TG
  | .one i => gName i
  | .tup ts => gTL K ts.len (gTs K ts)
noncomputable def gTs (K : PySem.W.Frag) : Tgs → TGs
  | .nil => gNil
  | .cons t r => gCons (gT K t) (gTs K r)
end
mutual
noncomputable def Tg.slots : Tg → List Nat
  | .one i => [i]
  | .tup ts => ts.slots
noncomputable def Tgs.slots : Tgs → List Nat
  | .nil => []
  | .cons t r => t.slots ++ r.slots
end
section
variable {c : Cn} {G : GS} {cl : Caller} {F Z H : Hp} {σ : L2.St} {τ τ1 τ2 τ' : T} {A : Nat → List Addr} {p : Bool}
mutual
theorem bind_ok {io : List Nat} {Q : L2.St → Hp → Prop} : ∀ (tg : Tg) {d : D} {x : V} {σ : L2.St} {τ τ1 : T} {A : Nat → List Addr}, bindTg io tg d τ = some τ1 → Sta c F Z H σ τ A → Rep c Z d x →
    (∀ σ1 A1, Sta c F Z H σ1 τ1 A1 → σ1.length = σ.length → (∀ j, j ∉ tg.slots → σ1[j]? = σ[j]?) → (∀ j a, a ∈ A1 j → a ∈ A j) → Q σ1 H) → gT c.K tg x σ H Q
  | .one i, d, x, σ, τ, τ1, A, h, s, r, k => by
    unfold bindTg at h
    split at h
    · cases h
    · cases h
      by_cases li : i < σ.length
      · refine k _ _ (s.put (B' := []) (i := i) (σ' := σ.set i (some x)) (by rw [List.getElem?_set_self li]) (fun j hj => List.getElem?_set_ne (Ne.symm hj)) (by simp) (Same.refl _) s.zh s.fh s.fz s.tz ⟨rfl, r⟩ List.nodup_nil (fun j a _ ha => ⟨rfl, (s.fr j a ha).2.1, by simp⟩) (fun a ha => by cases ha)) (by simp) (fun j hj => ?_) fun j a ha => ?_
        · have : j ≠ i := by simpa [Tg.slots] using hj
          exact List.getElem?_set_ne (Ne.symm this)
        · by_cases z : j = i
          · subst z; rw [put1_same] at ha; cases ha
          · rw [put1_ne z] at ha; exact ha
      · have e1 : τ.set i (some (.v d)) = τ := List.set_eq_of_length_le (by rw [s.len]; omega)
        have e2 : σ.set i (some x) = σ := List.set_eq_of_length_le (by omega)
        show Q (σ.set i (some x)) H
        rw [e2]
        rw [e1] at k
        exact k σ A s rfl (fun _ _ => rfl) fun _ _ ha => ha
  | .tup ts, d, x, σ, τ, τ1, A, h, s, r, k => by
    unfold bindTg at h
    split at h
    · rename_i ds
      split at h
      · rename_i hl
        obtain ⟨a, vs, rfl, q, rl⟩ := r
        exact .inl ⟨a, vs, rfl, (sqT_mono s.zh q).sq, by rw [RepL.len _ _ rl]; exact hl, binds_ok ts h s rl hl k⟩
      · cases h
    · rename_i ds
      split at h
      · rename_i hl
        obtain ⟨a, vs, rfl, q, rl⟩ := r
        exact .inr ⟨a, vs, rfl, SqL.of (s.zh _ _ q), by rw [RepL.len _ _ rl]; exact hl, binds_ok ts h s rl hl k⟩
      · cases h
    · cases h
theorem binds_ok {io : List Nat} {Q : L2.St → Hp → Prop} : ∀ (ts : Tgs) {ds : List D} {xs : List V} {σ : L2.St} {τ τ1 : T} {A : Nat → List Addr}, bindTgs io ts ds τ = some τ1 → Sta c F Z H σ τ A → RepL c Z ds xs → ds.length = ts.len →
    (∀ σ1 A1, Sta c F Z H σ1 τ1 A1 → σ1.length = σ.length → (∀ j, j ∉ ts.slots → σ1[j]? = σ[j]?) → (∀ j a, a ∈ A1 j → a ∈ A j) → Q σ1 H) → gTs c.K ts xs σ H Q
  | .nil, ds, xs, σ, τ, τ1, A, h, s, r, hl, k => by
    cases ds with
    | cons d ds => cases hl
    | nil =>
      unfold bindTgs at h
      cases h
      exact ⟨r, k σ A s rfl (fun _ _ => rfl) fun _ _ ha => ha⟩
  | .cons t ts, [], xs, σ, τ, τ1, A, h, s, r, hl, k => by cases hl
  | .cons t ts, d :: ds, xs, σ, τ, τ1, A, h, s, r, hl, k => by
    obtain ⟨v, vs, rfl, r1, r2⟩ := r
    unfold bindTgs at h
    split at h
    · rename_i τ2 e1
      refine ⟨v, vs, rfl, bind_ok t e1 s r1 fun σ1 A1 s1 l1 o1 a1 => ?_⟩
      refine binds_ok ts h s1 r2 (by simpa [Tgs.len] using hl) fun σ2 A2 s2 l2 o2 a2 => ?_
      refine k σ2 A2 s2 (l2.trans l1) (fun j hj => ?_) fun j a ha => a1 j a (a2 j a ha)
      have hj' : j ∉ t.slots ++ ts.slots := hj
      rw [o2 j fun z => hj' (List.mem_append_right _ z), o1 j fun z => hj' (List.mem_append_left _ z)]
    · cases h
end
section
variable {X : Cx} {tg ea eb ec : Expr} {a b d : CE} {pos : Pos}
theorem i_e (hK : X.K = c.K) (he : PE X ea (tE c G cl a)) : PI X tg ea (tI c G cl (.e a)) := pi_imp (pi_seq he) fun σ H R q => by
  obtain ⟨p, F, Z, τ, A, ds, τ', s, e, k⟩ := q
  unfold evI at e
  split at e
  · cases e
  · rename_i r τ1 e1
    refine ⟨p, F, Z, τ, A, r, τ1, s, e1, fun x H1 Z1 A1 B po re => ?_⟩
    split at e
    · rename_i xs τ2 e2
      cases e
      obtain ⟨Z2, A2, po2, ad, vs, rfl, h1, h2⟩ := esc_ok po.st re e2
      exact ⟨ad, rfl, .inl ⟨vs, SqL.of (po2.st.zh _ _ h1), k _ _ Z2 A2 (po.trans po2 id) (wd_list h1 h2)⟩⟩
    · rename_i xs τ2 e2
      cases e
      obtain ⟨Z2, A2, po2, ad, vs, rfl, h1, h2⟩ := esc_ok po.st re e2
      exact ⟨ad, rfl, .inr ⟨vs, by rw [hK]; exact (sqT_mono po2.st.zh h1).sq, k _ _ Z2 A2 (po.trans po2 id) (wd_tup hK h1 h2)⟩⟩
    · rename_i ns τ2 e2
      cases e
      obtain ⟨Z2, A2, po2, ad, rfl, h1⟩ := esc_ok po.st re e2
      exact ⟨ad, rfl, .inl ⟨ns.map V.int, by rw [hK]; exact po2.st.zh.seq h1, k _ _ Z2 A2 (po.trans po2 id) (wd_scr hK h1)⟩⟩
    · cases e
theorem rngOk_of {i j : Int} (h : rngOk i j = true) : -(2 ^ 62) ≤ i ∧ i < 2 ^ 62 ∧ -(2 ^ 62) ≤ j ∧ j < 2 ^ 62 := of_decide_eq_true h
theorem i_rng1 {e : Expr} (h : PI X tg e (iRng1 (tCons (tE c G cl a) tNil))) : PI X tg e (tI c G cl (.rng1 a)) := pi_imp h fun σ H R q => by
  obtain ⟨p, F, Z, τ, A, ds, τ', s, e, k⟩ := q
  unfold evI at e
  split at e
  · rename_i i τ1 e1
    split at e
    · rename_i ok
      cases e
      obtain ⟨_, _, b1, b2⟩ := rngOk_of ok
      refine one_op s e1 fun x H1 Z1 A1 po w => ⟨i, by rw [show x = .int i from w], b1, b2, k _ _ Z1 A1 po ?_⟩
      have := wd_rng (c := c) (Z := Z1) 0 i
      rw [Int.sub_zero] at this
      exact this
    · cases e
  · cases e
theorem i_rng2 {e : Expr} (h : PI X tg e (iRng2 (tCons (tE c G cl a) (tCons (tE c G cl b) tNil)))) : PI X tg e (tI c G cl (.rng2 a b)) := pi_imp h fun σ H R q => by
  obtain ⟨p, F, Z, τ, A, ds, τ', s, e, k⟩ := q
  unfold evI at e
  split at e
  · rename_i i τ1 e1
    split at e
    · rename_i j τ2 e2
      split at e
      · rename_i ok
        cases e
        refine one_op s e1 fun x H1 Z1 A1 po w => one_op po.st e2 fun y H2 Z2 A2 po2 w2 => ?_
        exact ⟨i, j, by rw [show x = .int i from w, show y = .int j from w2], rngOk_of ok, k _ _ Z2 A2 (po.trans po2 id) (wd_rng i j)⟩
      · cases e
    · cases e
  · cases e
theorem i_enum (hK : X.K = c.K) {e : Expr} (h : PI X tg e (iEnumA X.K (tCons (tE c G cl a) tNil))) : PI X tg e (tI c G cl (.enum a)) := pi_imp h fun σ H R q => by
  obtain ⟨p, F, Z, τ, A, ds, τ', s, e, k⟩ := q
  unfold evI at e
  split at e
  · cases e
  · rename_i r τ1 e1
    refine ⟨p, F, Z, τ, A, r, τ1, s, e1, fun x H1 Z1 A1 B po re => ?_⟩
    split at e
    · rename_i xs τ2 e2
      cases e
      obtain ⟨Z2, A2, po2, ad, vs, rfl, h1, h2⟩ := esc_ok po.st re e2
      exact ⟨ad, rfl, .inl ⟨vs, SqL.of (po2.st.zh _ _ h1), k _ _ Z2 A2 (po.trans po2 id) (wd_enumL h1 h2)⟩⟩
    · rename_i xs τ2 e2
      cases e
      obtain ⟨Z2, A2, po2, ad, vs, rfl, h1, h2⟩ := esc_ok po.st re e2
      exact ⟨ad, rfl, .inr ⟨vs, by rw [hK]; exact (sqT_mono po2.st.zh h1).sq, k _ _ Z2 A2 (po.trans po2 id) (wd_enumT hK h1 h2)⟩⟩
    · cases e
theorem i_zip (hK : X.K = c.K) {e : Expr} (h : PI X tg e (RZ.iZipA X.K (tCons (tE c G cl a) (tCons (tE c G cl b) tNil)))) : PI X tg e (tI c G cl (.zip a b)) := pi_imp h fun σ H R q => by
  obtain ⟨p, F, Z, τ, A, ds, τ', s, e, k⟩ := q
  unfold evI at e
  split at e
  · cases e
  · rename_i ra τ1 e1
    split at e
    · cases e
    · rename_i x τ2 e2
      split at e
      · cases e
      · rename_i rb τ3 e3
        split at e
        · cases e
        · rename_i y τ4 e4
          refine ⟨p, F, Z, τ, A, ra, τ1, s, e1, fun vx H1 Z1 A1 B po re => ?_⟩
          obtain ⟨Z2, A2, po2, r1⟩ := esc_ok po.st re e2
          refine ⟨p, F, Z2, τ2, A2, rb, τ3, po2.st, e3, fun vy H3 Z3 A3 B3 po3 re3 => ?_⟩
          obtain ⟨Z4, A4, po4, r2⟩ := esc_ok po3.st re3 e4
          have r1' := Rep.mono (po3.zz.trans po4.zz) _ _ r1
          have pp := ((po.trans po2 id).trans po3 id).trans po4 id
          split at e
          · cases e
            obtain ⟨a1, vs, rfl, h1, h2⟩ := r1'
            obtain ⟨a2, ws, rfl, h3, h4⟩ := r2
            exact ⟨a1, a2, vs, ws, rfl, .inl ⟨SqL.of (po4.st.zh _ _ h1), SqL.of (po4.st.zh _ _ h3), k _ _ Z4 A4 pp (wd_zipL h1 h3 h2 h4)⟩⟩
          · cases e
            obtain ⟨a1, vs, rfl, h1, h2⟩ := r1'
            obtain ⟨a2, ws, rfl, h3, h4⟩ := r2
            exact ⟨a1, a2, vs, ws, rfl, .inr ⟨by rw [hK]; exact (sqT_mono po4.st.zh h1).sq, by rw [hK]; exact (sqT_mono po4.st.zh h3).sq, k _ _ Z4 A4 pp (wd_zipT hK h1 h3 h2 h4)⟩⟩
          · cases e
/-- list(range(..)), tuple(range(..)) -/
theorem rgv_rep (i j : Int) : RepL c Z (rngD i j) (rgV i j) := by
  have : ∀ (l : List Nat), RepL c Z (l.map fun (k : Nat) => D.int (i + (k : Int))) (l.map fun (k : Nat) => V.int (i + (k : Nat))) := by
    intro l
    induction l with
    | nil => rfl
    | cons k l ih => exact ⟨_, _, rfl, rfl, ih⟩
  exact this _
theorem rng_len (i j : Int) : (rngD i j).length = (j - i).toNat := by simp [rngD]
noncomputable def tR (c : Cn) (G : GS) (cl : Caller) : CI → L2.St → Hp → (Int → Int → Hp → Prop) → Prop
  | .rng1 a => tRg1 (tE c G cl a)
  | .rng2 a b => tRg2 (tE c G cl a) (tE c G cl b)
  | _ => fun _ _ _ => True
/-- what a range gives -/
theorem rng_use {it : CI} {xs : List D} (hit : (∃ a, it = .rng1 a) ∨ ∃ a b, it = .rng2 a b) (s : Sta c F Z H σ τ A) (e : evI G cl p it τ = some (xs, τ')) {Q : Int → Int → Hp → Prop}
    (k : ∀ i j H' Z' A', Post c p F Z H σ τ A τ' H' Z' A' → xs = rngD i j → rngOk i j = true → Q i j H') : tR c G cl it σ H Q := by
  rcases hit with ⟨a, rfl⟩ | ⟨a, b, rfl⟩
  · unfold evI at e
    split at e
    · rename_i i τ1 e1
      split at e
      · rename_i ok
        cases e
        exact one_op s e1 fun x H1 Z1 A1 po w => ⟨i, w, k 0 i H1 Z1 A1 po rfl ok⟩
      · cases e
    · cases e
  · unfold evI at e
    split at e
    · rename_i i τ1 e1
      split at e
      · rename_i j τ2 e2
        split at e
        · rename_i ok
          cases e
          refine one_op s e1 fun x H1 Z1 A1 po w => one_op po.st e2 fun y H2 Z2 A2 po2 w2 => ?_
          exact ⟨i, j, w, w2, k i j H2 Z2 A2 (po.trans po2 id) rfl ok⟩
        · cases e
      · cases e
    · cases e
theorem rgok {i j : Int} (h : rngOk i j = true) (hl : (rngD i j).length ≤ SL) : RgOk i j := by
  obtain ⟨h1, h2, h3, h4⟩ := rngOk_of h
  exact ⟨h1, h2, h3, h4, by rw [rng_len] at hl; exact hl⟩
theorem s_lrng {it : CI} {e : Expr} (hit : (∃ a, it = .rng1 a) ∨ ∃ a b, it = .rng2 a b) (h : PE X e (tLstRg (tR c G cl it))) : PE X e (tE c G cl (.lrng it)) := pe_imp h fun σ H Q q => by
  obtain ⟨p, F, Z, τ, A, r, τ', s, e, k⟩ := q
  unfold evE at e
  split at e
  · rename_i xs τ1 e1
    split at e
    · rename_i hl
      cases e
      refine rng_use hit s e1 fun i j H1 Z1 A1 po ex ok => ?_
      subst ex
      exact ⟨rgok ok hl, fun q hq => fin_new po (.inr (.inr ⟨q, _, _, rfl, rfl, hq, rfl, rgv_rep i j⟩)) k⟩
    · cases e
  · cases e
end
end
end Ev

/-! Ev, part J: list comprehensions. -/
namespace Ev
open PySem L2 PyProof.Rows
/-! ### names of a block hidden, and brought back -/
theorem hide_spec : ∀ {own : List Nat} {τ τ' : T}, hideO own τ = some τ' → τ'.length = τ.length ∧ (∀ j, j ∉ own → τ'[j]? = τ[j]?) ∧ ∀ j ∈ own, τ'[j]? = some none ∧ (τ[j]? = some none ∨ ∃ d, τ[j]? = some (some (.v d)))
  | [], τ, τ', h => by
    cases h
    exact ⟨rfl, fun _ _ => rfl, fun j hj => by cases hj⟩
  | i :: is, τ, τ', h => by
    unfold hideO at h
    split at h
    · rename_i τ1 e1
      obtain ⟨l, o, m⟩ := hide_spec e1
      split at h
      · rename_i e2
        cases h
        refine ⟨l, fun j hj => o j fun z => hj (List.mem_cons_of_mem _ z), fun j hj => ?_⟩
        rcases List.mem_cons.mp hj with rfl | hj
        · refine ⟨e2, ?_⟩
          by_cases z : j ∈ is
          · exact (m j z).2
          · rw [o j z] at e2
            exact .inl e2
        · exact m j hj
      · rename_i d e2
        cases h
        have li : i < τ1.length := (List.getElem?_eq_some_iff.mp e2).1
        refine ⟨by rw [List.length_set]; exact l, fun j hj => ?_, fun j hj => ?_⟩
        · have : j ≠ i := fun z => hj (by rw [z]; simp)
          rw [List.getElem?_set_ne (Ne.symm this)]
          exact o j fun z => hj (List.mem_cons_of_mem _ z)
        · by_cases z : j = i
          · subst z
            refine ⟨List.getElem?_set_self li, ?_⟩
            by_cases z : j ∈ is
            · exact (m j z).2
            · rw [o j z] at e2
              exact .inr ⟨d, e2⟩
          · rw [List.getElem?_set_ne (Ne.symm z)]
            rcases List.mem_cons.mp hj with y | hj
            · exact absurd y z
            · exact m j hj
      · cases h
    · cases h
theorem back_len {τ0 : T} : ∀ (own : List Nat) (τ : T), (backO τ0 own τ).length = τ.length
  | [], τ => rfl
  | i :: is, τ => by rw [backO, List.length_set, back_len is]
theorem back_spec {τ0 : T} : ∀ (own : List Nat) (τ : T) (j : Nat), (backO τ0 own τ)[j]? = if j ∈ own then (if j < τ.length then some ((τ0[j]?).getD none) else none) else τ[j]?
  | [], τ, j => by simp [backO]
  | i :: is, τ, j => by
    rw [backO]
    by_cases z : j = i
    · subst z
      rw [if_pos (by simp)]
      by_cases l : j < τ.length
      · rw [if_pos l, List.getElem?_set_self (by rw [back_len]; exact l)]
      · rw [if_neg l]
        exact List.getElem?_eq_none (by rw [List.length_set, back_len]; omega)
    · rw [List.getElem?_set_ne (Ne.symm z), back_spec is τ j]
      have : (j ∈ i :: is) ↔ j ∈ is := by simp [z]
      simp [this]
theorem wipe_in {σ : L2.St} : ∀ {own : List Nat} {j : Nat}, j ∈ own → j < σ.length → (L2.wipe σ own)[j]? = some none
  | i :: is, j, h, l => by
    unfold L2.wipe
    by_cases z : j = i
    · subst z
      exact List.getElem?_set_self (by rw [wipe_length]; exact l)
    · rw [List.getElem?_set_ne (Ne.symm z)]
      rcases List.mem_cons.mp h with y | h
      · exact absurd y z
      · exact wipe_in h l
theorem wipe_eq {σ σ2 : L2.St} {own : List Nat} (hl : σ2.length = σ.length) (h : ∀ j, j ∉ own → σ2[j]? = (L2.wipe σ own)[j]?) : L2.wipe σ2 own = L2.wipe σ own := by
  apply List.ext_getElem?
  intro j
  by_cases z : j ∈ own
  · by_cases l : j < σ.length
    · rw [wipe_in z (by omega), wipe_in z l]
    · rw [List.getElem?_eq_none (by rw [wipe_length]; omega), List.getElem?_eq_none (by rw [wipe_length]; omega)]
  · rw [wipe_out z, h j z]
section
variable {c : Cn} {G : GS} {cl : Caller} {F Z H : Hp} {σ : L2.St} {τ τ1 τ2 τ' : T} {A : Nat → List Addr} {p : Bool}
theorem Sta.hide (s : Sta c F Z H σ τ A) {own : List Nat} (h : hideO own τ = some τ') : ∃ A', Sta c F Z H (L2.wipe σ own) τ' A' ∧ ∀ j a, a ∈ A' j → a ∈ A j := by
  obtain ⟨l, o, m⟩ := hide_spec h
  have sub : ∀ j a, a ∈ (fun j => if j ∈ own then [] else A j) j → j ∉ own ∧ a ∈ A j := fun j a ha => by
    have ha' : a ∈ (if j ∈ own then [] else A j) := ha
    by_cases z : j ∈ own
    · rw [if_pos z] at ha'; cases ha'
    · rw [if_neg z] at ha'; exact ⟨z, ha'⟩
  refine ⟨fun j => if j ∈ own then [] else A j, ⟨s.fh, s.zh, s.fz, by rw [l, wipe_length]; exact s.len, fun j m' e => ?_, fun j => ?_, fun i j a h1 h2 => s.dj i j a (sub i a h1).2 (sub j a h2).2, fun j a ha => s.fr j a (sub j a ha).2, s.tz, s.xx⟩, fun j a ha => (sub j a ha).2⟩
  · by_cases z : j ∈ own
    · rw [(m j z).1] at e; cases e
    · rw [o j z] at e
      obtain ⟨v, e1, q⟩ := s.own j m' e
      exact ⟨v, by rw [wipe_out z]; exact e1, by simp only [if_neg z]; exact q⟩
  · by_cases z : j ∈ own
    · simp only [if_pos z]; exact List.nodup_nil
    · simp only [if_neg z]; exact s.nd j
/-- behind the walk the hidden names stand again -/
theorem Sta.back {F1 Z1 H1 : Hp} {A1 A3 : Nat → List Addr} {τ3 : T} {own : List Nat} (s1 : Sta c F1 Z1 H1 σ τ1 A1) (h : hideO own τ1 = some τ2) (zz : Same Z1 Z) (s3 : Sta c F Z H (L2.wipe σ own) τ3 A3) : ∃ A4, Sta c F Z H σ (backO τ1 own τ3) A4 ∧ ∀ j a, a ∈ A4 j → a ∈ A3 j := by
  obtain ⟨l, o, m⟩ := hide_spec h
  have l3 : τ3.length = σ.length := by rw [s3.len, wipe_length]
  have sub : ∀ j a, a ∈ (fun j => if j ∈ own then [] else A3 j) j → j ∉ own ∧ a ∈ A3 j := fun j a ha => by
    have ha' : a ∈ (if j ∈ own then [] else A3 j) := ha
    by_cases z : j ∈ own
    · rw [if_pos z] at ha'; cases ha'
    · rw [if_neg z] at ha'; exact ⟨z, ha'⟩
  refine ⟨fun j => if j ∈ own then [] else A3 j, ⟨s3.fh, s3.zh, s3.fz, by rw [back_len]; exact l3, fun j m' e => ?_, fun j => ?_, fun i j a h1 h2 => s3.dj i j a (sub i a h1).2 (sub j a h2).2, fun j a ha => s3.fr j a (sub j a ha).2, s3.tz, s3.xx⟩, fun j a ha => (sub j a ha).2⟩
  · rw [back_spec] at e
    by_cases z : j ∈ own
    · rw [if_pos z] at e
      by_cases lj : j < τ3.length
      · rw [if_pos lj] at e
        rcases (m j z).2 with q | ⟨d, q⟩
        · rw [q] at e; cases e
        · rw [q] at e
          cases e
          obtain ⟨v, e1, r⟩ := s1.own j _ q
          exact ⟨v, e1, by simp only [if_pos z]; exact ⟨rfl, Rep.mono zz d v r.2⟩⟩
      · rw [if_neg lj] at e; cases e
    · rw [if_neg z] at e
      obtain ⟨v, e1, q⟩ := s3.own j m' e
      exact ⟨v, by rw [wipe_out z] at e1; exact e1, by simp only [if_neg z]; exact q⟩
  · by_cases z : j ∈ own
    · simp only [if_pos z]; exact List.nodup_nil
    · simp only [if_neg z]; exact s3.nd j
theorem NewR.dval {d : D} {z : V} {H' : Hp} (s : Sta c F Z H σ τ A) (n : NewR c Z H (.d d) z H') : ∃ Z', Same Z Z' ∧ Sta c F Z' H' σ τ A ∧ Rep c Z' d z ∧ Same H H' ∧ ∀ a, H a ≠ none → Z a = none → Z' a = none := by
  rcases n with ⟨d', e, rfl, q⟩ | ⟨a, vs, ds, e, rfl, na, rfl, q⟩ | ⟨a, vs, ds, e, _⟩
  · cases e
    exact ⟨Z, Same.refl _, s, q, Same.refl _, fun _ _ z => z⟩
  · cases e
    have po := tup_new (p := true) s q na
    exact ⟨_, po.zz, po.st, ⟨a, vs, rfl, upd_same, RepL.mono po.zz ds vs q⟩, Same.upd na, fun b hb z => by
      rw [upd_ne (fun y => hb (by rw [y]; exact na))]; exact z⟩
  · cases e
section
variable {X : Cx} {tg elt iter : Expr} {a b d : CE} {pos : Pos}
/-- a comprehension's turns -/
theorem lc_turns {own : List Nat} {tgt : Tg} {t : CT} {ce : CE} {J : It} {ds out : List D} {τ3 : T} {Z1 H1 : Hp} {A1 : Nat → List Addr} {D : Addr} {Qd : Hp → Prop} (wd : WalkD c Z1 J ds) (hown : ∀ i ∈ tgt.slots, i ∈ own) (sD : H1 D = none)
    (s1 : Sta c F Z1 H1 (L2.wipe σ own) τ2 A1)
    (e : compL (bindTg [] tgt) (evT G cl p t) (fun t => match evE G cl p ce t with
          | some (r, t') => esc p t' r
          | none => none) own ds [] τ2 = some (out, τ3))
    (k : ∀ H' Z' A' vs, Same Z1 Z' → Sta c F Z' H' (L2.wipe σ own) τ3 A' → Z' D = none → (∀ i, D ∉ A' i) → H' D = some (.lst vs) → RepL c Z' out vs → Qd H') :
    ∃ W : Nat → Nat → Hp → Prop, (∃ m, W 0 m (L2.upd H1 D (.lst []))) ∧ ∀ i m H, W i m H →
      (J.stop i H ∧ Qd H) ∨ (J.go i H ∧ ∃ Nx : Hp → Prop, (∀ H', Nx H' → ∃ m', m' < m ∧ W (i + 1) m' H') ∧ ∀ x H', J.yld i H x H' → gT c.K tgt x (L2.wipe σ own) H' fun σ2 H2 => L2.wipe σ2 own = L2.wipe σ own ∧ tT c G cl t σ2 H2 fun b H3 =>
        if b = true then tE c G cl ce σ2 H3 fun y H4 => ∃ acc, H4 D = some (.lst acc) ∧ acc.length < sizeLine ∧ Nx (L2.upd H4 D (.lst (acc ++ [y]))) else Nx H3) := by
  have fD : F D = none := s1.fh.free sD
  refine lc_it wd (fun i H => ∃ Z' τi Ai acc vs, Same Z1 Z' ∧ Sta c F Z' H (L2.wipe σ own) τi Ai ∧ Z' D = none ∧ (∀ j, D ∉ Ai j) ∧ H D = some (.lst vs) ∧ RepL c Z' acc vs ∧ compL (bindTg [] tgt) (evT G cl p t) (fun t => match evE G cl p ce t with
          | some (r, t') => esc p t' r
          | none => none) own (ds.drop i) acc τi = some (out, τ3)) ?_ ?_ ?_ ?_
  · have g : Same H1 (L2.upd H1 D (.lst [])) := Same.upd sD
    exact ⟨Z1, τ2, A1, [], [], Same.refl _, s1.grow g (s1.tz.upd fun _ z => by cases z), s1.zh.free sD, fun j z => (s1.fr j D z).2.2 sD, upd_same, rfl, e⟩
  · rintro i H _ ⟨Z', τi, Ai, acc, vs, zz, st, _⟩
    exact zz.trans st.zh
  · rintro i x H H' hi ⟨Z', τi, Ai, acc, vs, zz, st, zD, aD, hD, rl, ev⟩ ⟨dd, hd, nw⟩
    have dr : ds.drop i = dd :: ds.drop (i + 1) := by
      rw [List.getElem?_eq_some_iff] at hd
      obtain ⟨l, e⟩ := hd
      rw [List.drop_eq_getElem_cons l, e]
    rw [dr] at ev
    unfold compL at ev
    have nw' : NewR c Z' H (.d dd) x H' := by
      rcases nw with ⟨d', e1, e2, q⟩ | ⟨a, vs, ds', e1, e2, na, e3, q⟩ | ⟨a, vs, ds', e1, _⟩
      · exact .inl ⟨d', e1, e2, Rep.mono zz _ _ q⟩
      · exact .inr (.inl ⟨a, vs, ds', e1, e2, na, e3, RepL.mono zz _ _ q⟩)
      · cases e1
    obtain ⟨Z2, z2, s2, rd, hh, zk⟩ := NewR.dval st nw'
    have hD' : H' D = some (.lst vs) := hh _ _ hD
    have zD2 : Z2 D = none := zk D (by rw [hD]; intro z; cases z) zD
    split at ev
    · cases ev
    · rename_i τ1 e1
      split at ev
      · cases ev
      · rename_i b0 τ4 e2
        -- the new list is kept apart
        have sF : Sta c (fzw F H' [D]) Z2 H' (L2.wipe σ own) τi Ai := s2.fin fun q hq => by
          cases List.mem_singleton.mp hq
          exact ⟨zD2, aD⟩
        have un : ∀ {Z5 H5 : Hp} {σ5 : L2.St} {τ5 : T} {A5 : Nat → List Addr}, Sta c (fzw F H' [D]) Z5 H5 σ5 τ5 A5 → Sta c F Z5 H5 σ5 τ5 A5 ∧ H5 D = some (.lst vs) ∧ Z5 D = none ∧ ∀ i, D ∉ A5 i := fun {Z5 H5 σ5 τ5 A5} s5 => by
          obtain ⟨q1, q2⟩ := s5.fout (F := F) fun q hq => by
            cases List.mem_singleton.mp hq
            exact ⟨fD, by rw [hD']; intro z; cases z⟩
          obtain ⟨k1, k2, k3⟩ := q2 D (by simp)
          exact ⟨q1, by rw [k1]; exact hD', k2, k3⟩
        refine bind_ok tgt e1 sF rd fun σ5 A5 s5 l5 o5 _ => ⟨wipe_eq (by rw [l5, wipe_length]) fun j hj => o5 j fun z => hj (hown j z), ?_⟩
        refine ⟨p, _, Z2, τ1, A5, b0, τ4, s5, e2, fun H6 Z6 A6 po6 => ?_⟩
        have wq : L2.wipe σ5 own = L2.wipe σ own := wipe_eq (by rw [l5, wipe_length]) fun j hj => o5 j fun z => hj (hown j z)
        cases b0 with
        | false =>
          refine iteF ?_
          simp only at ev
          split at ev
          · rename_i τ5 e5
            obtain ⟨A7, s7, sub7⟩ := po6.st.hide e5
            rw [wq] at s7
            obtain ⟨s8, k1, k2, k3⟩ := un s7
            exact ⟨Z6, τ5, A7, acc, vs, (zz.trans z2).trans po6.zz, s8, k2, k3, k1, RepL.mono (z2.trans po6.zz) _ _ rl, ev⟩
          · cases ev
        | true =>
          refine iteT ?_
          simp only at ev
          split at ev
          · cases ev
          · rename_i dd2 τ5 e5
            split at ev
            · rename_i hl
              split at ev
              · rename_i τ6 e6
                split at e5
                · rename_i r0 t0 e7
                  refine ⟨p, _, Z6, τ4, A6, r0, t0, po6.st, e7, fun y H7 Z7 A7 B7 po7 re7 => ?_⟩
                  obtain ⟨Z8, A8, po8, ry⟩ := esc_ok po7.st re7 e5
                  obtain ⟨A9, s9, sub9⟩ := po8.st.hide e6
                  rw [wq] at s9
                  obtain ⟨s10, k1, k2, k3⟩ := un s9
                  have rl' := RepL.mono (((z2.trans po6.zz).trans po7.zz).trans po8.zz) _ _ rl
                  refine ⟨vs, k1, by rw [RepL.len _ _ rl', ← sl_eq]; exact hl, Z8, τ6, A9, acc ++ [dd2], vs ++ [y], (((zz.trans z2).trans po6.zz).trans po7.zz).trans po8.zz, ?_, k2, k3, upd_same, RepL.append _ _ _ _ rl' (RepL.one ry), ev⟩
                  -- the list has grown
                  refine ⟨fun b u e => ?_, fun b u e => ?_, s10.fz, s10.len, fun j m e => ?_, s10.nd, s10.dj, fun j b hb => ?_, s10.tz.upd (fun _ z => by cases z), s10.xx⟩
                  · rw [upd_ne (ne_of_none e fD)]; exact s10.fh _ _ e
                  · rw [upd_ne (ne_of_none e k2)]; exact s10.zh _ _ e
                  · obtain ⟨v, q1, q2⟩ := s10.own j m e
                    exact ⟨v, q1, OR.keep (Same.refl _) m v (A9 j) (fun b hb => upd_ne fun z => k3 j (by rw [← z]; exact hb)) q2⟩
                  · obtain ⟨q1, q2, q3⟩ := s10.fr j b hb
                    exact ⟨q1, q2, by rw [upd_ne fun z => k3 j (by rw [← z]; exact hb)]; exact q3⟩
                · cases e5
              · cases ev
            · cases ev
  · rintro H ⟨Z', τi, Ai, acc, vs, zz, st, zD, aD, hD, rl, ev⟩
    rw [List.drop_length] at ev
    unfold compL at ev
    cases ev
    exact k H Z' Ai vs zz st zD aD hD rl
theorem lc_use {own : List Nat} {tgt : Tg} {it : CI} {t : CT} {ce : CE} {r : R} (s : Sta c F Z H σ τ A) (hown : ∀ i ∈ tgt.slots, i ∈ own) (e : evE G cl p (.lc own tgt it t ce) τ = some (r, τ')) {Q : VK} (k : ∀ x H' Z' A' B, Post c p F Z H σ τ A τ' H' Z' A' → Res c F Z' H' σ τ' A' r x B → Q x H') :
    tLc (tI c G cl it) (gT c.K tgt) (tT c G cl t) (tE c G cl ce) own σ H Q := by
  unfold evE at e
  split at e
  · cases e
  · rename_i np
    split at e
    · cases e
    · rename_i xs τ1 e1
      split at e
      · cases e
      · rename_i τ2 e2
        split at e
        · cases e
        · rename_i ds τ3 e3
          cases e
          refine ⟨p, F, Z, τ, A, xs, τ1, s, e1, fun J H1 Z1 A1 po wd D hD => ?_⟩
          obtain ⟨A2, s2, sub2⟩ := po.st.hide e2
          refine lc_turns wd hown hD s2 e3 fun H' Z' A' vs zz st zD aD hD' rl => ?_
          obtain ⟨A4, s4, sub4⟩ := Sta.back po.st e2 zz st
          refine k _ H' Z' A4 [D] ⟨po.zz.trans zz, s4, fun hp => absurd hp np⟩ ⟨⟨D, vs, rfl, rfl, hD', rl⟩, by simp, fun i q hq h => ?_, fun q hq => ?_⟩
          · cases List.mem_singleton.mp h
            exact aD i (sub4 i _ hq)
          · cases List.mem_singleton.mp hq
            exact ⟨po.st.fh.free hD, zD, by rw [hD']; intro z; cases z⟩
theorem s_lc {own : List (Str × Nat)} {tgt : Tg} {it : CI} {t : CT} {ce : CE} {e : Expr} (hown : ∀ i ∈ tgt.slots, i ∈ own.map (·.2)) (h : PE X e (tLc (tI c G cl it) (gT c.K tgt) (tT c G cl t) (tE c G cl ce) (own.map (·.2)))) : PE X e (tE c G cl (.lc (own.map (·.2)) tgt it t ce)) :=
  pe_imp h fun σ H Q q => by
    obtain ⟨p, F, Z, τ, A, r, τ', s, e, k⟩ := q
    exact lc_use s hown e k
end
end
end Ev

/-! Ev, part K: statements. -/
namespace Ev
open PySem L2 PyProof.Rows
/-- slots whose things come back to the caller stay -/
noncomputable def Kp (io : List Nat) (σ σ' : L2.St) : Prop := ∀ i, io.contains i = true → σ'[i]? = σ[i]?
theorem Kp.refl (io : List Nat) (σ : L2.St) : Kp io σ σ := fun _ _ => rfl
theorem Kp.trans {io : List Nat} {σ σ1 σ2 : L2.St} (a : Kp io σ σ1) (b : Kp io σ1 σ2) : Kp io σ σ2 := fun i h => (b i h).trans (a i h)
noncomputable def Goes (c : Cn) (F Z : Hp) (io : List Nat) (σ : L2.St) (D : Ends) : Fl → Prop
  | .nx τ' => ∀ σ' H' Z' A', Same Z Z' → Sta c F Z' H' σ' τ' A' → Kp io σ σ' → D.nx σ' H'
  | .bk τ' => ∀ σ' H' Z' A', Same Z Z' → Sta c F Z' H' σ' τ' A' → Kp io σ σ' → D.bk σ' H'
  | .ct τ' => ∀ σ' H' Z' A', Same Z Z' → Sta c F Z' H' σ' τ' A' → Kp io σ σ' → D.ct σ' H'
  | .ret m τ' => ∀ x σ' H' Z' A' B, Same Z Z' → Sta c F Z' H' σ' τ' A' → Kp io σ σ' → Res c F Z' H' σ' τ' A' (.m m) x B → D.rt x H'
noncomputable def tS (c : Cn) (G : GS) (cl : Caller) (io : List Nat) (s : CS) : TS := fun D σ H => ∃ F Z τ A fl, Sta c F Z H σ τ A ∧ evS G cl io s τ = some fl ∧ Goes c F Z io σ D fl
noncomputable def tSs (c : Cn) (G : GS) (cl : Caller) (io : List Nat) (s : CSs) : TS := fun D σ H => ∃ F Z τ A fl, Sta c F Z H σ τ A ∧ evSs G cl io s τ = some fl ∧ Goes c F Z io σ D fl
theorem ps_imp {X : Cx} {s : Stmt} {t t' : TS} (h : PS X s t) (hi : ∀ D σ H, t' D σ H → t D σ H) : PS X s t' := ⟨fun pins s σ H D I q => h.run pins s σ H D I (hi D σ H q)⟩
theorem pss_imp {X : Cx} {s : List Stmt} {t t' : TS} (h : PSs X s t) (hi : ∀ D σ H, t' D σ H → t D σ H) : PSs X s t' := ⟨fun pins s σ H D I q => h.run pins s σ H D I (hi D σ H q)⟩
section
variable {c : Cn} {G : GS} {cl : Caller} {F Z H : Hp} {σ : L2.St} {τ τ1 τ2 τ' : T} {A : Nat → List Addr} {p : Bool} {io : List Nat}
theorem Goes.mono {σ1 : L2.St} {Z1 : Hp} {D : Ends} {fl : Fl} (g : Goes c F Z io σ D fl) (z : Same Z Z1) (k : Kp io σ σ1) : Goes c F Z1 io σ1 D fl := by
  cases fl with
  | nx τ' => exact fun σ' H' Z' A' zz s kk => g σ' H' Z' A' (z.trans zz) s (k.trans kk)
  | bk τ' => exact fun σ' H' Z' A' zz s kk => g σ' H' Z' A' (z.trans zz) s (k.trans kk)
  | ct τ' => exact fun σ' H' Z' A' zz s kk => g σ' H' Z' A' (z.trans zz) s (k.trans kk)
  | ret m τ' => exact fun x σ' H' Z' A' B zz s kk => g x σ' H' Z' A' B (z.trans zz) s (k.trans kk)
/-- a thing of one's own put into a slot -/
theorem set_own (s : Sta c F Z H σ τ A) {m : M} {x : V} {B : List Addr} (q : Res c F Z H σ τ A (.m m) x B) (i : Nat) : ∃ A', Sta c F Z H (σ.set i (some x)) (τ.set i (some m)) A' := by
  by_cases li : i < σ.length
  · exact ⟨_, s.put (B' := B) (i := i) (σ' := σ.set i (some x)) (by rw [List.getElem?_set_self li]) (fun j hj => List.getElem?_set_ne (Ne.symm hj)) (by simp) (Same.refl _) s.zh s.fh s.fz s.tz q.rr q.nd (fun j a _ ha => ⟨rfl, (s.fr j a ha).2.1, q.dj j a ha⟩) fun a ha => ⟨(q.fr a ha).1, (q.fr a ha).2.1⟩⟩
  · rw [List.set_eq_of_length_le (by omega : σ.length ≤ i), List.set_eq_of_length_le (by rw [s.len]; omega : τ.length ≤ i)]
    exact ⟨A, s⟩
theorem set_val (s : Sta c F Z H σ τ A) {d : D} {x : V} (q : Rep c Z d x) (i : Nat) : ∃ A', Sta c F Z H (σ.set i (some x)) (τ.set i (some (.v d))) A' :=
  set_own s (m := .v d) (B := []) ⟨⟨rfl, q⟩, List.nodup_nil, fun _ _ _ h => (by cases h), fun _ h => by cases h⟩ i
theorem kp_set {i : Nat} {v : Option V} (h : ¬ io.contains i = true) : Kp io σ (σ.set i v) := fun j hj => by
  have : i ≠ j := fun z => h (z ▸ hj)
  exact List.getElem?_set_ne this
/-- what is given to a name: held there alone -/
theorem give_ok (s : Sta c F Z H σ τ A) {r : R} {x : V} {B : List Addr} {m : M} (q : Res c F Z H σ τ A r x B) (h : give τ r = some (m, τ')) : ∃ Z' A' B', Same Z Z' ∧ Sta c F Z' H σ τ' A' ∧ Res c F Z' H σ τ' A' (.m m) x B' := by
  have gen : ∀ {d : D} {τ1 : T}, esc false τ r = some (d, τ1) → some (M.v d, τ1) = some (m, τ') → ∃ Z' A' B', Same Z Z' ∧ Sta c F Z' H σ τ' A' ∧ Res c F Z' H σ τ' A' (.m m) x B' := by
    intro d τ1 e1 e2
    cases e2
    obtain ⟨Z1, A1, po, rp⟩ := esc_ok s q e1
    exact ⟨Z1, A1, [], po.zz, po.st, ⟨rfl, rp⟩, List.nodup_nil, fun _ _ _ h => (by cases h), fun _ h => by cases h⟩
  unfold give at h
  split at h
  · cases h
    exact ⟨Z, A, B, Same.refl _, s, q⟩
  · split at h
    · rename_i d τ1 e1
      exact gen e1 h
    · cases h
mutual
theorem bindTg_io : ∀ (tg : Tg) {d : D} {τ τ1 : T}, bindTg io tg d τ = some τ1 → ∀ i ∈ tg.slots, ¬ io.contains i = true
  | .one i, d, τ, τ1, h, j, hj => by
    unfold bindTg at h
    split at h
    · cases h
    · rename_i n
      cases List.mem_singleton.mp hj
      exact n
  | .tup ts, d, τ, τ1, h, j, hj => by
    unfold bindTg at h
    split at h
    · split at h
      · exact bindTgs_io ts h (by rename_i hl; omega) j hj
      · cases h
    · split at h
      · exact bindTgs_io ts h (by rename_i hl; omega) j hj
      · cases h
    · cases h
theorem bindTgs_io : ∀ (ts : Tgs) {ds : List D} {τ τ1 : T}, bindTgs io ts ds τ = some τ1 → ts.len ≤ ds.length → ∀ i ∈ ts.slots, ¬ io.contains i = true
  | .nil, ds, τ, τ1, h, hl, j, hj => by cases hj
  | .cons t r, [], τ, τ1, h, hl, j, hj => by simp [Tgs.len] at hl
  | .cons t r, d :: ds, τ, τ1, h, hl, j, hj => by
    unfold bindTgs at h
    split at h
    · rename_i τ2 e1
      rcases List.mem_append.mp (show j ∈ t.slots ++ r.slots from hj) with z | z
      · exact bindTg_io t e1 j z
      · exact bindTgs_io r h (by simpa [Tgs.len] using hl) j z
    · cases h
end
theorem kp_bind {tg : Tg} {d : D} {σ1 : L2.St} (h : bindTg io tg d τ = some τ1) (o : ∀ j, j ∉ tg.slots → σ1[j]? = σ[j]?) : Kp io σ σ1 := fun j hj => o j fun z => bindTg_io tg h j z hj
theorem ORF.put {f : Nat} {m : M} {s : Str} {x : V} {B' : List Addr} (hs : c.attrs[f]? = some s) (o : OR c Z H m x B') : ∀ {fs : List (Nat × M)} {gs : List (Str × V)} {B : List Addr}, ORF c Z H fs gs B → ∃ B3, ORF c Z H (putA f m fs) (putF s x gs) B3 ∧ (∀ b ∈ B3, b ∈ B' ∨ b ∈ B) ∧ (B.Nodup → B'.Nodup → (∀ b ∈ B', b ∉ B) → B3.Nodup)
  | [], gs, B, q => by
    obtain ⟨rfl, rfl⟩ := q
    refine ⟨B' ++ [], ⟨s, x, [], B', [], rfl, rfl, hs, o, rfl, rfl⟩, fun b hb => .inl (by simpa using hb), fun _ h _ => by simpa using h⟩
  | (g, n) :: fs, gs, B, q => by
    obtain ⟨s1, v, r, B1, B2, rfl, rfl, hs1, q1, q2⟩ := q
    by_cases e : g = f
    · subst e
      have es : s1 = s := by rw [hs1] at hs; exact Option.some.inj hs
      subst es
      refine ⟨B' ++ B2, ?_, fun b hb => ?_, fun h1 h2 h3 => ?_⟩
      · have e1 : putA g m ((g, n) :: fs) = (g, m) :: fs := by simp [putA]
        have e2 : putF s1 x ((s1, v) :: r) = (s1, x) :: r := by simp [putF]
        rw [e1, e2]
        exact ⟨s1, x, r, B', B2, rfl, rfl, hs1, o, q2⟩
      · rcases List.mem_append.mp hb with z | z
        · exact .inl z
        · exact .inr (List.mem_append_right _ z)
      · exact List.nodup_append.mpr ⟨h2, (List.nodup_append.mp h1).2.1, fun a ha b hb e => by
          subst e; exact h3 a ha (List.mem_append_right _ hb)⟩
    · have ns : ¬ s1 = s := fun z => e (attr_inj hs1 (by rw [z]; exact hs))
      obtain ⟨B3, o3, m3, n3⟩ := ORF.put hs o q2
      refine ⟨B1 ++ B3, ?_, fun b hb => ?_, fun h1 h2 h3 => ?_⟩
      · have e1 : putA f m ((g, n) :: fs) = (g, n) :: putA f m fs := by simp [putA, e]
        have e2 : putF s x ((s1, v) :: r) = (s1, v) :: putF s x r := by
          show (if s1 = s then _ else _) = _
          rw [if_neg ns]
        rw [e1, e2]
        exact ⟨s1, v, _, B1, B3, rfl, rfl, hs1, q1, o3⟩
      · rcases List.mem_append.mp hb with z | z
        · exact .inr (List.mem_append_left _ z)
        · rcases m3 b z with y | y
          · exact .inl y
          · exact .inr (List.mem_append_right _ y)
      · obtain ⟨a1, a2, a3⟩ := List.nodup_append.mp h1
        refine List.nodup_append.mpr ⟨a1, n3 a2 h2 fun b hb z => h3 b hb (List.mem_append_right _ z), fun a ha b hb e => ?_⟩
        subst e
        rcases m3 a hb with y | y
        · exact h3 a y (List.mem_append_left _ ha)
        · exact a3 a ha a y rfl
section
variable {X : Cx} {ea eb ec : Expr} {a b d : CE} {pos : Pos}
theorem u_set {i : Nat} {D : Ends} (q : tS c G cl io (.set i a) D σ H) : (tAsg (tE c G cl a) (gName i)) D σ H := by
  obtain ⟨F, Z, τ, A, fl, s, e, g⟩ := q
  unfold evS at e
  split at e
  · cases e
  · rename_i nio
    split at e
    · cases e
    · rename_i r τ1 e1
      split at e
      · cases e
      · rename_i m τ2 e2
        cases e
        refine ⟨false, F, Z, τ, A, r, τ1, s, e1, fun x H1 Z1 A1 B po re => ?_⟩
        obtain ⟨Z2, A2, B2, zz, s2, re2⟩ := give_ok po.st re e2
        obtain ⟨A3, s3⟩ := set_own s2 re2 i
        exact g _ H1 Z2 A3 (po.zz.trans zz) s3 (kp_set nio)
theorem k_set {i : Nat} {st : Stmt} (h : PS X st (tAsg (tE c G cl a) (gName i))) : PS X st (tS c G cl io (.set i a)) := ps_imp h fun D σ H q => u_set q
theorem u_setT {tg : Tg} {D : Ends} (q : tS c G cl io (.setT tg a) D σ H) : (tAsg (tE c G cl a) (gT c.K tg)) D σ H := by
  obtain ⟨F, Z, τ, A, fl, s, e, g⟩ := q
  unfold evS at e
  split at e
  · cases e
  · rename_i r τ1 e1
    split at e
    · rename_i d τ2 e2
      cases e3 : bindTg io tg d τ2 with
      | none => rw [e3] at e; cases e
      | some τ3 =>
        rw [e3] at e
        cases e
        refine ⟨false, F, Z, τ, A, r, τ1, s, e1, fun x H1 Z1 A1 B po re => ?_⟩
        obtain ⟨Z2, A2, po2, rp⟩ := esc_ok po.st re e2
        exact bind_ok tg e3 po2.st rp fun σ1 A3 s3 _ o3 _ => g σ1 H1 Z2 A3 (po.zz.trans po2.zz) s3 (kp_bind e3 o3)
    · cases e
theorem k_setT {tg : Tg} {st : Stmt} (h : PS X st (tAsg (tE c G cl a) (gT c.K tg))) : PS X st (tS c G cl io (.setT tg a)) := ps_imp h fun D σ H q => u_setT q
theorem k_par {i j : Nat} {st : Stmt} (h : PS X st (tPar i j (tX c G cl (.cons a (.cons b .nil))))) : PS X st (tS c G cl io (.par i j a b)) := ps_imp h fun D σ H q => by
  obtain ⟨F, Z, τ, A, fl, s, e, g⟩ := q
  unfold evS at e
  split at e
  · cases e
  · rename_i nio
    have n1 : ¬ io.contains i = true := fun z => nio (by rw [z]; rfl)
    have n2 : ¬ io.contains j = true := fun z => nio (by rw [z]; simp)
    split at e
    · rename_i x y τ1 e1
      cases e
      refine ⟨false, F, Z, τ, A, [x, y], τ1, s, e1, fun xs H1 Z1 A1 po rl => ?_⟩
      obtain ⟨v, r, rfl, q1, w, r', rfl, q2, rfl⟩ := rl
      refine ⟨v, w, rfl, ?_⟩
      obtain ⟨A2, s2⟩ := set_val po.st q1 i
      obtain ⟨A3, s3⟩ := set_val s2 q2 j
      exact g _ H1 Z1 A3 po.zz s3 ((kp_set n1).trans (kp_set n2))
    · cases e
noncomputable def tiA (op : Operator) : TIp := fun x y H Q => ∃ i j z, x = .int i ∧ y = .int j ∧ augD op i j = some z ∧ Q (.int z) H
theorem mulOk_of {x y : Int} (h : (-(2 ^ 64) < x ∧ x < 2 ^ 64) ∨ (-(2 ^ 64) < y ∧ y < 2 ^ 64)) : IntMulOk x y := by
  rcases h with h | h
  · exact IntMulOk.of_left (intBits_le (by omega))
  · exact IntMulOk.of_right (intBits_le (by omega))
theorem ip_aug (op : Operator) : PIp X op (tiA op) := by
  intro pins s σ H x y v u Q I r1 r2 h
  obtain ⟨i, j, z, rfl, rfl, e, q⟩ := h
  cases op with
  | Add => cases e; exact ip_add pins s σ H _ _ v u Q I r1 r2 ⟨i, j, rfl, rfl, q⟩
  | Sub => cases e; exact ip_sub pins s σ H _ _ v u Q I r1 r2 ⟨i, j, rfl, rfl, q⟩
  | Mult =>
    unfold augD at e
    simp only at e
    split at e
    · rename_i hm
      cases e
      obtain ⟨t, rfl⟩ := r1
      obtain ⟨t', rfl⟩ := r2
      exact PyProof.Rows.imul_int ⟨.int _, H, I.tok _, ⟨_, rfl⟩, q⟩ (mulOk_of hm)
    · cases e
  | _ => cases e
theorem k_aug {i : Nat} {op : Operator} {st : Stmt} (h : PS X st (tAug i (tE c G cl a) (tiA op))) : PS X st (tS c G cl io (.aug i op a)) := ps_imp h fun D σ H q => by
  obtain ⟨F, Z, τ, A, fl, s, e, g⟩ := q
  unfold evS at e
  split at e
  · cases e
  · rename_i nio
    split at e
    · rename_i x ex
      split at e
      · rename_i y τ1 e1
        split at e
        · rename_i z ez
          cases e
          obtain ⟨v, hv, o⟩ := s.own i _ (slotM_some ex)
          refine ⟨v, hv, ?_⟩
          refine one_op s e1 fun w H1 Z1 A1 po ow => ⟨x, y, z, o.2, ow, ez, ?_⟩
          obtain ⟨A2, s2⟩ := set_val (d := .int z) (x := .int z) po.st rfl i
          exact g _ H1 Z1 A2 po.zz s2 (kp_set nio)
        · cases e
      · cases e
    · cases e
theorem k_fset {i f : Nat} {nm : Str} {st : Stmt} (hK : X.K = c.K) (hf : c.attrs[f]? = some nm) (hfok : ∀ ci kk, G.cls.lookup ci = some kk → kk.fl.contains f = true → c.fok ci f = true) (hc : ∀ (k : Nat) (C : Addr), c.cls.lookup k = some C → Cls X.K C ∧ (c.fok k f = true → NoAttr X.K C nm)) (h : PS X st (sFld X.K (tVar i) (tE c G cl a) nm)) : PS X st (tS c G cl io (.fset i f a)) := ps_imp h fun D σ H q => by
  obtain ⟨F, Z, τ, A, fl, s, e, g⟩ := q
  unfold evS at e
  split at e
  · cases e
  · rename_i r τ1 e1
    split at e
    · cases e
    · rename_i m τ2 e2
      split at e
      · rename_i ci fs e3
        split at e
        · rename_i hok
          cases e
          refine ⟨false, F, Z, τ, A, r, τ1, s, e1, fun x H1 Z1 A1 B po re => ?_⟩
          obtain ⟨Z2, A2, B2, zz, s2, re2⟩ := give_ok po.st re e2
          obtain ⟨v, hv, o⟩ := s2.own i _ (slotM_some e3)
          obtain ⟨ad, C, dx, gs, B0, rfl, eA, hC, hH, oF, ok⟩ := o
          have fok : c.fok ci f = true := by
            cases e4 : G.cls.lookup ci with
            | none => rw [e4] at hok; simp at hok
            | some kk =>
              rw [e4] at hok
              exact hfok ci kk e4 (by simpa using hok.2)
          have hc' := hc ci C hC
          have lf : gs.length = fs.length := by
            have : ∀ {fs : List (Nat × M)} {gs : List (Str × V)} {B : List Addr}, ORF c Z2 H1 fs gs B → gs.length = fs.length := by
              intro fs
              induction fs with
              | nil => intro gs B q; rw [q.1]; rfl
              | cons p fs ih =>
                intro gs B q
                obtain ⟨f', m'⟩ := p
                obtain ⟨s', v', r', B1', B2', rfl, rfl, _, _, q2⟩ := q
                simp [ih q2]
            exact this oF
          refine ⟨.ref ad, hv, ad, C, dx, gs, rfl, hH, hc'.1, hc'.2 fok, by rw [lf]; omega, ?_⟩
          -- the instance with one field stored
          have nad : ad ∈ A2 i := by rw [eA]; simp
          obtain ⟨fa, za, ha⟩ := s2.fr i ad nad
          have nA : (ad :: B0).Nodup := by rw [← eA]; exact s2.nd i
          have nab : ad ∉ B0 := (List.nodup_cons.mp nA).1
          have nb2 : ad ∉ B2 := re2.dj i ad nad
          have keep : ∀ b, b ≠ ad → (L2.upd H1 ad (.ins C dx (putF nm x gs))) b = H1 b := fun b hb => upd_ne hb
          have oF' : ORF c Z2 (L2.upd H1 ad (.ins C dx (putF nm x gs))) fs gs B0 := ORF.keep (Same.refl _) fs gs B0 (fun b hb => keep b fun z => nab (z ▸ hb)) oF
          have om' : OR c Z2 (L2.upd H1 ad (.ins C dx (putF nm x gs))) m x B2 := OR.keep (Same.refl _) m x B2 (fun b hb => keep b fun z => nb2 (z ▸ hb)) re2.rr
          obtain ⟨B3, o3, m3, n3⟩ := ORF.put hf om' oF'
          have li : i < σ.length := (List.getElem?_eq_some_iff.mp hv).1
          have sub : ∀ b ∈ B3, b ≠ ad ∧ F b = none ∧ Z2 b = none := fun b hb => by
            rcases m3 b hb with z | z
            · exact ⟨fun y => nb2 (y ▸ z), (re2.fr b z).1, (re2.fr b z).2.1⟩
            · have hb' : b ∈ A2 i := by rw [eA]; exact List.mem_cons_of_mem _ z
              exact ⟨fun y => nab (y ▸ z), (s2.fr i b hb').1, (s2.fr i b hb').2.1⟩
          have s3 := s2.put (B' := ad :: B3) (i := i) (σ' := σ) (m' := .ins ci (putA f m fs)) (v := .ref ad) (Z' := Z2) (H' := L2.upd H1 ad (.ins C dx (putF nm x gs))) hv (fun _ _ => rfl) rfl (Same.refl _)
            (fun b u e => by rw [upd_ne (ne_of_none e za)]; exact s2.zh _ _ e) (fun b u e => by rw [upd_ne (ne_of_none e fa)]; exact s2.fh _ _ e) s2.fz (s2.tz.upd fun _ z => by cases z)
            ⟨ad, C, dx, _, B3, rfl, rfl, hC, upd_same, o3, fun p hp => by
              rcases putA_keys f m fs p hp with z | ⟨p', h1, h2⟩
              · rw [z]; exact fok
              · rw [← h2]; exact ok p' h1⟩
            (List.nodup_cons.mpr ⟨fun z => (sub ad z).1 rfl, n3 (List.nodup_cons.mp nA).2 re2.nd fun b hb z => re2.dj i b (by rw [eA]; exact List.mem_cons_of_mem _ z) hb⟩)
            (fun j b hj hb => by
              have nb : b ∉ A2 i := fun z => hj (s2.dj j i b hb z)
              have n1 : b ≠ ad := fun z => nb (z ▸ nad)
              refine ⟨upd_ne n1, (s2.fr j b hb).2.1, fun z => ?_⟩
              rcases List.mem_cons.mp z with z | z
              · exact n1 z
              · rcases m3 b z with y | y
                · exact re2.dj j b hb y
                · exact nb (by rw [eA]; exact List.mem_cons_of_mem _ y))
            (fun b hb => by
              rcases List.mem_cons.mp hb with z | z
              · rw [z]; exact ⟨fa, za⟩
              · exact ⟨(sub b z).2.1, (sub b z).2.2⟩)
          exact g σ _ Z2 _ (po.zz.trans zz) s3 (Kp.refl _ _)
        · cases e
      · cases e
/-- a store by an index, in a list or a dict of the layer -/
noncomputable def rSt : TSet := fun o i v H Q => L2.rSetL o i v H Q ∨ ∃ a H', o = .ref a ∧ DPut H a i v H' ∧ Q H'
theorem set_st (hu : X.A.units + 65 < cLine) : PSet X rSt := by
  intro pins s σ H o i v ov iv u Q I ro ri rv h
  rcases h with h | ⟨a, H', rfl, g, q⟩
  · exact set_list pins s σ H o i v ov iv u Q I ro ri rv h
  · obtain rfl : ov = Value.ref a := ro
    exact d_setItem (by omega) I g ri rv fun s' I' => ⟨H', I', q⟩
theorem setIx_ok (s : Sta c F Z H σ τ A) {i : Nat} {f : Option Nat} {m m' : M} {x k v : V} {kd d : D} (w : OpW c Z H σ (.pl i f) x) (h : getP τ i f = some m) (e : setIx m kd d = some m') (rk : Rep c Z kd k) (rv : Rep c Z d v) {Q : Hp → Prop}
    (kk : ∀ H' A', Sta c F Z H' σ (setP τ i m' f) A' → Q H') : rSt x k v H Q := by
  cases m with
  | lst xs =>
    cases kd with
    | int j =>
      unfold setIx at e
      simp only at e
      split at e
      · rename_i q eq
        cases e
        obtain ⟨l, rfl, o, _, _, put⟩ := cell_at s w h one_lst
        obtain ⟨l', vs, q1, _, hl, rl⟩ := o
        cases q1
        obtain ⟨A', st⟩ := put (.lst (xs.set q d)) (.lst (vs.set q v)) ⟨l, vs.set q v, rfl, rfl, upd_same, RepL.set rv q _ _ rl⟩
        refine .inl ⟨l, vs, j, q, rfl, rk, hl, by rw [RepL.len _ _ rl]; exact eq, kk _ A' st⟩
      · cases e
    | _ => simp [setIx] at e
  | dK ks vs =>
    have e' : (match keyD kd with
      | some q => if vs.length < SL then some (M.dK (dPut ks vs q d).1 (dPut ks vs q d).2) else none
      | none => none) = some m' := by
      rw [← e]
      cases kd <;> rfl
    split at e'
    · rename_i q eq
      split at e'
      · rename_i hl
        cases e'
        obtain ⟨l, rfl, o, _, _, put⟩ := cell_at s w h one_dK
        obtain ⟨l', kvs, ws, q1, _, hl', rfl, rfl, rl⟩ := o
        cases q1
        obtain ⟨p1, p2⟩ := dPut_rep (q := q) rv rl
        obtain ⟨A', st⟩ := put (.dK (dPut (kvs.map (·.1)) vs q d).1 (dPut (kvs.map (·.1)) vs q d).2) (.dK (putK kvs q v)) ⟨l, putK kvs q v, _, rfl, rfl, upd_same, p1, rfl, p2⟩
        have ek : k = kV q := keyD_rep eq (Vw.of s.zh rk)
        have ln := RepL.len _ _ rl
        rw [List.length_map] at ln
        exact .inr ⟨l, _, rfl, by rw [ek]; exact DPut.k hl' (by rw [ln, ← sl_eq]; exact hl), kk _ A' st⟩
      · cases e'
    · cases e'
  | v d' => simp [setIx] at e
  | dT ks vs =>
    have e' : (match keyT kd with
      | some q => if vs.length < SL then some (M.dT (dPut ks vs q d).1 (dPut ks vs q d).2) else none
      | none => none) = some m' := by
      rw [← e]
      cases kd <;> rfl
    split at e'
    · rename_i q eq
      split at e'
      · rename_i hl
        cases e'
        obtain ⟨l, rfl, o, _, _, put⟩ := cell_at s w h one_dT
        obtain ⟨l', kvs, ws, q1, _, hl', rfl, rfl, rl⟩ := o
        cases q1
        obtain ⟨p1, p2⟩ := dPut_rep (q := q) rv rl
        obtain ⟨A', st⟩ := put (.dT (dPut (kvs.map (·.1)) vs q d).1 (dPut (kvs.map (·.1)) vs q d).2) (.dT (putK kvs q v)) ⟨l, putK kvs q v, _, rfl, rfl, upd_same, p1, rfl, p2⟩
        obtain ⟨b, rfl, hb⟩ := keyT_rep s.zh eq (Vw.of s.zh rk)
        have ln := RepL.len _ _ rl
        rw [List.length_map] at ln
        exact .inr ⟨l, _, rfl, DPut.t hl' hb (by rw [ln, ← sl_eq]; exact hl), kk _ A' st⟩
      · cases e'
    · cases e'
  | ins _ _ => simp [setIx] at e
noncomputable def plE (i : Nat) : Option Nat → CE
  | none => .s i
  | some f => .fld (.s i) f
theorem place_pure {i : Nat} {f : Option Nat} {m : M} (h : getP τ i f = some m) (hv : isV m = false) : evE G cl true (plE i f) τ = some (.pl i f, τ) := by
  cases f with
  | none =>
    have h' : slotM τ i = some m := h
    unfold plE evE
    rw [h']
    cases m with
    | v d => cases hv
    | _ => rfl
  | some f =>
    obtain ⟨k, fs, e1, e2⟩ := getP_field h
    unfold plE
    unfold evE
    unfold evE
    rw [e1]
    simp only
    rw [h]
    cases m with
    | v d => cases hv
    | _ => rfl
theorem setIx_nv {m m' : M} {k d : D} (h : setIx m k d = some m') : isV m = false := by
  cases m with
  | v d => cases h
  | _ => rfl
theorem iset_use {i : Nat} {f : Option Nat} {k : CE} {De : Ends} {r : R} {dd kd : D} {τk : T} {m m' : M} (s : Sta c F Z H σ τ A) (e1 : evE G cl false a τ = some (r, τ1)) (e2 : esc false τ1 r = some (dd, τ2)) (e3 : evE G cl true k τ2 = some (.d kd, τk)) (e4 : getP τ2 i f = some m) (e5 : setIx m kd dd = some m')
    (g : Goes c F Z io σ De (.nx (setP τ2 i m' f))) : tAsg (tE c G cl a) (gSub (tE c G cl (plE i f)) (tE c G cl k) rSt) De σ H := by
  refine ⟨false, F, Z, τ, A, r, τ1, s, e1, fun x H1 Z1 A1 B po re => ?_⟩
  obtain ⟨Z2, A2, po2, rp⟩ := esc_ok po.st re e2
  refine one_op po2.st (place_pure e4 (setIx_nv e5)) fun o H3 Z3 A3 po3 w3 => ?_
  obtain ⟨_, t3, a3⟩ := po3.pu rfl
  refine one_op po3.st e3 fun y H4 Z4 A4 po4 w4 => ?_
  obtain ⟨_, t4, _⟩ := po4.pu rfl
  subst t4
  have w3' : OpW c Z3 H3 σ (.pl i f) o := w3
  have w5 := OpW.keep w3' po4 fun _ => rfl
  exact setIx_ok po4.st w5 e4 e5 w4 (Rep.mono (po3.zz.trans po4.zz) _ _ rp) fun H' A' st => g σ H' Z4 A' (((po.zz.trans po2.zz).trans po3.zz).trans po4.zz) st (Kp.refl _ _)
theorem k_iset {i : Nat} {k : CE} {st : Stmt} (h : PS X st (tAsg (tE c G cl a) (gSub (tE c G cl (.s i)) (tE c G cl k) rSt))) : PS X st (tS c G cl io (.iset i k a)) := ps_imp h fun D σ H q => by
  obtain ⟨F, Z, τ, A, fl, s, e, g⟩ := q
  unfold evS at e
  split at e
  · cases e
  · rename_i r τ1 e1
    split at e
    · cases e
    · rename_i dd τ2 e2
      split at e
      · rename_i kd τk e3
        split at e
        · rename_i m e4
          split at e
          · rename_i m' e5
            cases e
            exact iset_use (f := none) s e1 e2 e3 e4 e5 g
          · cases e
        · cases e
      · cases e
theorem k_fiset {i f : Nat} {k : CE} {st : Stmt} (h : PS X st (tAsg (tE c G cl a) (gSub (tE c G cl (.fld (.s i) f)) (tE c G cl k) rSt))) : PS X st (tS c G cl io (.fiset i f k a)) := ps_imp h fun D σ H q => by
  obtain ⟨F, Z, τ, A, fl, s, e, g⟩ := q
  unfold evS at e
  split at e
  · cases e
  · rename_i r τ1 e1
    split at e
    · cases e
    · rename_i dd τ2 e2
      split at e
      · rename_i kd τk e3
        split at e
        · rename_i m e4
          split at e
          · rename_i m' e5
            cases e
            exact iset_use (f := some f) s e1 e2 e3 e4 e5 g
          · cases e
        · cases e
      · cases e
theorem k_bad {st : Stmt} : PS X st (tS c G cl io .bad) := ⟨fun pins s σ H D I q => by
  obtain ⟨F, Z, τ, A, fl, s, e, g⟩ := q
  unfold evS at e
  cases e⟩
theorem u_ex {D : Ends} (q : tS c G cl io (.ex a) D σ H) : (tDrop (tE c G cl a)) D σ H := by
  obtain ⟨F, Z, τ, A, fl, s, e, g⟩ := q
  unfold evS at e
  cases e1 : evE G cl false a τ with
  | none => rw [e1] at e; cases e
  | some t =>
    obtain ⟨r, τ1⟩ := t
    rw [e1] at e
    cases e
    exact ⟨false, F, Z, τ, A, r, τ1, s, e1, fun x H1 Z1 A1 B po re => g σ H1 Z1 A1 po.zz po.st (Kp.refl _ _)⟩
theorem k_ex {st : Stmt} (h : PS X st (tDrop (tE c G cl a))) : PS X st (tS c G cl io (.ex a)) := ps_imp h fun D σ H q => u_ex q
theorem u_ret {De : Ends} (q : tS c G cl io (.ret a) De σ H) : (tRet (tE c G cl a)) De σ H := by
  obtain ⟨F, Z, τ, A, fl, s, e, g⟩ := q
  unfold evS at e
  split at e
  · cases e
  · rename_i r τ1 e1
    refine ⟨false, F, Z, τ, A, r, τ1, s, e1, fun x H1 Z1 A1 B po re => ?_⟩
    have val : ∀ {d : D} {τ2 : T}, esc false τ1 r = some (d, τ2) → some (Fl.ret (.v d) τ2) = some fl → De.rt x H1 := by
      intro d τ2 e2 e3
      cases e3
      obtain ⟨Z2, A2, po2, rp⟩ := esc_ok po.st re e2
      exact g x σ H1 Z2 A2 [] (po.zz.trans po2.zz) po2.st (Kp.refl _ _) ⟨⟨rfl, rp⟩, List.nodup_nil, fun _ _ _ h => (by cases h), fun _ h => by cases h⟩
    split at e
    · rename_i m
      cases e
      exact g x σ H1 Z1 A1 B po.zz po.st (Kp.refl _ _) re
    · rename_i i
      split at e
      · split at e
        · rename_i d τ2 e2
          exact val e2 e
        · cases e
      · split at e
        · rename_i m em
          cases e
          obtain ⟨v, hv, o⟩ := po.st.own i m (slotM_some em)
          have q1 := re.rr.2.1
          rw [hv] at q1
          cases q1
          refine g x σ H1 Z1 _ (A1 i) po.zz (po.st.drop i) (Kp.refl _ _) ⟨o, po.st.nd i, fun j b hb h => ?_, fun b hb => po.st.fr i b hb⟩
          by_cases z : j = i
          · subst z; rw [put1_same] at hb; cases hb
          · rw [put1_ne z] at hb
            exact z (po.st.dj j i b hb h)
        · cases e
    · split at e
      · rename_i d τ2 e2
        exact val e2 e
      · cases e
theorem k_ret {st : Stmt} (h : PS X st (tRet (tE c G cl a))) : PS X st (tS c G cl io (.ret a)) := ps_imp h fun D σ H q => u_ret q
theorem k_retN {st : Stmt} (h : PS X st tRetN) : PS X st (tS c G cl io .retN) := ps_imp h fun D σ H q => by
  obtain ⟨F, Z, τ, A, fl, s, e, g⟩ := q
  unfold evS at e
  cases e
  exact g .non σ H Z A [] (Same.refl _) s (Kp.refl _ _) ⟨⟨rfl, rfl⟩, List.nodup_nil, fun _ _ _ h => (by cases h), fun _ h => by cases h⟩
theorem k_pass {st : Stmt} (h : PS X st tNext) : PS X st (tS c G cl io .pass) := ps_imp h fun D σ H q => by
  obtain ⟨F, Z, τ, A, fl, s, e, g⟩ := q
  unfold evS at e
  cases e
  exact g σ H Z A (Same.refl _) s (Kp.refl _ _)
theorem k_brk {st : Stmt} (h : PS X st tBreak) : PS X st (tS c G cl io .brk) := ps_imp h fun D σ H q => by
  obtain ⟨F, Z, τ, A, fl, s, e, g⟩ := q
  unfold evS at e
  cases e
  exact g σ H Z A (Same.refl _) s (Kp.refl _ _)
theorem k_cont {st : Stmt} (h : PS X st tCont) : PS X st (tS c G cl io .cont) := ps_imp h fun D σ H q => by
  obtain ⟨F, Z, τ, A, fl, s, e, g⟩ := q
  unfold evS at e
  cases e
  exact g σ H Z A (Same.refl _) s (Kp.refl _ _)
theorem u_ite {t : CT} {x y : CSs} {D : Ends} (q : tS c G cl io (.ite t x y) D σ H) : (tIfS (tT c G cl t) (tSs c G cl io x) (tSs c G cl io y)) D σ H := by
  obtain ⟨F, Z, τ, A, fl, s, e, g⟩ := q
  unfold evS at e
  split at e
  · rename_i τ1 e1
    refine ⟨false, F, Z, τ, A, true, τ1, s, e1, fun H1 Z1 A1 po => iteT ⟨F, Z1, τ1, A1, fl, po.st, e, g.mono po.zz (Kp.refl _ _)⟩⟩
  · rename_i τ1 e1
    refine ⟨false, F, Z, τ, A, false, τ1, s, e1, fun H1 Z1 A1 po => iteF ⟨F, Z1, τ1, A1, fl, po.st, e, g.mono po.zz (Kp.refl _ _)⟩⟩
  · cases e
theorem k_ite {t : CT} {x y : CSs} {st : Stmt} (h : PS X st (tIfS (tT c G cl t) (tSs c G cl io x) (tSs c G cl io y))) : PS X st (tS c G cl io (.ite t x y)) := ps_imp h fun D σ H q => u_ite q
theorem k_nil : PSs X [] (tSs c G cl io .nil) := pss_imp pss_nil fun D σ H q => by
  obtain ⟨F, Z, τ, A, fl, s, e, g⟩ := q
  unfold evSs at e
  cases e
  exact g σ H Z A (Same.refl _) s (Kp.refl _ _)
theorem u_cons {x : CS} {r : CSs} {D : Ends} (q : tSs c G cl io (.cons x r) D σ H) : tSeq (tS c G cl io x) (tSs c G cl io r) D σ H := by
  obtain ⟨F, Z, τ, A, fl, s, e, g⟩ := q
  unfold evSs at e
  split at e
  · rename_i τ1 e1
    exact ⟨F, Z, τ, A, .nx τ1, s, e1, fun σ' H' Z' A' zz s' kp => ⟨F, Z', τ1, A', fl, s', e, g.mono zz kp⟩⟩
  · rename_i r0 hn
    refine ⟨F, Z, τ, A, fl, s, e, ?_⟩
    cases fl with
    | nx τ' => exact absurd e (hn τ')
    | bk τ' => exact g
    | ct τ' => exact g
    | ret m τ' => exact g
theorem k_cons {st : Stmt} {sts : List Stmt} {x : CS} {r : CSs} (h1 : PS X st (tS c G cl io x)) (h2 : PSs X sts (tSs c G cl io r)) : PSs X (st :: sts) (tSs c G cl io (.cons x r)) := pss_imp (pss_cons h1 h2) fun D σ H q => u_cons q
theorem u_whl {t : CT} {x : CSs} {D : Ends} (q : tS c G cl io (.whl t x) D σ H) : (tWhile (tT c G cl t) (tSs c G cl io x)) D σ H := by
  obtain ⟨F, Z, τ, A, fl, s, e, g⟩ := q
  unfold evS at e
  refine ⟨fun n σ' H' => ∃ Z' τ' A', Same Z Z' ∧ Sta c F Z' H' σ' τ' A' ∧ Kp io σ σ' ∧ whileL (evT G cl false t) (fun t' => evSs G cl io x t') n τ' = some fl, ⟨WF, Z, τ, A, Same.refl _, s, Kp.refl _ _, e⟩, ?_⟩
  rintro n σ1 H1 ⟨Z1, τ1, A1, zz, s1, kp, e1⟩
  cases n with
  | zero => unfold whileL at e1; cases e1
  | succ n =>
    unfold whileL at e1
    split at e1
    · cases e1
    · rename_i τ2 e2
      cases e1
      refine ⟨false, F, Z1, τ1, A1, false, τ2, s1, e2, fun H2 Z2 A2 po => iteF ?_⟩
      exact g σ1 H2 Z2 A2 (zz.trans po.zz) po.st kp
    · rename_i τ2 e2
      refine ⟨false, F, Z1, τ1, A1, true, τ2, s1, e2, fun H2 Z2 A2 po => iteT ?_⟩
      refine ⟨fun σ' H' => ∃ Z' τ' A', Same Z Z' ∧ Sta c F Z' H' σ' τ' A' ∧ Kp io σ σ' ∧ whileL (evT G cl false t) (fun t' => evSs G cl io x t') n τ' = some fl, fun σ' H' w => ⟨n, Nat.lt_succ_self _, w⟩, ?_⟩
      split at e1
      · rename_i τ3 e3
        exact ⟨F, Z2, τ2, A2, .nx τ3, po.st, e3, fun σ3 H3 Z3 A3 z3 s3 k3 => ⟨Z3, τ3, A3, (zz.trans po.zz).trans z3, s3, kp.trans k3, e1⟩⟩
      · rename_i τ3 e3
        exact ⟨F, Z2, τ2, A2, .ct τ3, po.st, e3, fun σ3 H3 Z3 A3 z3 s3 k3 => ⟨Z3, τ3, A3, (zz.trans po.zz).trans z3, s3, kp.trans k3, e1⟩⟩
      · rename_i τ3 e3
        cases e1
        exact ⟨F, Z2, τ2, A2, .bk τ3, po.st, e3, fun σ3 H3 Z3 A3 z3 s3 k3 => g σ3 H3 Z3 A3 ((zz.trans po.zz).trans z3) s3 (kp.trans k3)⟩
      · rename_i r0 n1 n2 n3
        refine ⟨F, Z2, τ2, A2, fl, po.st, e1, ?_⟩
        cases fl with
        | nx τ' => exact absurd e1 (n1 τ')
        | bk τ' => exact absurd e1 (n3 τ')
        | ct τ' => exact absurd e1 (n2 τ')
        | ret m τ' => exact Goes.mono (fl := .ret m τ') g (zz.trans po.zz) kp
theorem k_whl {t : CT} {x : CSs} {st : Stmt} (h : PS X st (tWhile (tT c G cl t) (tSs c G cl io x))) : PS X st (tS c G cl io (.whl t x)) := ps_imp h fun D σ H q => u_whl q
theorem u_loop {tg : Tg} {it : CI} {x : CSs} {D : Ends} (q : tS c G cl io (.loop tg it x) D σ H) : (tFor (tI c G cl it) (gT c.K tg) (tSs c G cl io x)) D σ H := by
  obtain ⟨F, Z, τ, A, fl, s, e, g⟩ := q
  unfold evS at e
  split at e
  · cases e
  · rename_i ds τ1 e0
    refine ⟨false, F, Z, τ, A, ds, τ1, s, e0, fun J H1 Z1 A1 po wd => ?_⟩
    refine for_it wd (fun i σ' H' => ∃ Z' τ' A', Same Z1 Z' ∧ Sta c F Z' H' σ' τ' A' ∧ Kp io σ σ' ∧ forL (bindTg io tg) (fun t' => evSs G cl io x t') (ds.drop i) τ' = some fl) ⟨Z1, τ1, A1, Same.refl _, po.st, Kp.refl _ _, e⟩ ?_ ?_ ?_
    · rintro i σ' H' hi ⟨Z', τ', A', zz, st, _⟩
      exact zz.trans st.zh
    · rintro i v σ2 H2 H3 hi ⟨Z2, τ2, A2, zz, s2, kp, e2⟩ ⟨dd, hd, nw⟩
      have dr : ds.drop i = dd :: ds.drop (i + 1) := by
        rw [List.getElem?_eq_some_iff] at hd
        obtain ⟨l, e⟩ := hd
        rw [List.drop_eq_getElem_cons l, e]
      rw [dr] at e2
      unfold forL at e2
      have nw' : NewR c Z2 H2 (.d dd) v H3 := by
        rcases nw with ⟨d', e1, e2, q⟩ | ⟨a, vs, ds', e1, e2, na, e3, q⟩ | ⟨a, vs, ds', e1, _⟩
        · exact .inl ⟨d', e1, e2, Rep.mono zz _ _ q⟩
        · exact .inr (.inl ⟨a, vs, ds', e1, e2, na, e3, RepL.mono zz _ _ q⟩)
        · cases e1
      obtain ⟨Z3, z3, s3, rd, _, _⟩ := NewR.dval s2 nw'
      split at e2
      · cases e2
      · rename_i τ4 e4
        refine bind_ok tg e4 s3 rd fun σ5 A5 s5 l5 o5 _ => ?_
        have k5 : Kp io σ σ5 := kp.trans (kp_bind e4 o5)
        have z5 := (po.zz.trans zz).trans z3
        split at e2
        · rename_i τ6 e6
          exact ⟨F, Z3, τ4, A5, .nx τ6, s5, e6, fun σ7 H7 Z7 A7 z7 s7 k7 => ⟨Z7, τ6, A7, (zz.trans z3).trans z7, s7, k5.trans k7, e2⟩⟩
        · rename_i τ6 e6
          exact ⟨F, Z3, τ4, A5, .ct τ6, s5, e6, fun σ7 H7 Z7 A7 z7 s7 k7 => ⟨Z7, τ6, A7, (zz.trans z3).trans z7, s7, k5.trans k7, e2⟩⟩
        · rename_i τ6 e6
          cases e2
          exact ⟨F, Z3, τ4, A5, .bk τ6, s5, e6, fun σ7 H7 Z7 A7 z7 s7 k7 => g σ7 H7 Z7 A7 (z5.trans z7) s7 (k5.trans k7)⟩
        · rename_i r0 n1 n2 n3
          refine ⟨F, Z3, τ4, A5, fl, s5, e2, ?_⟩
          cases fl with
          | nx τ' => exact absurd e2 (n1 τ')
          | bk τ' => exact absurd e2 (n3 τ')
          | ct τ' => exact absurd e2 (n2 τ')
          | ret m τ' => exact Goes.mono (fl := .ret m τ') g z5 k5
    · rintro σ2 H2 ⟨Z2, τ2, A2, zz, s2, kp, e2⟩
      rw [List.drop_length] at e2
      unfold forL at e2
      cases e2
      exact g σ2 H2 Z2 A2 (po.zz.trans zz) s2 kp
theorem k_loop {tg : Tg} {it : CI} {x : CSs} {st : Stmt} (h : PS X st (tFor (tI c G cl it) (gT c.K tg) (tSs c G cl io x))) : PS X st (tS c G cl io (.loop tg it x)) := ps_imp h fun D σ H q => u_loop q
end
end
end Ev

/-! Ev, part Q: more forms of expressions: xs[::-1] of a list. -/
namespace Ev
open PySem L2 PyProof.Rows
section
variable {X : Cx} {e es : Expr} {te : TE} {th : TO} {pos p2 : Pos}
noncomputable def rRevL (K : PySem.W.Frag) : V → Hp → VK → Prop := fun x H Q => ∃ a xs, x = .ref a ∧ ((SqL K H a xs ∧ ∀ p, H p = none → Q (.ref p) (upd H p (.lst xs.reverse))) ∨ SqT K H a xs ∧ ∀ p, H p = none → Q (.ref p) (upd H p (.tup xs.reverse)))
theorem vals_rev : ∀ {xs : List V} {us : List Value}, Vals xs us → Vals xs.reverse us.reverse := by
  intro xs us r
  induction r with
  | nil => exact .nil
  | cons r1 r2 ih => rw [List.reverse_cons, List.reverse_cons]; exact ih.append (.cons r1 .nil)
theorem back_applied {prog : Program} {w : World} {A : Around} {E : Value → Shared → Prop} {s : Shared} {sl : Addr} {vk : Value} {n : Nat} {Q : Int × Int × Nat → Shared → Prop} (hs : s.heap.IsSliceOf sl .none .none vk) (pk : IsPart vk (some (-1)))
    (h : Q ((n : Int) - 1, -1, n) s) : wpAny (model prog w) A (Builtin.Slice.sliceApplied (.ref sl) (pure (n : Int))) Q E s := by
  obtain ⟨os, h1, h2, h3⟩ := id hs
  unfold Builtin.Slice.sliceApplied Builtin.Slice.sliceFields
  refine wpAny_bind (wpAny_bind (wpAny_field h1 h3 (x := .none) rfl (wpAny_bind (wpAny_field h1 h3 (x := .none) rfl (wpAny_bind (wpAny_field h1 h3 (x := vk) rfl (wpAny_pure ?_)))))))
  refine wpAny_bind (HT.slicePart_ pk ?_)
  show wpAny _ _ (if ((-1 : Int) == 0) = true then _ else _) _ _ s
  rw [if_neg (by decide)]
  refine wpAny_bind (slicePart_none (wpAny_bind (slicePart_none (wpAny_bind (wpAny_pure ?_)))))
  show wpAny _ _ (match Builtin.Slice.sliceAdjust none none (-1) (n : Int) with | (lo, hi) => pure (lo, (-1 : Int), Builtin.Slice.slicePlaces lo hi (-1))) _ _ s
  have e1 : Builtin.Slice.sliceAdjust none none (-1) (n : Int) = ((n : Int) - 1, -1) := by
    unfold Builtin.Slice.sliceAdjust
    rfl
  have e2 : Builtin.Slice.slicePlaces ((n : Int) - 1) (-1) (-1) = n := by
    unfold Builtin.Slice.slicePlaces
    simp
    omega
  rw [e1]
  show wpAny _ _ (pure ((n : Int) - 1, (-1 : Int), Builtin.Slice.slicePlaces ((n : Int) - 1) (-1) (-1))) _ _ s
  rw [e2]
  exact wpAny_pure h
theorem back_pick (xs : Array Value) : ((List.range xs.size).filterMap fun (k : Nat) => xs[(((xs.size : Int) - 1) + (k : Int) * (-1)).toNat]?).toArray = xs.toList.reverse.toArray := by
  rw [← PySem.W.krv_all xs, ← List.filterMap_reverse]
  have e : (List.range xs.size).reverse = (List.range xs.size).map fun k => xs.size - 1 - k := (PySem.W.krv_range xs.size).symm
  rw [e, List.filterMap_map]
  congr 1
  have key : ∀ l : List Nat, (∀ k ∈ l, k < xs.size) → (l.filterMap fun (k : Nat) => xs[(((xs.size : Int) - 1) + (k : Int) * (-1)).toNat]?) = l.filterMap ((fun i => xs[i]?) ∘ fun k => xs.size - 1 - k) := by
    intro l
    induction l with
    | nil => intro _; rfl
    | cons k l ih =>
      intro h
      have hk := h k (List.mem_cons_self ..)
      have e : (((xs.size : Int) - 1) + (k : Int) * (-1)).toNat = xs.size - 1 - k := by omega
      rw [List.filterMap_cons, List.filterMap_cons, ih fun j hj => h j (List.mem_cons_of_mem _ hj)]
      simp only [Function.comp, e]
  exact key _ fun k hk => List.mem_range.mp hk
theorem getItem_tup_back {prog : Program} {w : World} {A : Around} {E : Value → Shared → Prop} {s : Shared} {t sl : Addr} {items : Array Value} {vk : Value} {Q : Value → Shared → Prop} (ht : IsTup s.heap t items) (hs : s.heap.IsSliceOf sl .none .none vk) (pk : IsPart vk (some (-1)))
    (h : Q (.ref s.heap.objs.size) { s with heap := s.heap.push { cls := .type "tuple", data := .seq items.toList.reverse.toArray } }) (hsz : items.size ≤ sizeLine) : wpAny (model prog w) A (getItem (.ref t) (.ref sl)) Q E s := by
  obtain ⟨os, h1, h2, h3⟩ := id hs
  have hTs : s.TypeIs (.ref sl) "slice" := ⟨os, h1, h2⟩
  have fits : sizeOk (.seq items.toList.reverse.toArray) := by
    show items.toList.reverse.toArray.size ≤ sizeLine
    simpa using hsz
  unfold getItem
  try with_reducible refine wpAny_holding ?_
  first | refine wpAny_bind (wpAny_pure ?_) | skip
  refine wpAny_bind (wpAny_sequenceKey ht.typeIs (by decide) ?_)
  refine wpAny_bind (wpAny_callSpecial?_slot (name := Str.ofString "__getitem__") ht.typeIs PyProof.Rows.slot_tuple_getitem
    (wpAny_call_entry PyProof.Rows.slot_tuple_getitem ht.typeIs entry_tuple_getitem ?_ (args_tuple_getitem _ _)))
  show wpAny _ _ (Builtin.Tuple.tupleItemsOf (.ref t) >>= _) _ _ s
  refine wpAny_bind (PyProof.Rows.tupleItemsOf_ ht ?_)
  refine wpAny_bind (wpAny_typeOf hTs ?_)
  rw [if_pos (by decide)]
  refine wpAny_bind (back_applied hs pk ?_)
  have hno : ¬ ((((items.size : Int) - 1) == 0 && (-1 : Int) == 1 && items.size == items.size) = true) := by
    intro q
    rw [Bool.and_eq_true, Bool.and_eq_true] at q
    exact absurd q.1.2 (by decide)
  show wpAny _ _ (if (((items.size : Int) - 1) == 0 && (-1 : Int) == 1 && items.size == items.size) = true then _ else _) _ _ s
  rw [if_neg hno, back_pick]
  first
    | exact wpAny_bind (m := Builtin.Tuple.tupleExact _) (wpAny_newObj_type (wpAny_pure ⟨_, rfl, wpAny_pure h⟩) fits)
    | exact wpAny_bind (m := Builtin.Tuple.tupleExact _) (wpAny_newObj_type (wpAny_bind (wpAny_pure (wpAny_pure ⟨_, rfl, wpAny_pure h⟩))) fits)
    | exact wpAny_bind (wpAny_bind (m := Builtin.Tuple.tupleExact _) (wpAny_newObj_type (wpAny_pure (wpAny_pure ⟨_, rfl, wpAny_pure h⟩)) fits))
    | exact wpAny_bind (wpAny_bind (m := Builtin.Tuple.tupleExact _) (wpAny_newObj_type (wpAny_pure ⟨_, rfl, wpAny_pure h⟩) fits))
theorem pe_revL (he : PE X e te) (hs : PO X (some es) th) : PE X (.Subscript e (.Slice none none (some es) p2) pos) (fun σ H Q => te σ H fun x H1 => th σ H1 fun o H2 => o = some (-1) ∧ rRevL X.K x H2 Q) := by
  refine ⟨fun pins s σ H Q I h => ?_⟩
  refine Subscript_ (thn (he.run pins s σ H _ I h) fun v s1 ⟨x, H1, I1, r1, q1⟩ => ?_)
  refine wpAny_Slice ?_
  rw [evalPart_none]
  refine wpAny_pure ?_
  refine wpAny_pure ?_
  refine thn (hs.run pins s1 σ H1 _ I1 q1) fun vk s2 ⟨o, H2, I2, pk, e1, q⟩ => ?_
  subst e1
  obtain ⟨a, xs, rfl, ⟨hx, q⟩ | ⟨hx, q⟩⟩ := q
  case inr =>
    cases r1
    have I4 : Inv X pins σ H2 { s2 with heap := s2.heap.push { cls := .type "slice", data := .fields #[.none, .none, vk] } } := I2.kept (t' := s2.toks) fun b ob q => Heap.get?_push_of_some _ q
    obtain ⟨its, r, ht, hz⟩ := I4.tuple hx
    show wpAny (model X.prog X.w) X.A (subscriptTail e (.Slice none none (some es) p2) (.ref a) (.ref s2.heap.objs.size)) (EP X pins σ Q) X.xe { s2 with heap := s2.heap.push { cls := .type "slice", data := .fields #[.none, .none, vk] } }
    refine tail_any (ops := [.ref a, .ref s2.heap.objs.size]) ht.typeIs PyProof.Rows.slot_tuple_getitem.lookup ?_ (by with_unfolding_all rfl)
    refine getItem_tup_back ht (Heap.IsSliceOf.new ..) pk ?_ (by rw [List.size_toArray, ← r.length]; exact hz)
    refine ⟨.ref _, _, I4.laid (t' := s2.toks) (o := .tup xs.reverse) (fun b ob q => Heap.get?_push_of_some _ q) (Nat.le_refl _) ?_, rfl, q _ (I4.hok.fresh (Nat.le_refl _))⟩
    exact ⟨by rw [List.length_reverse]; have := r.length; omega, _, vals_rev r, _, Heap.get?_push_size _ rfl, rfl, 0, rfl⟩
  cases r1
  have I4 : Inv X pins σ H2 { s2 with heap := s2.heap.push { cls := .type "slice", data := .fields #[.none, .none, vk] } } := I2.kept (t' := s2.toks) fun b ob q => Heap.get?_push_of_some _ q
  obtain ⟨its, r, ht, hz⟩ := I4.list hx
  show wpAny (model X.prog X.w) X.A (subscriptTail e (.Slice none none (some es) p2) (.ref a) (.ref s2.heap.objs.size)) (EP X pins σ Q) X.xe { s2 with heap := s2.heap.push { cls := .type "slice", data := .fields #[.none, .none, vk] } }
  refine tail_any (ops := [.ref a, .ref s2.heap.objs.size]) ht.isList.typeIs slot_list_getitem.lookup ?_ (by with_unfolding_all rfl)
  refine wpAny_getItem_list_slice ht.isList (Heap.IsSliceOf.new ..) .none .none pk (by decide) ?_ (by rw [List.size_toArray, ← r.length]; exact hz)
  rw [PySem.W.krv_pick]
  refine ⟨.ref _, _, I4.laid (t' := s2.toks) (o := .lst xs.reverse) (fun b ob q => Heap.get?_push_of_some _ q) (Nat.le_refl _) ?_, rfl, q _ (I4.hok.fresh (Nat.le_refl _))⟩
  exact ⟨by rw [List.length_reverse]; have := r.length; omega, _, 0, vals_rev r, Heap.get?_push_size _ rfl⟩
end
section
variable {X : Cx} {c : Cn} {G : GS} {cl : Caller} {a : CE} {ea es : Expr} {pos p2 : Pos}
noncomputable def m1 : CE := .un .USub (.k (.int 1))
theorem revL {c : Cn} {Z : Hp} : ∀ {ds : List D} {vs : List V}, RepL c Z ds vs → RepL c Z ds.reverse vs.reverse
  | [], vs, q => by rw [show vs = [] from q]; exact (rfl : ([] : List V) = [])
  | d :: ds, vs, q => by
    obtain ⟨v, r, rfl, q1, q2⟩ := q
    rw [List.reverse_cons, List.reverse_cons]
    exact RepL.append _ _ _ _ (revL q2) (RepL.one q1)
theorem s_rev (hK : X.K = c.K) (ha : PE X ea (tE c G cl a)) (hs : PO X (some es) (tP c G cl m1)) : PE X (.Subscript ea (.Slice none none (some es) p2) pos) (tE c G cl (.rev a)) :=
  pe_imp (pe_revL ha hs) fun σ H Q q => by
    obtain ⟨p, F, Z, τ, A, r, τ', s, e, k⟩ := q
    unfold evE at e
    split at e
    · cases e
    · rename_i ra τ1 e1
      split at e
      · rename_i xs l1
        cases e
        refine one_op s e1 fun vx H1 Z1 A1 po1 w1 => ?_
        refine part_ok (lo := m1) (l := some (-1)) (p := p || ra.isF) po1.st rfl fun H2 Z2 A2 po2 => ?_
        have w2 := OpW.keep w1 po2 (fun z => by rw [setl_isF] at z; rw [z]; simp)
        have po := po1.trans po2 (fun z => by rw [z]; rfl)
        obtain ⟨b, vs, rfl, s1, r1⟩ := look_ok po2.st w2 l1
        exact ⟨rfl, b, vs, rfl, .inl ⟨SqL.of s1, fun q np => fin_new po (.inr (.inr ⟨q, _, _, rfl, rfl, np, rfl, revL r1⟩)) k⟩⟩
      · rename_i xs l1
        cases e
        refine one_op s e1 fun vx H1 Z1 A1 po1 w1 => ?_
        refine part_ok (lo := m1) (l := some (-1)) (p := p || ra.isF) po1.st rfl fun H2 Z2 A2 po2 => ?_
        have w2 := OpW.keep w1 po2 (fun z => by rw [setl_isF] at z; rw [z]; simp)
        have po := po1.trans po2 (fun z => by rw [z]; rfl)
        obtain ⟨b, vs, rfl, s1, r1⟩ := look_ok po2.st w2 l1
        exact ⟨rfl, b, vs, rfl, .inr ⟨by rw [hK]; exact (sqT_mono po2.st.zh s1).sq, fun q np => fin_new po (.inr (.inl ⟨q, _, _, rfl, rfl, np, rfl, revL r1⟩)) k⟩⟩
      · cases e
end
end Ev

/-! Ev, part Sa: tables of sets of any size below 4096: the search meets each slot; what is laid is found again. -/
namespace Ev
open PySem L2 PySem.Spec PyProof.Rows
/-! ### i -> 5 i + 1 goes through all numbers below a power of two -/
noncomputable def geo : Nat → Nat
  | 0 => 0
  | n + 1 => 5 * geo n + 1
theorem geo_add (a : Nat) : ∀ b, geo (a + b) = 5 ^ b * geo a + geo b
  | 0 => by simp [geo]
  | b + 1 => by
    rw [← Nat.add_assoc, geo, geo_add a b, geo, Nat.pow_succ]
    rw [Nat.mul_add, ← Nat.mul_assoc, Nat.mul_comm 5 (5 ^ b)]
    omega
theorem geo_pow : ∀ n, 5 ^ n = 4 * geo n + 1
  | 0 => rfl
  | n + 1 => by rw [Nat.pow_succ, geo_pow n, geo]; omega
theorem geo_two : ∀ e, ∃ d, geo (2 ^ e) = 2 ^ e * (2 * d + 1)
  | 0 => ⟨0, rfl⟩
  | e + 1 => by
    obtain ⟨d, h⟩ := geo_two e
    have e1 : (2 : Nat) ^ (e + 1) = 2 ^ e + 2 ^ e := by rw [Nat.pow_succ]; omega
    rw [e1, geo_add, geo_pow]
    generalize geo (2 ^ e) = g at h
    refine ⟨2 * (d * g) + d + g, ?_⟩
    have e2 : (4 * g + 1) * g + g = 2 * g * (2 * g + 1) := by grind
    have e3 : 2 * g = (2 ^ e + 2 ^ e) * (2 * d + 1) := by grind
    rw [e2]
    generalize 2 ^ e + 2 ^ e = N at *
    grind
noncomputable def run5 (x : Nat) : Nat → Nat
  | 0 => x
  | k + 1 => 5 * run5 x k + 1
theorem run5_eq (x : Nat) : ∀ k, run5 x k = 5 ^ k * x + geo k
  | 0 => by simp [run5, geo]
  | k + 1 => by rw [run5, run5_eq x k, geo, Nat.pow_succ, Nat.mul_add, ← Nat.mul_assoc, Nat.mul_comm 5 (5 ^ k)]; omega
theorem run5_add (x a : Nat) : ∀ b, run5 x (a + b) = run5 (run5 x a) b
  | 0 => rfl
  | b + 1 => by rw [← Nat.add_assoc, run5, run5_add x a b, run5]
theorem run5_hits : ∀ (e i j : Nat), ∃ k, k < 2 ^ e ∧ run5 i k % 2 ^ e = j % 2 ^ e
  | 0, i, j => ⟨0, by decide, by simp [Nat.mod_one]⟩
  | e + 1, i, j => by
    obtain ⟨k, hk, h⟩ := run5_hits e i j
    have e1 : (2 : Nat) ^ (e + 1) = 2 ^ e * 2 := Nat.pow_succ ..
    have hp : 0 < 2 ^ e := Nat.two_pow_pos e
    generalize hy : run5 i k = y at h
    by_cases c : y % 2 ^ (e + 1) = j % 2 ^ (e + 1)
    · exact ⟨k, by omega, by rw [hy]; exact c⟩
    · refine ⟨k + 2 ^ e, by omega, ?_⟩
      obtain ⟨d, hd⟩ := geo_two e
      rw [run5_add, hy, run5_eq, geo_pow, hd]
      generalize 2 ^ e = N at *
      have e2 : (4 * (N * (2 * d + 1)) + 1) * y + N * (2 * d + 1) = (y + N) + N * 2 * (2 * (2 * d + 1) * y + d) := by grind
      rw [e2, e1, Nat.add_mul_mod_self_left]
      rw [e1] at c
      -- y and j agree mod N but not mod 2 N
      have hy1 := Nat.mod_mul (x := y) (a := N) (b := 2)
      have hj1 := Nat.mod_mul (x := j) (a := N) (b := 2)
      have hs1 := Nat.mod_mul (x := y + N) (a := N) (b := 2)
      rw [Nat.add_mod_right, Nat.add_div_right _ hp] at hs1
      have b1 := Nat.mod_two_eq_zero_or_one (y / N)
      have b2 := Nat.mod_two_eq_zero_or_one (j / N)
      rw [hs1, hj1, h]
      rw [hy1, hj1, h] at c
      rcases b1 with b1 | b1 <;> rcases b2 with b2 | b2 <;> rw [b1, b2] at c <;> first | exact absurd rfl c | (have : (y / N).succ % 2 = 1 := by omega); rw [this, b2] | (have : (y / N).succ % 2 = 0 := by omega); rw [this, b2]
theorem lcg_run {m : Nat} (i : Nat) (hi : i ≤ m) : ∀ k, lcgI m i k = run5 i k % (m + 1)
  | 0 => (Nat.mod_eq_of_lt (Nat.lt_succ_of_le hi)).symm
  | k + 1 => by
    show (lcgI m i k * 5 + 1) % (m + 1) = (5 * run5 i k + 1) % (m + 1)
    rw [lcg_run i hi k, Nat.mul_comm, Nat.add_mod, Nat.mul_mod, Nat.mod_mod, ← Nat.mul_mod, ← Nat.add_mod]
/-- the masks that come -/
noncomputable def Msk (m : Nat) : Prop := m = 7 ∨ m = 31 ∨ m = 127 ∨ m = 511 ∨ m = 2047 ∨ m = 8191
theorem Msk.pow {m : Nat} (h : Msk m) : ∃ e, m + 1 = 2 ^ e := by
  rcases h with h | h | h | h | h | h <;> subst h
  · exact ⟨3, rfl⟩
  · exact ⟨5, rfl⟩
  · exact ⟨7, rfl⟩
  · exact ⟨9, rfl⟩
  · exact ⟨11, rfl⟩
  · exact ⟨13, rfl⟩
theorem Msk.all {m : Nat} (h : Msk m) {i j : Nat} (hi : i ≤ m) (hj : j ≤ m) : ∃ k, k ≤ m ∧ lcgI m i k = j := by
  obtain ⟨e, he⟩ := h.pow
  obtain ⟨k, hk, hr⟩ := run5_hits e i j
  refine ⟨k, by omega, ?_⟩
  rw [lcg_run i hi, he, hr]
  exact Nat.mod_eq_of_lt (by omega)
theorem Msk.run {m : Nat} (hm : Msk m) (h : Int) {j : Nat} (hj : j ≤ m) : ∃ n, n ≤ m + 12 ∧ runI m (SetTable.bits h) n = j := by
  obtain ⟨k, hk, e⟩ := hm.all (runI_le m (SetTable.bits h) 12) hj
  refine ⟨12 + k, by omega, ?_⟩
  rw [runI_tail (bits_lt h), e]
theorem Msk.meet {m : Nat} (hm : Msk m) (h : Int) {j : Nat} (hj : j ≤ m) : ∃ k, k < 10 * SetTable.turns m ∧ way m h k = j := by
  obtain ⟨n, hn, e⟩ := hm.run h hj
  obtain ⟨k, hk, e2⟩ := run_nth m (SetTable.bits h) n
  refine ⟨k, ?_, ?_⟩
  · show k < 10 * (m + 15)
    omega
  · show (nth m _ k).j = j
    rw [e2]; exact e
theorem way_in (m : Nat) (h : Int) (k : Nat) : way m h k ≤ m := by
  have hl : SetTable.bits h % (m + 1) ≤ m := Nat.le_of_lt_succ (Nat.mod_lt _ (Nat.succ_pos m))
  have r := runEnd_bd hl
  have q := nth_in (m := m) k (runAt m (SetTable.bits h % (m + 1)) (SetTable.bits h)) (by
    show SetTable.bits h % (m + 1) + (SetTable.runEnd m (SetTable.bits h % (m + 1)) - SetTable.bits h % (m + 1)) ≤ m
    generalize SetTable.bits h % (m + 1) = u at hl r ⊢
    omega)
  exact Nat.le_trans (Nat.le_add_right _ _) q
/-! ### a table whose elements are found again by their hashes -/
structure Lay (t : SetTable) (hs : List Int) : Prop where
  up : Ris t.place.toList
  dum : t.dummies = #[]
  cnt : t.place.size = hs.length
  msk : Msk t.mask
  top : ∀ x ∈ t.place.toList, x ≤ t.mask
  way : ∀ (i : Nat) (h : Int) (j : Nat), hs[i]? = some h → t.place.toList[i]? = some j → ∃ k, way t.mask h k = j ∧ ∀ k', k' < k → way t.mask h k' ∈ t.place.toList
section
variable {t : SetTable} {hs : List Int}
theorem Lay.len (T : Lay t hs) : t.place.toList.length = hs.length := by rw [Array.length_toList, T.cnt]
/-- where the way of a hash ends -/
theorem Lay.stop (T : Lay t hs) (hl : hs.length ≤ t.mask) (h : Int) : ∃ K, K < 10 * SetTable.turns t.mask ∧ L2.way t.mask h K ∉ t.place.toList ∧ ∀ k, k < K → L2.way t.mask h k ∈ t.place.toList := by
  obtain ⟨j, j1, j2⟩ := st_missing t.place.toList (t.mask + 1) (by rw [T.len]; omega)
  obtain ⟨k, k1, k2⟩ := T.msk.meet h (show j ≤ t.mask by omega)
  obtain ⟨K, a, b, d⟩ := st_least (p := fun n => L2.way t.mask h n ∉ t.place.toList) k (fun z => j2 (k2 ▸ z))
  exact ⟨K, by omega, b, fun n hn => Classical.not_not.mp (d n hn)⟩
theorem Lay.put (T : Lay t hs) {h : Int} {K p : Nat} (hK : L2.way t.mask h K ∉ t.place.toList) (hb : ∀ k, k < K → L2.way t.mask h k ∈ t.place.toList) (hp : SetTable.below t.place (L2.way t.mask h K) = p) :
    p ≤ hs.length ∧ Lay (t.put (L2.way t.mask h K)).1 (hs.take p ++ h :: hs.drop p) ∧ (t.put (L2.way t.mask h K)).1.fill = hs.length + 1 := by
  have ht := way_in t.mask h K
  generalize hj : L2.way t.mask h K = j at *
  have c1 : p ≤ t.place.toList.length := by rw [← hp]; exact (below_cut T.up j).1
  have c2 : p ≤ hs.length := by rw [← T.len]; exact c1
  have pl : (t.put j).1.place.toList = t.place.toList.take p ++ j :: t.place.toList.drop p := by rw [put_place, hp]
  have nj : t.place[SetTable.below t.place j]? ≠ some j := fun z => hK (List.mem_of_getElem? (by rw [Array.getElem?_toList]; exact z))
  have sz : (t.put j).1.place.size = hs.length + 1 := by rw [← Array.length_toList, pl, len_ins _ c1, T.len]
  have old : ∀ {x : Nat}, x ∈ t.place.toList → x ∈ (t.put j).1.place.toList := fun {x} hx => by rw [pl, mem_ins]; exact .inr hx
  have keep : ∀ {i : Nat} {g : Int} {y : Nat}, hs[i]? = some g → t.place.toList[i]? = some y → ∃ k, L2.way t.mask g k = y ∧ ∀ k', k' < k → L2.way t.mask g k' ∈ (t.put j).1.place.toList := fun {i g y} a b => by
    obtain ⟨k, e, z⟩ := T.way i g y a b
    exact ⟨k, e, fun n hn => old (z n hn)⟩
  refine ⟨c2, ⟨ris_insert T.up nj, put_dm T.dum j, by rw [len_ins _ c2]; exact sz, T.msk, fun x hx => ?_, fun i g y a b => ?_⟩, ?_⟩
  · rw [pl, mem_ins] at hx
    rcases hx with z | z
    · rw [z]; exact ht
    · exact T.top x z
  · rw [tins_get hs c2] at a
    rw [pl, tins_get _ c1] at b
    by_cases q1 : i < p
    · rw [if_pos q1] at a b; exact keep a b
    · rw [if_neg q1] at a b
      by_cases q2 : i = p
      · rw [if_pos q2] at a b
        cases a; cases b
        exact ⟨K, hj, fun n hn => old (hb n hn)⟩
      · rw [if_neg q2] at a b; exact keep a b
  · show (t.put j).1.place.size + (t.put j).1.dummies.size = _
    rw [sz, put_dm T.dum j]; rfl
end
/-! ### laid anew -/
theorem Msk.free {m : Nat} (hm : Msk m) (ow : Array (Option Nat)) (h : Int) {j : Nat} (hj : j ≤ m) (hf : oAt ow j = none) :
    ∃ K, SetTable.layClean.free m ow (SetTable.turns m) (SetTable.bits h % (m + 1)) (SetTable.bits h) = some (way m h K) ∧ oAt ow (way m h K) = none ∧ ∀ k, k < K → oAt ow (way m h k) ≠ none := by
  obtain ⟨n, hn, e⟩ := hm.run h hj
  generalize hN : off m (SetTable.bits h % (m + 1)) (SetTable.bits h) n = N
  have hw : way m h N = j := by
    rw [← hN]
    show (nth m _ _).j = j
    rw [nth_off, itL_run]; exact e
  obtain ⟨K, k1, k2, k3⟩ := st_least (p := fun k => oAt ow (way m h k) = none) N (by rw [hw]; exact hf)
  refine ⟨K, free_spec m ow _ n _ _ K (show n < m + 15 by omega) (by rw [hN]; exact k1) (fun k hk => ?_) (by rw [show oAt ow (nth m _ K).j = none from k2]; rfl), k2, k3⟩
  cases z : oAt ow (nth m (runAt m (SetTable.bits h % (m + 1)) (SetTable.bits h)) k).j with
  | none => exact absurd z (k3 k hk)
  | some _ => rfl
end Ev

/-! Ev, part Sb: a set of tuples of ints: the search, an item added. -/
namespace Ev
open PySem L2 PySem.Spec PyProof.Rows
section
variable {P : Program} {w : World} {A : Around} {E : Value → Shared → Prop} {s : Shared}
/-- the set at a holds the tuples L (each with its address) -/
structure TSet (P : Program) (w : World) (h : Heap) (a : Addr) (L : List (Addr × List Int)) (es : Array (Int × Value)) (ep : Nat) (t : SetTable) : Prop where
  obj : ∃ o, h.get? a = some o ∧ o.ExactSet ∧ o.data = .set es ep t
  row : es.toList = rowsOf P w L
  lay : Lay t (L.map fun p => thash P w p.2)
  one : (L.map (·.2)).Nodup
  tup : ∀ p ∈ L, IsT P w h p.2 p.1
  pln : t.plain = true
  led : w.params.followText "set-order" = true ∨ t.led = true
  gap : L.length * 5 < t.mask * 3
  few : L.length < 4096
variable {a : Addr} {L : List (Addr × List Int)} {es : Array (Int × Value)} {ep : Nat} {t : SetTable}
theorem rows_len {L : List (Addr × List Int)} {es : Array (Int × Value)} (e : es.toList = rowsOf P w L) : es.size = L.length := by
  have := congrArg List.length e
  simpa [rowsOf] using this
theorem TSet.sz (R : TSet P w s.heap a L es ep t) : es.size = L.length := rows_len R.row
end
end Ev

/-! Ev, part Sc: set(xs) of a list or a tuple, of tuples of ints or of ints. -/
namespace Ev
open PySem L2 PySem.Spec PyProof.Rows
section
variable {P : Program} {w : World} {A : Around} {E : Value → Shared → Prop} {s : Shared}
/-- a set of tuples that holds what these have -/
noncomputable def Holds (P : Program) (w : World) (ks : List (Addr × List Int)) (h : Heap) (S : Addr) : Prop := ∃ L es ep t, TSet P w h S L es ep t ∧ (∀ p ∈ L, p ∈ ks) ∧ ∀ p ∈ ks, p.2 ∈ L.map (·.2)
end
end Ev

/-! Ev, part Se: sorted(set(xs)) and len(set(xs)) of a list or a tuple, of tuples of ints or of ints. -/
namespace Ev
open PySem L2 PySem.Spec PyProof.Rows PySem.W
/-! ### lists without repetition, sorted -/
section
variable {α β : Type} [DecidableEq α]
end
section
variable {P : Program} {w : World} {A : Around} {E : Value → Shared → Prop} {s : Shared}
variable {a : Addr} {L : List (Addr × List Int)} {es : Array (Int × Value)} {ep : Nat} {t : SetTable} {Q : Value → Shared → Prop}
end
/-! ### the forms -/
section
variable {X : Cx} {e : Expr} {te : TE} {p1 p2 p3 p4 : Pos}
end
section
variable {X : Cx} {c : Cn} {G : GS} {cl : Caller} {a : CE} {ea : Expr}
end
end Ev

/-! Ev, part R: == and != of two instances by their class's own __eq__. -/
namespace Ev
open PySem L2 PyProof.Rows
section
variable {prog : Program} {w : World} {A : Around} {E : Value → Shared → Prop} {s : Shared} {K : PySem.W.Frag} {x C f : Addr} {ox : Obj} {od : Option Obj} {b tb : Value}
end
/-- the class at C has an own __eq__ at f, and no own __ne__ -/
structure OwnE (K : PySem.W.Frag) (C f : Addr) : Prop where
  eq : PySem.W.findIn K (.ref C) "__eq__" = some (some (.ref f))
  ne : PySem.W.findIn K (.ref C) "__ne__" = some (some (.builtin "object.__ne__"))
  fn : PySem.W.isFn K (.ref f) = true
section
variable {X : Cx} {pins : List (Addr × Obj)} {σ : L2.St} {H : Hp} {s : Shared} {Q : VK} {a b fa : Addr} {fd : FuncData} {ps : List Str} {sp : Sp} {j : Nat}
end
section
variable {X : Cx} {c : Cn} {G : GS} {cl : Caller} {ea eb : Expr} {ca cb : CE} {pos : Pos}
noncomputable def EqsOk (X : Cx) (c : Cn) (G : GS) (cl : Caller) : Prop := ∀ (ci : Nat) (kk : Cl) (f : Nat), G.cls.lookup ci = some kk → kk.eq = some f → ∃ C fa fd ps j, c.cls.lookup ci = some C ∧ OwnE X.K C fa ∧ FnOk X.prog X.w X.K X.mg X.base (L2.CX X.prog X.w) j fa fd ps (spC c cl f) ∧ Room (j + 1) X.A ∧ Binds X.K fd ps []
theorem op_or {op : CmpOp} {S1 S2 : R2} (h1 : OpR X (compareOp op) S1) (h2 : OpR X (compareOp op) S2) : OpR X (compareOp op) (fun x y H Q => S1 x y H Q ∨ S2 x y H Q) := by
  intro pins s σ H x y v u Q I rx ry h
  rcases h with h | h
  · exact h1 pins s σ H x y v u Q I rx ry h
  · exact h2 pins s σ H x y v u Q I rx ry h
end
end Ev

/-! Ev, part T: == and != of two tuples that hold instances with an own __eq__: seen to be equal item by item. -/
namespace Ev
open PySem L2 PyProof.Rows
section
open PySem.SeqAt
open AutoSeq1 (wpAny_loadPart')
open MeetsSeq MeetsSeq2 MeetsSeq3 SeqRoads2
variable {prog : Program} {w : World} {A : Around} {R : Result → Shared → Prop}
end
section
variable {prog : Program} {w : World} {A : Around} {E : Value → Shared → Prop} {s : Shared}
end
section
variable {X : Cx} {n : Nat} {D' : Eqv}
end
section
variable {X : Cx} {c : Cn} {G : GS} {cl : Caller} {ea eb : Expr} {ca cb : CE} {pos : Pos}
end
end Ev

/-! Ev, part Sg: dict displays of one pair. -/
namespace Ev
open PySem L2 PySem.W PyProof.Rows
section
variable {X : Cx}
end
section
variable {c : Cn} {G : GS} {cl : Caller} {F Z H : Hp} {σ : L2.St} {τ τ1 : T} {A : Nat → List Addr} {p : Bool}
section
variable {X : Cx} {ek ev : Expr} {a b : CE} {pos : Pos}
end
end
end Ev

/-! Ev, part Si: sorted of a dict, by its keys. -/
namespace Ev
open PySem L2 PySem.W PyProof.Rows
section
variable {prog : Program} {w : World} {A : Around} {E : Value → Shared → Prop} {s : Shared} {d : Addr} {es : Array DictEntry} {ep : Nat}
theorem keys_of_items {acc : Array Value} (it : ItemsOf (fun i v => ∃ hi : i < es.size, v = es[i].key) acc es.size) : acc.toList = es.toList.map (·.key) := by
  refine List.ext_getElem (by rw [Array.length_toList, List.length_map, Array.length_toList]; exact it.1) fun i h1 h2 => ?_
  obtain ⟨hi, e⟩ := it.2 i acc[i] (by rw [Array.getElem?_eq_getElem])
  rw [Array.getElem_toList, List.getElem_map, Array.getElem_toList]
  exact e
theorem coll_keys {Q : List Value → Shared → Prop} (lo : (d == sysModules) = false) (hh : A.handled = none) (q : s.heap.DictRaw d es ep) (hn : es.size ≤ sizeLine)
    (k : ∀ h' tk, (∀ b o, s.heap.get? b = some o → h'.get? b = some o) → s.heap.objs.size ≤ h'.objs.size → Q (es.toList.map (·.key)) { s with heap := h', toks := tk }) : wpAny (model prog w) A (collect (.ref d)) Q E s := by
  have hlt : d < s.heap.objs.size := by obtain ⟨o, ho, _⟩ := q; exact Heap.lt_size ho
  have new : (s.heap.push { cls := .type "list", data := .seq ([] : List Value).toArray }).get? s.heap.objs.size = some { cls := .type "list", data := .seq #[] 0 } := Heap.get?_push_size _ rfl
  have q1 : (s.heap.push { cls := .type "list", data := .seq ([] : List Value).toArray }).DictRaw d es ep := q.at fun o e => Heap.get?_push_of_some _ e
  have done : ∀ {h' : Heap} {tk : Nat} {acc : Array Value} {c' : Nat}, (∀ b o, s.heap.get? b = some o → h'.get? b = some o) → h'.get? s.heap.objs.size = some { cls := .type "list", dict := none, data := .seq acc c', slots := #[] } → acc.toList = es.toList.map (·.key) →
      wpAny (model prog w) A (match Value.ref s.heap.objs.size with
      | Value.ref l => do
        match (← load l).data with
          | Data.seq ys _ => pure ys.toList
          | _ => unsupported "internal:collect"
      | _ => unsupported "internal:collect") Q E { s with heap := h', toks := tk } := fun {h' tk acc c'} kp hl e => by
    refine wpAny_bind (m := load s.heap.objs.size) (wpAny_load hl (wpAny_pure ?_))
    show Q acc.toList _
    rw [e]
    exact k h' tk kp (Nat.le_of_lt (Heap.lt_size hl))
  unfold collect
  refine wpAny_bind (wpAny_runValue (codeAny_builtin F.entry_proto_collect ?_))
  rw [Around.under_plainId F.plain_proto_collect _]
  refine wpAny_bind (m := newList []) (wpAny_newObj_type (wpAny_pure ⟨plainId_quiet F.plain_list_iadd _, codeAny_builtin F.entry_list_iadd ?_⟩))
  rw [Around.under_plainId F.plain_list_iadd _]
  refine wpAny_mono (kdl_extend (A := A) (s := { s with heap := s.heap.push { cls := .type "list", data := .seq ([] : List Value).toArray } }) (src_raw lo) hh q1 s.heap.objs.size (Nat.ne_of_gt hlt) (Nat.ne_of_gt hlt) (.ref s.heap.objs.size) 0 new
    (R := fun r s' => r = .ok (.ret (.ref s.heap.objs.size)) ∧ ∃ (h' : Heap) (tk : Nat) (acc : Array Value) (c' : Nat), s' = { s with heap := h', toks := tk } ∧ (∀ b o, s.heap.get? b = some o → h'.get? b = some o) ∧ h'.get? s.heap.objs.size = some { cls := .type "list", dict := none, data := .seq acc c', slots := #[] } ∧ acc.toList = es.toList.map (·.key))
    (fun h' tk acc c' kp hl it => ⟨rfl, h', tk, acc, c', rfl, fun b o e => kp b o (Nat.ne_of_lt (Heap.lt_size e)) (Heap.get?_push_of_some _ e), hl, keys_of_items it⟩) hn) (fun fin s' q => ?_) fun e s' q => absurd q.1 (by simp)
  cases fin with
  | done f =>
    obtain ⟨r1, h', tk, acc, c', rfl, kp, hl, e⟩ := q
    cases r1
    exact done kp hl e
  | again cd =>
    refine ⟨q.1, codeAny_mono q.2 fun r s2 hr => ?_⟩
    obtain ⟨rfl, h', tk, acc, c', rfl, kp, hl, e⟩ := hr
    exact done kp hl e
end
section
variable {X : Cx} {c : Cn}
/-- the keys of a dict in the abstract heap, as they stand in the machine's -/
theorem keys_raw {pins : List (Addr × Obj)} {s : Shared} {σ : L2.St} {H : Hp} {a : Addr} (I : Inv X pins σ H s) (hd : (∃ kvs : List (L2.Key × V), H a = some (.dK kvs)) ∨ ∃ kvs : List (List L2.Key × V), H a = some (.dT kvs)) :
    ∃ (es : Array DictEntry) (ep : Nat) (ys : List V), (a == sysModules) = false ∧ s.heap.DictRaw a es ep ∧ es.size ≤ sizeLine ∧ Vals ys (es.toList.map (·.key)) ∧ KeysAre H a ys := by
  rcases hd with ⟨kvs, e⟩ | ⟨kvs, e⟩
  · obtain ⟨z, lo, vs, rel, dd⟩ := dk_of I.hok e
    obtain ⟨es, ep, raw, hs, hk⟩ := dd.raw
    have hl := rel.length
    refine ⟨es, ep, kvs.map fun p => kV p.1, lo, raw, by rw [hs, ← hl]; exact z, ?_, .inl ⟨kvs, e, rfl⟩⟩
    have ek := rel.keys
    refine vals_of (by have e0 : es.toList.length = es.size := Array.length_toList; rw [List.length_map, List.length_map, e0, hs, hl]) fun i y v h1 h2 => ?_
    rw [List.getElem?_map] at h1 h2
    obtain ⟨en, h3, rfl⟩ := Option.map_eq_some_iff.mp h2
    obtain ⟨p, h4, rfl⟩ := Option.map_eq_some_iff.mp h1
    rw [Array.getElem?_toList] at h3
    obtain ⟨hi, h5⟩ := Array.getElem?_eq_some_iff.mp h3
    subst h5
    have h6 : vs[i]? = some (p.1, (vs[i]'(by omega)).2) := by
      have h7 : (kvs.map (·.1))[i]? = some p.1 := by rw [List.getElem?_map, h4]; rfl
      rw [ek, List.getElem?_map, List.getElem?_eq_getElem (show i < vs.length by omega)] at h7
      rw [List.getElem?_eq_getElem (show i < vs.length by omega)]
      have h8 := Option.some.inj h7
      rw [← h8]
    exact kV_rel (hk i hi p.1 _ h6).1
  · obtain ⟨z, lo, xs, rel, dd⟩ := dt_of I.hok e
    obtain ⟨es, ep, raw, hs, hk⟩ := dd.raw
    have hl := Paired.length rel
    refine ⟨es, ep, xs.map fun p => V.ref p.2.1, lo, raw, by rw [hs, ← hl]; exact z, ?_, .inr ⟨kvs, e, ?_⟩⟩
    · refine vals_of (by have e0 : es.toList.length = es.size := Array.length_toList; rw [List.length_map, List.length_map, e0, hs]) fun i y v h1 h2 => ?_
      rw [List.getElem?_map] at h1 h2
      obtain ⟨en, h3, rfl⟩ := Option.map_eq_some_iff.mp h2
      obtain ⟨p, h4, rfl⟩ := Option.map_eq_some_iff.mp h1
      rw [Array.getElem?_toList] at h3
      obtain ⟨hi, h5⟩ := Array.getElem?_eq_some_iff.mp h3
      subst h5
      obtain ⟨y, h6, h7, _⟩ := hk i hi
      rw [h4] at h6
      cases h6
      exact h7
    · clear hk hs raw z dd hl e
      induction rel with
      | nil => exact .nil
      | cons h t ih => exact .cons ⟨_, rfl, h.2.1⟩ ih
/-- what sorted(x) of a dict, a list, a tuple wishes -/
noncomputable def rSrtX (c : Cn) : List V → Hp → VK → Prop := fun xs H Q => ∃ Z ds ys a, Same Z H ∧ TupsIn Z H ∧ xs = [.ref a] ∧
  ((∃ vs, (H a = some (.lst vs) ∨ TupAt c.K H a vs ∨ SqL c.K H a vs) ∧ RepL c Z ds vs) ∨ (∃ kvs : List (L2.Key × V), H a = some (.dK kvs) ∧ ds = (kvs.map (·.1)).map keyV) ∨ ∃ kvs : List (List L2.Key × V), H a = some (.dT kvs) ∧ ds = (kvs.map (·.1)).map fun k => .tup (k.map keyV)) ∧
  sortD ds = some ys ∧ ∀ z H', NewR c Z H (.m (.lst ys)) z H' → Q z H'
theorem sortedX_ok (hK : X.K = c.K) (hc : X.calm = true) (hu : X.A.units + 16 < cLine) : CallR X (.builtin "sorted") (rSrtX c) := by
  intro pins s σ H xs us Q I r h
  obtain ⟨Z, ds, ys, a, hz, tz, rfl, hl, e, k⟩ := h
  unfold sortD at e
  split at e
  · rename_i ps ep
    split at e
    · rename_i hcc
      cases e
      obtain ⟨c1, c2, c3, c4⟩ := hcc
      obtain ⟨m1, m2⟩ := toPys_map ep
      rw [Vals.ref1 r]
      obtain ⟨vs, its, q, rv, hlen, coll⟩ : ∃ (vs : List V) (its : List Value), RepL c Z ds vs ∧ Vals vs its ∧ vs.length ≤ sizeLine ∧ ∀ (Q' : List Value → Shared → Prop) (E : Value → Shared → Prop), (∀ h' tk, (∀ b o, s.heap.get? b = some o → h'.get? b = some o) → s.heap.objs.size ≤ h'.objs.size → Q' its { s with heap := h', toks := tk }) → wpAny (model X.prog X.w) X.A.in1 (collect (.ref a)) Q' E s := by
        have seq : ∀ {vs : List V} {its : List Value} {T : String} {o : Obj} {n : Nat}, (T = "list" ∨ T = "tuple") → s.heap.get? a = some o → o.cls = .type T → o.data = .seq its.toArray n → vs.length ≤ sizeLine → Vals vs its → RepL c Z ds vs →
            ∃ (vs : List V) (its : List Value), RepL c Z ds vs ∧ Vals vs its ∧ vs.length ≤ sizeLine ∧ ∀ (Q' : List Value → Shared → Prop) (E : Value → Shared → Prop), (∀ h' tk, (∀ b o, s.heap.get? b = some o → h'.get? b = some o) → s.heap.objs.size ≤ h'.objs.size → Q' its { s with heap := h', toks := tk }) → wpAny (model X.prog X.w) X.A.in1 (collect (.ref a)) Q' E s := by
          intro vs its T o n hT ho hcl hd hlen rv q
          exact ⟨vs, its, q, rv, hlen, fun Q' E hq => coll_seq hT ho hcl hd (by rw [rv.length] at hlen; exact hlen) fun h' kp hs => hq h' s.toks kp hs⟩
        have keys : ((∃ kvs : List (L2.Key × V), H a = some (.dK kvs)) ∨ ∃ kvs : List (List L2.Key × V), H a = some (.dT kvs)) → (∀ ys, KeysAre H a ys → RepL c Z ds ys) →
            ∃ (vs : List V) (its : List Value), RepL c Z ds vs ∧ Vals vs its ∧ vs.length ≤ sizeLine ∧ ∀ (Q' : List Value → Shared → Prop) (E : Value → Shared → Prop), (∀ h' tk, (∀ b o, s.heap.get? b = some o → h'.get? b = some o) → s.heap.objs.size ≤ h'.objs.size → Q' its { s with heap := h', toks := tk }) → wpAny (model X.prog X.w) X.A.in1 (collect (.ref a)) Q' E s := by
          intro hd kr
          obtain ⟨es, ep, ys, lo, raw, hn, rv, ka⟩ := keys_raw I hd
          exact ⟨ys, _, kr ys ka, rv, by rw [rv.length, List.length_map, Array.length_toList]; exact hn, fun Q' E hq => coll_keys lo (I.ok.hd hc) raw hn hq⟩
        rcases hl with ⟨vs, hl, q⟩ | ⟨kvs, e, rfl⟩ | ⟨kvs, e, rfl⟩
        · rcases hl with hl | hl | hl
          · obtain ⟨its, rv, hp, hlen⟩ := I.list (SqL.of hl)
            obtain ⟨o, ho, hcl, n, hd⟩ := hp.isList
            exact seq (.inl rfl) ho hcl hd hlen rv q
          · obtain ⟨its, rv, hp, hlen⟩ := I.tuple (by rw [hK]; exact hl.sq)
            obtain ⟨o, ho, hcl, n, hd⟩ := hp
            exact seq (.inr rfl) ho hcl hd hlen rv q
          · obtain ⟨its, rv, hp, hlen⟩ := I.list (by rw [hK]; exact hl)
            obtain ⟨o, ho, hcl, n, hd⟩ := hp.isList
            exact seq (.inl rfl) ho hcl hd hlen rv q
        · exact keys (.inl ⟨kvs, e⟩) fun ys ka => keys_repK ka e
        · exact keys (.inr ⟨kvs, e⟩) fun ys ka => keys_repT tz ka e
      have hal : PySem.W.AllAlike (ds.map enc) := by
        rw [m1]
        intro d hd d' hd'
        exact List.all_eq_true.mp (List.all_eq_true.mp c2 d hd) d' hd'
      have hk : Srt (ds.map enc) := by
        rw [m1]
        rcases c3 with c3 | c3
        · exact .inl fun d hd => headed_tup (List.all_eq_true.mp c3 d hd)
        · refine .inr fun d hd => ?_
          have := List.all_eq_true.mp c3 d hd
          unfold notTup at this
          split at this
          · cases this
          · cases this
          · rename_i n1 n2
            exact ⟨n1, fun xs z => n2 xs z⟩
      have hrd : ∀ (u : Value) (d : D), d ∈ ds → (∃ v, RelV v u ∧ Rep c Z d v) → ∃ as, Reads s.heap u (enc d) as := fun u d hd ⟨v, r1, r2⟩ => Dp.reads I _ v _ (by rw [hK]; exact Rep.dp hz d _ v (m2 d hd) r2) r1
      refine sorted_collP (β := D) (bs := ds) (enc := enc) (R := fun u d => ∃ v, RelV v u ∧ Rep c Z d v) (Pm := fun bs' => bs' = ds) (hP := fun bs' h => by rw [h]) (by rw [← sl_eq]; exact c1) (fun Q' hq => ?_) (fun h' keep v b hb rr => ?_) hal hk (fun b hb => ?_) fun s' p out epo bs' kp g o1 hp hg pm eo => ?_
      · exact coll _ _ fun h' tk kp hs => hq { s with heap := h', toks := tk } its ds kp hs rfl rfl (each_of q rv) rfl
      · obtain ⟨as, rd⟩ := hrd v b hb rr
        exact ⟨as, PyProof.Rows.Reads.keeps (fun {b'} {o'} => keep b' o') rd⟩
      · have := List.all_eq_true.mp c4 (enc b) (by rw [← m1]; exact List.mem_map_of_mem hb)
        have := of_decide_eq_true this
        omega
      · subst pm
        obtain ⟨ws, rw1, rw2⟩ := of_each eo
        have hl2 : ws.length ≤ sizeLine := by
          rw [rw1.length, eo.length, List.length_mergeSort, ← sl_eq]; exact c1
        have J : Inv X pins σ (upd H p (.lst ws)) { s with heap := s'.heap, gens := s'.gens, drawn := s'.drawn, toks := s'.toks } :=
          Inv.call (s := s) I (ch := []) (Un.laid kp hp (I.hok.fresh hp)) (I.hok.laid kp hp ⟨hl2, out, epo, rw1, hg⟩) (by rw [g]; exact I.bare) (fun _ z => nomatch z)
        have es : s' = { s with heap := s'.heap, gens := s'.gens, drawn := s'.drawn, toks := s'.toks } := by
          cases s'
          cases s
          cases o1
          rfl
        rw [es]
        exact ⟨.ref p, _, J, rfl, k _ _ (.inr (.inr ⟨p, ws, _, rfl, rfl, I.hok.fresh hp, rfl, rw2⟩))⟩
    · cases e
  · cases e
end
section
variable {X : Cx} {c : Cn} {G : GS} {cl : Caller}
theorem evL_one {G : GS} {cl : Caller} {p : Bool} {a : CE} {τ τ1 : T} {rs : List R} (h : evL G cl p (.cons a .nil) τ = some (rs, τ1)) : ∃ x, evE G cl p a τ = some (x, τ1) ∧ rs = [setl x] := by
  unfold evL at h
  split at h
  · cases h
  · rename_i x τ2 e
    unfold evL at h
    cases h
    exact ⟨x, e, rfl⟩
theorem list_of {ds : List D} {r : R} (e : bltD .list ds = some r) : (∃ xs, ds = [.lst xs] ∧ r = .m (.lst xs)) ∨ (∃ xs, ds = [.tup xs] ∧ r = .m (.lst xs)) ∨ (∃ ns, ds = [.scr ns] ∧ r = .m (.lst (ns.map .int))) ∨ (∃ ks ws, ds = [.dK ks ws] ∧ r = .m (.lst (ks.map keyV))) ∨ ∃ ks ws, ds = [.dT ks ws] ∧ r = .m (.lst (ks.map fun k => .tup (k.map keyV))) := by
  cases ds with
  | nil => exact nomatch (show (none : Option R) = some r from e)
  | cons d ds =>
    cases ds with
    | cons d2 ds => cases d <;> exact nomatch (show (none : Option R) = some r from e)
    | nil =>
      cases d with
      | lst xs => cases e; exact .inl ⟨_, rfl, rfl⟩
      | tup xs => cases e; exact .inr (.inl ⟨_, rfl, rfl⟩)
      | scr ns => cases e; exact .inr (.inr (.inl ⟨_, rfl, rfl⟩))
      | dK ks ws => cases e; exact .inr (.inr (.inr (.inl ⟨_, _, rfl, rfl⟩)))
      | dT ks ws => cases e; exact .inr (.inr (.inr (.inr ⟨_, _, rfl, rfl⟩)))
      | _ => exact nomatch (show (none : Option R) = some r from e)
/-- sorted(x), where the code says sorted(list(x)) -/
theorem s_srtx {a : CE} {e : Expr} (h : PE X e (tCB (rSrtX c) (tL c G cl (.cons a .nil)))) : PE X e (tE c G cl (.blt .sorted (.cons (.blt .list (.cons a .nil)) .nil))) :=
  pe_imp h fun σ H Q q => by
    obtain ⟨p, F, Z, τ, A, r, τ', s, e, k⟩ := q
    unfold evE at e
    split at e
    · cases e
    · rename_i rs τ1 e1
      obtain ⟨x, e0, rfl⟩ := evL_one e1
      unfold evE at e0
      split at e0
      · cases e0
      · rename_i rs' τ2 e1'
        split at e0
        · cases e0
        · rename_i vs' e2'
          cases e3' : bltD .list vs' with
          | none => rw [e3'] at e0; cases e0
          | some r0' =>
            rw [e3'] at e0
            cases e0
            have key : ∀ zs, x = .m (.lst zs) → ∃ ys, sortD zs = some ys ∧ r = .m (.lst ys) ∧ τ' = τ1 := by
              intro zs ez
              subst ez
              have e' : (match some [D.lst zs] with
                | none => none
                | some vs => (bltD .sorted vs).map fun r => (r, τ1)) = some (r, τ') := e
              have e' : ((sortD zs).map fun ys => R.m (.lst ys)).map (fun r => (r, τ1)) = some (r, τ') := e'
              cases es : sortD zs with
              | none => rw [es] at e'; cases e'
              | some ys =>
                rw [es] at e'
                cases e'
                exact ⟨ys, rfl, rfl, rfl⟩
            have fin : ∀ zs, x = .m (.lst zs) → (∀ (Z1 H1 : Hp) (xs : List V), TupsIn Z1 H1 → Same Z1 H1 → VwL c Z1 H1 vs' xs → ∃ a, xs = [.ref a] ∧ ((∃ vs, (H1 a = some (.lst vs) ∨ TupAt c.K H1 a vs ∨ SqL c.K H1 a vs) ∧ RepL c Z1 zs vs) ∨ (∃ kvs : List (L2.Key × V), H1 a = some (.dK kvs) ∧ zs = (kvs.map (·.1)).map keyV) ∨ ∃ kvs : List (List L2.Key × V), H1 a = some (.dT kvs) ∧ zs = (kvs.map (·.1)).map fun k => .tup (k.map keyV))) →
                tCB (rSrtX c) (tL c G cl (.cons a .nil)) σ H Q := by
              intro zs ez hv
              obtain ⟨ys, es, er, et⟩ := key zs ez
              subst er et
              refine ⟨p, F, Z, τ, A, rs', _, s, e1', fun xs H1 Z1 A1 po wl => ?_⟩
              obtain ⟨a', exs, hx⟩ := hv Z1 H1 xs po.st.tz po.st.zh (looks_ok po.st wl e2')
              exact ⟨Z1, zs, ys, a', po.st.zh, po.st.tz, exs, hx, es, fun z H' n => fin_new po n k⟩
            rcases list_of e3' with ⟨zs, rfl, rfl⟩ | ⟨zs, rfl, rfl⟩ | ⟨ns, rfl, rfl⟩ | ⟨ks, ws, rfl, rfl⟩ | ⟨ks, ws, rfl, rfl⟩
            · exact fin _ rfl fun Z1 H1 xs tz zh vl => by
                obtain ⟨x, _, rfl, ⟨a, vs, rfl, s1, r1⟩, rfl⟩ := vl
                exact ⟨a, rfl, .inl ⟨vs, .inl s1, r1⟩⟩
            · exact fin _ rfl fun Z1 H1 xs tz zh vl => by
                obtain ⟨x, _, rfl, ⟨a, vs, rfl, s1, r1⟩, rfl⟩ := vl
                exact ⟨a, rfl, .inl ⟨vs, .inr (.inl (sqT_mono zh s1)), r1⟩⟩
            · exact fin _ rfl fun Z1 H1 xs tz zh vl => by
                obtain ⟨x, _, rfl, ⟨a, rfl, s1⟩, rfl⟩ := vl
                exact ⟨a, rfl, .inl ⟨_, .inr (.inr (zh.seq s1)), RepL.ints _⟩⟩
            · exact fin _ rfl fun Z1 H1 xs tz zh vl => by
                obtain ⟨x, _, rfl, ⟨a, kvs, vs, rfl, s1, rfl, rfl, r1⟩, rfl⟩ := vl
                exact ⟨a, rfl, .inr (.inl ⟨kvs, s1, rfl⟩)⟩
            · exact fin _ rfl fun Z1 H1 xs tz zh vl => by
                obtain ⟨x, _, rfl, ⟨a, kvs, vs, rfl, s1, rfl, rfl, r1⟩, rfl⟩ := vl
                exact ⟨a, rfl, .inr (.inr ⟨kvs, s1, rfl⟩)⟩
end
end Ev

/-! Ev, part Ra: readings of what may raise. -/
namespace Ev
open PySem PySem.Spec L2 PyProof.Rows
section
variable (c : Cn) (G : GS) (cl : Caller) (W : WX)
noncomputable def rEx (e : CE) (σ : L2.St) (H : Hp) : Prop := ∃ p F Z τ A x τ', Sta c F Z H σ τ A ∧ rsE G cl p e τ = some (x, τ') ∧ ∀ k d H' Z' A', Same Z Z' → Sta c F Z' H' σ τ' A' → RepX c Z' x k d → W k d σ H'
noncomputable def rXx (es : CEs) (σ : L2.St) (H : Hp) : Prop := ∃ p F Z τ A x τ', Sta c F Z H σ τ A ∧ rsX G cl p es τ = some (x, τ') ∧ ∀ k d H' Z' A', Same Z Z' → Sta c F Z' H' σ τ' A' → RepX c Z' x k d → W k d σ H'
noncomputable def tEr (e : CE) : TE := fun σ H Q => tE c G cl e σ H Q ∨ rEx c G cl W e σ H
noncomputable def tXr (es : CEs) : TA := fun σ H Q => tX c G cl es σ H Q ∨ rXx c G cl W es σ H
noncomputable def rSx (io : List Nat) (s : CS) (σ : L2.St) (H : Hp) : Prop := ∃ F Z τ A x τ', Sta c F Z H σ τ A ∧ rsS G cl io s τ = some (x, τ') ∧ ∀ σ' k d H' Z' A', Same Z Z' → Kp io σ σ' → Sta c F Z' H' σ' τ' A' → RepX c Z' x k d → W k d σ' H'
noncomputable def rSsx (io : List Nat) (s : CSs) (σ : L2.St) (H : Hp) : Prop := ∃ F Z τ A x τ', Sta c F Z H σ τ A ∧ rsSs G cl io s τ = some (x, τ') ∧ ∀ σ' k d H' Z' A', Same Z Z' → Kp io σ σ' → Sta c F Z' H' σ' τ' A' → RepX c Z' x k d → W k d σ' H'
noncomputable def tSr (io : List Nat) (s : CS) : TS := fun D σ H => tS c G cl io s D σ H ∨ rSx c G cl W io s σ H
noncomputable def tSsr (io : List Nat) (s : CSs) : TS := fun D σ H => tSs c G cl io s D σ H ∨ rSsx c G cl W io s σ H
end
theorem tE_mono {c : Cn} {cl : Caller} {G : GS} {ce : CE} {σ : L2.St} {H : Hp} {Q Q' : VK} (q : tE c G cl ce σ H Q) (h : ∀ x H1, Q x H1 → Q' x H1) : tE c G cl ce σ H Q' := by
  obtain ⟨p, F, Z, τ, A, r, τ', s, e, k⟩ := q
  exact ⟨p, F, Z, τ, A, r, τ', s, e, fun x H' Z' A' B po re => h _ _ (k x H' Z' A' B po re)⟩
theorem tT_mono {c : Cn} {cl : Caller} {G : GS} {t : CT} {σ : L2.St} {H : Hp} {Q Q' : Bool → Hp → Prop} (q : tT c G cl t σ H Q) (h : ∀ x H1, Q x H1 → Q' x H1) : tT c G cl t σ H Q' := by
  obtain ⟨p, F, Z, τ, A, r, τ', s, e, k⟩ := q
  exact ⟨p, F, Z, τ, A, r, τ', s, e, fun H' Z' A' po => h _ _ (k H' Z' A' po)⟩
section
variable {c : Cn} {G : GS} {cl : Caller} {W : WX} {F Z H : Hp} {σ : L2.St} {τ τ1 τ2 τ' : T} {A : Nat → List Addr} {p : Bool} {X : Cx} {ea eb ec : Expr} {a b d : CE} {pos : Pos} {io : List Nat}
theorem er_no {e : Expr} (h : PE X e (tE c G cl a)) (hn : ∀ p τ, rsE G cl p a τ = none) : PE X e (tEr c G cl W a) := pe_imp h fun σ H Q q => by
  rcases q with q | ⟨p, F, Z, τ, A, x, τ', s, e, k⟩
  · exact q
  · rw [hn] at e; cases e
theorem r_call {f : Nat} {e : Expr} {ces : CEs} (h : PE X e (fun σ H Q => tCall (spC c cl f) [] (WE W σ) (tL c G cl ces) σ H Q)) : PE X e (tEr c G cl W (.call f ces)) := pe_imp h fun σ H Q q => by
  rcases q with q | ⟨p, F, Z, τ, A, x, τ', s, e, k⟩
  · exact u_call q
  · unfold rsE at e
    split at e
    · cases e
    · rename_i rs τ1 e1
      split at e
      · cases e
      · rename_i fn e2
        split at e
        · cases e
        · rename_i ms is τ2 e3
          split at e
          · cases e
          · rename_i y os e4
            cases e
            refine ⟨p, F, Z, τ, A, rs, τ1, s, e1, fun xs H1 Z1 A1 po wl => ?_⟩
            obtain ⟨Z2, A2, Ac, zz, hd, em, pu, ow⟩ := takeA_ok po.st wl e3
            rw [List.append_nil]
            exact hd.useR e4 fun cls d H' Z' A' z2 st rx => k cls d H' Z' A' ((po.zz.trans zz).trans z2) st rx
theorem r_mk {ci : Nat} {C : Addr} {kk : Cl} {e : Expr} {ces : CEs} (hC : c.cls.lookup ci = some C) (hk : G.cls.lookup ci = some kk) (h : PE X e (fun σ H Q => tMake C (spC c cl kk.init) [] (WE W σ) (tL c G cl ces) σ H Q)) : PE X e (tEr c G cl W (.mk ci ces)) := pe_imp h fun σ H Q q => by
  rcases q with q | ⟨p, F, Z, τ, A, y, τ', s, e, k⟩
  · exact u_mk hC hk q
  · unfold rsE at e
    split at e
    · cases e
    · rename_i rs τ1 e1
      rw [hk] at e
      simp only at e
      split at e
      · cases e
      · rename_i fn e2
        split at e
        · cases e
        · rename_i ms is τ2 e3
          split at e
          · rename_i y' sm os e4
            cases e
            refine ⟨p, F, Z, τ, A, rs, τ1, s, e1, fun xs H1 Z1 A1 po wl x dx nx ndx nex => ?_⟩
            obtain ⟨Z2, A2, Ac, zz, hd, em, pu, ow⟩ := takeA_ok po.st wl e3
            rw [List.append_nil]
            have nx' : (L2.upd H1 dx (.own x)) x = none := by rw [upd_ne (Ne.symm nex)]; exact nx
            have g : Same H1 (L2.upd (L2.upd H1 dx (.own x)) x (.ins C dx [])) := (Same.upd ndx).trans (Same.upd nx')
            have zx : Z2 x = none := hd.st.zh.free nx
            have fx : F x = none := hd.st.fh.free nx
            have hd2 : Hand c (fzw F (L2.upd (L2.upd H1 dx (.own x)) x (.ins C dx [])) [x]) Z2 (L2.upd (L2.upd H1 dx (.own x)) x (.ins C dx [])) σ τ2 A2 xs ms is Ac :=
              (hd.grow g ((hd.st.tz.upd (a := dx) (o := .own x) fun _ z => by cases z).upd (a := x) (o := .ins C dx []) fun _ z => by cases z)).fin fun a ha => by
                cases List.mem_singleton.mp ha
                exact ⟨zx, fun i z => (hd.st.fr i x z).2.2 nx, fun j z => (hd.fr j x z).2.2 nx⟩
            have hd3 := Hand.cons (B := [x]) (i0 := none) (m := .ins ci []) (x := .ref x) hd2 (fun a ha => by
              cases List.mem_singleton.mp ha
              exact ⟨fx, by rw [upd_same]; intro z; cases z⟩) (by simp) ⟨x, C, dx, [], [], rfl, rfl, hC, upd_same, ⟨rfl, rfl⟩, fun p hp => by cases hp⟩ (fun i z => by cases z)
            refine .inr ⟨_, Z2, .ins ci [] :: ms, _, y, sm :: os, hd3.callee, e4, fun cls d H' Z' A' z2 st rx => ?_⟩
            obtain ⟨A3, s3, _⟩ := hd3.back z2 st
            exact k cls d H' Z' A3 ((po.zz.trans zz).trans z2) s3 rx
          · cases e
theorem r_um {m : Nat} {nm : Str} {e : Expr} {ces : CEs} (hm : c.attrs[m]? = some nm)
    (h : ∀ (ci : Nat) (kk : Cl) (f : Nat), G.cls.lookup ci = some kk → kk.ms.lookup m = some f → ∃ C, c.cls.lookup ci = some C ∧ PE X e (fun σ H Q => tMeth C nm (spC c cl f) [] (WE W σ) (tE c G cl a) (tL c G cl ces) σ H Q)) : PE X e (tEr c G cl W (.um m a ces)) := by
  refine ⟨fun pins s σ H Q I q => ?_⟩
  rcases q with q | ⟨p, F, Z, τ, A, y, τ', s, e, k⟩
  · exact (s_um hm h).run pins _ σ H Q I q
  unfold rsE at e
  split at e
  · cases e
  · rename_i ro τ1 e1
    split at e
    · cases e
    · rename_i ci e2
      split at e
      · cases e
      · rename_i kk e3
        split at e
        · cases e
        · rename_i f e4
          split at e
          · cases e
          · rename_i fn e5
            split at e
            · cases e
            · rename_i rs τ2 e6
              obtain ⟨C, hC, pe⟩ := h ci kk f e3 e4
              refine pe.run pins _ σ H Q I ?_
              cases ro with
              | d dd =>
                simp only at e
                split at e
                · cases e
                · rename_i ms is τ3 e7
                  split at e
                  · rename_i y' o0 os e8
                    cases e
                    refine one_op s e1 fun x H1 Z1 A1 po w => ?_
                    have w' : Rep c Z1 dd x := w
                    cases dd with
                    | ins kc fs =>
                      unfold recvC at e2
                      simp only at e2
                      split at e2
                      · rename_i hn
                        cases e2
                        obtain ⟨ad, C', dx, gs, rfl, hC', hZ, rf, ok⟩ := id w'
                        rw [hC] at hC'
                        cases hC'
                        refine ⟨ad, dx, gs, rfl, po.st.zh _ _ hZ, repF_none hm rf (by simpa using hn), ?_⟩
                        refine ⟨p, F, Z1, τ1, A1, rs, τ2, po.st, e6, fun xs H2 Z2 A2 po2 wl => ?_⟩
                        obtain ⟨Z3, A3, Ac, zz, hd, em, pu, ow⟩ := takeA_ok po2.st wl e7
                        rw [List.append_nil]
                        have f0 : fzw F H2 ([] : List Addr) = F := by funext a; exact fzw_out (by simp)
                        have hd2 := Hand.cons (B := []) (i0 := none) (m := .v (.ins ci fs)) (x := .ref ad) (by rw [f0]; exact hd) (fun a z => by cases z) List.nodup_nil ⟨rfl, Rep.mono (po2.zz.trans zz) _ _ w'⟩ (fun i z => by cases z)
                        exact hd2.useR e8 fun cls d H' Z' A' z2 st rx => k cls d H' Z' A' (((po.zz.trans po2.zz).trans zz).trans z2) st rx
                      · cases e2
                    | _ => cases e2
                  · cases e
              | m mm => cases e
              | pl i fo =>
                cases fo with
                | some f' => cases e
                | none =>
                  simp only at e
                  split at e
                  · cases e
                  · rename_i ms is τ3 e7
                    split at e
                    · rename_i y' os e8
                      cases e
                      refine one_op s e1 fun x H1 Z1 A1 po w => ?_
                      have w' : σ[i]? = some (some x) := w
                      unfold recvC at e2
                      simp only at e2
                      split at e2
                      · rename_i kc fs hs
                        split at e2
                        · rename_i hn
                          cases e2
                          obtain ⟨v, hv, o⟩ := po.st.own i _ (slotM_some hs)
                          rw [hv] at w'
                          cases w'
                          obtain ⟨ad, C', dx, gs, B', rfl, eB, hC', hH, oF, ok⟩ := id o
                          rw [hC] at hC'
                          cases hC'
                          refine ⟨ad, dx, gs, rfl, hH, orF_none hm oF (by simpa using hn), ?_⟩
                          refine ⟨p, F, Z1, τ1, A1, rs, τ2, po.st, e6, fun xs H2 Z2 A2 po2 wl => ?_⟩
                          obtain ⟨Z3, A3, Ac, zz, hd, em, pu, ow⟩ := takeA_ok (rs := .pl i none :: rs) (xs := .ref ad :: xs) po2.st ⟨_, _, rfl, hv, wl⟩ e7
                          rw [List.append_nil]
                          exact hd.useR e8 fun cls d H' Z' A' z2 st rx => k cls d H' Z' A' (((po.zz.trans po2.zz).trans zz).trans z2) st rx
                        · cases e2
                      · cases e2
                    · cases e
theorem r_tup {es : List Expr} {ces : CEs} {k1 : Nat} (h : PA X es (tXr c G cl W ces)) : PE X (.Tuple es k1 pos) (tEr c G cl W (.tup ces)) :=
  pe_imp (pe_tup h) fun σ H Q q => by
    rcases q with q | ⟨p, F, Z, τ, A, y, τ', s, e, k⟩
    · obtain ⟨p, F, Z, τ, A, r, τ', s, e, k⟩ := q
      unfold evE at e
      split at e
      · rename_i ds τ1 e1
        split at e
        · rename_i hl
          cases e
          exact .inl ⟨p, F, Z, τ, A, ds, _, s, e1, fun xs H1 Z1 A1 po rl => ⟨by rw [RepL.len ds xs rl, ← sl_eq]; exact hl, fun l nl => fin_new po (.inr (.inl ⟨l, xs, ds, rfl, rfl, nl, rfl, rl⟩)) k⟩⟩
        · cases e
      · cases e
    · unfold rsE at e
      exact .inr ⟨p, F, Z, τ, A, y, τ', s, e, k⟩
theorem rx_nil : PA X [] (tXr c G cl W .nil) := pa_imp x_nil fun σ H Q q => by
  rcases q with q | ⟨p, F, Z, τ, A, y, τ', s, e, k⟩
  · exact q
  · unfold rsX at e; cases e
theorem rx_cons {es : List Expr} {ces : CEs} (h1 : PE X ea (tEr c G cl W a)) (h2 : PA X es (tXr c G cl W ces)) (hs : starEach (ea :: es) X.env = (false, eval ea X.env) :: starEach es X.env) : PA X (ea :: es) (tXr c G cl W (.cons a ces)) :=
  pa_imp (pa_cons h1 h2 hs) fun σ H Q q => by
    rcases q with q | ⟨p, F, Z, τ, A, y, τ', s, e, k⟩
    · exact .inl (tE_mono (u_xcons q) fun x H1 q1 => .inl q1)
    · unfold rsX at e
      split at e
      · exact .inr ⟨p, F, Z, τ, A, y, τ', s, e, k⟩
      · rename_i x τ1 e1
        split at e
        · cases e
        · rename_i dd τ2 e2
          refine .inl ⟨p, F, Z, τ, A, x, τ1, s, e1, fun v H1 Z1 A1 B po re => ?_⟩
          obtain ⟨Z2, A2, po2, rp⟩ := esc_ok po.st re e2
          exact .inr ⟨p, F, Z2, τ2, A2, y, τ', po2.st, e, fun cls d H' Z' A' zz st rx => k cls d H' Z' A' ((po.zz.trans po2.zz).trans zz) st rx⟩
theorem r_frz {e : Expr} (h : PE X e (tEr c G cl W a)) (hn : PE X e (tE c G cl (.frz a))) : PE X e (tEr c G cl W (.frz a)) := ⟨fun pins s σ H Q I q => by
  rcases q with q | ⟨p, F, Z, τ, A, y, τ', s, e, k⟩
  · exact hn.run pins _ σ H Q I q
  · unfold rsE at e
    exact h.run pins _ σ H Q I (.inr ⟨p, F, Z, τ, A, y, τ', s, e, k⟩)⟩
theorem r_ife {x : Expr} {t : CT} (ht : PT X x (tT c G cl t)) (ha : PE X ea (tEr c G cl W a)) (hb : PE X eb (tEr c G cl W b)) : PE X (.IfExp x ea eb pos) (tEr c G cl W (.ife t a b)) :=
  pe_imp (pe_ifExp ht ha hb) fun σ H Q q => by
    rcases q with ⟨p, F, Z, τ, A, r, τ', s, e, k⟩ | ⟨p, F, Z, τ, A, y, τ', s, e, k⟩
    · unfold evE at e
      split at e
      · rename_i τ1 e1
        exact ⟨p, F, Z, τ, A, true, τ1, s, e1, fun H1 Z1 A1 po => by
          refine iteT ?_
          exact .inl ⟨p, F, Z1, τ1, A1, r, τ', po.st, e, fun x H' Z' A' B po2 re => k x H' Z' A' B (po.trans po2 id) re⟩⟩
      · rename_i τ1 e1
        exact ⟨p, F, Z, τ, A, false, τ1, s, e1, fun H1 Z1 A1 po => by
          refine iteF ?_
          exact .inl ⟨p, F, Z1, τ1, A1, r, τ', po.st, e, fun x H' Z' A' B po2 re => k x H' Z' A' B (po.trans po2 id) re⟩⟩
      · cases e
    · unfold rsE at e
      split at e
      · rename_i τ1 e1
        exact ⟨p, F, Z, τ, A, true, τ1, s, e1, fun H1 Z1 A1 po => by
          refine iteT ?_
          exact .inr ⟨p, F, Z1, τ1, A1, y, τ', po.st, e, fun cls d H' Z' A' zz st rx => k cls d H' Z' A' (po.zz.trans zz) st rx⟩⟩
      · rename_i τ1 e1
        exact ⟨p, F, Z, τ, A, false, τ1, s, e1, fun H1 Z1 A1 po => by
          refine iteF ?_
          exact .inr ⟨p, F, Z1, τ1, A1, y, τ', po.st, e, fun cls d H' Z' A' zz st rx => k cls d H' Z' A' (po.zz.trans zz) st rx⟩⟩
      · cases e
/-! ### statements -/
theorem sr_no {s : CS} {st : Stmt} (h : PS X st (tS c G cl io s)) (hn : ∀ τ, rsS G cl io s τ = none) : PS X st (tSr c G cl W io s) := ps_imp h fun D σ H q => by
  rcases q with q | ⟨F, Z, τ, A, x, τ', s, e, k⟩
  · exact q
  · rw [hn] at e; cases e
/-- an expression's error is the statement's -/
theorem ex_of {s : CS} (q : rSx c G cl W io s σ H) (h : ∀ τ r, rsS G cl io s τ = some r → rsE G cl false a τ = some r) : rEx c G cl W a σ H := by
  obtain ⟨F, Z, τ, A, x, τ', s, e, k⟩ := q
  exact ⟨false, F, Z, τ, A, x, τ', s, h _ _ e, fun cls d H' Z' A' zz st rx => k σ cls d H' Z' A' zz (Kp.refl _ _) st rx⟩
theorem r_set {i : Nat} {st : Stmt} (h : PS X st (tAsg (tEr c G cl W a) (gName i))) : PS X st (tSr c G cl W io (.set i a)) := ps_imp h fun D σ H q => by
  rcases q with q | q
  · exact .inl (u_set q)
  · exact .inr (ex_of q fun τ r e => by
      unfold rsS at e
      split at e
      · cases e
      · exact e)
theorem r_setT {tg : Tg} {st : Stmt} (h : PS X st (tAsg (tEr c G cl W a) (gT c.K tg))) : PS X st (tSr c G cl W io (.setT tg a)) := ps_imp h fun D σ H q => by
  rcases q with q | q
  · exact .inl (u_setT q)
  · exact .inr (ex_of q fun τ r e => by unfold rsS at e; exact e)
theorem r_ex {st : Stmt} (h : PS X st (tDrop (tEr c G cl W a))) : PS X st (tSr c G cl W io (.ex a)) := ps_imp h fun D σ H q => by
  rcases q with q | q
  · exact .inl (u_ex q)
  · exact .inr (ex_of q fun τ r e => by unfold rsS at e; exact e)
theorem r_ret {st : Stmt} (h : PS X st (tRet (tEr c G cl W a))) : PS X st (tSr c G cl W io (.ret a)) := ps_imp h fun D σ H q => by
  rcases q with q | q
  · exact .inl (u_ret q)
  · exact .inr (ex_of q fun τ r e => by unfold rsS at e; exact e)
theorem r_ite {t : CT} {x y : CSs} {st : Stmt} (h : PS X st (tIfS (tT c G cl t) (tSsr c G cl W io x) (tSsr c G cl W io y))) : PS X st (tSr c G cl W io (.ite t x y)) := ps_imp h fun D σ H q => by
  rcases q with q | ⟨F, Z, τ, A, y, τ', s, e, k⟩
  · refine tT_mono (u_ite q) fun b H1 q1 => ?_
    cases b
    · exact iteF (.inl (by simpa using q1))
    · exact iteT (.inl (by simpa using q1))
  · unfold rsS at e
    split at e
    · rename_i τ1 e1
      exact ⟨false, F, Z, τ, A, true, τ1, s, e1, fun H1 Z1 A1 po => iteT (.inr ⟨F, Z1, τ1, A1, y, τ', po.st, e, fun σ' cls d H' Z' A' zz kp st rx => k σ' cls d H' Z' A' (po.zz.trans zz) kp st rx⟩)⟩
    · rename_i τ1 e1
      exact ⟨false, F, Z, τ, A, false, τ1, s, e1, fun H1 Z1 A1 po => iteF (.inr ⟨F, Z1, τ1, A1, y, τ', po.st, e, fun σ' cls d H' Z' A' zz kp st rx => k σ' cls d H' Z' A' (po.zz.trans zz) kp st rx⟩)⟩
    · cases e
theorem r_nil : PSs X [] (tSsr c G cl W io .nil) := pss_imp k_nil fun D σ H q => by
  rcases q with q | ⟨F, Z, τ, A, y, τ', s, e, k⟩
  · exact q
  · unfold rsSs at e; cases e
theorem r_cons {st : Stmt} {sts : List Stmt} {x : CS} {r : CSs} (h1 : PS X st (tSr c G cl W io x)) (h2 : PSs X sts (tSsr c G cl W io r)) : PSs X (st :: sts) (tSsr c G cl W io (.cons x r)) := pss_imp (pss_cons h1 h2) fun D σ H q => by
  rcases q with q | ⟨F, Z, τ, A, y, τ', s, e, k⟩
  · refine .inl ?_
    obtain ⟨F, Z, τ, A, fl, s, e, g⟩ := u_cons q
    refine ⟨F, Z, τ, A, fl, s, e, ?_⟩
    cases fl with
    | nx τ' => exact fun σ' H' Z' A' zz s' kp => .inl (g σ' H' Z' A' zz s' kp)
    | bk τ' => exact g
    | ct τ' => exact g
    | ret m τ' => exact g
  · unfold rsSs at e
    split at e
    · rename_i τ1 e1
      exact .inl ⟨F, Z, τ, A, .nx τ1, s, e1, fun σ' H' Z' A' zz s' kp => .inr ⟨F, Z', τ1, A', y, τ', s', e, fun σ2 cls d H2 Z2 A2 z2 k2 st rx => k σ2 cls d H2 Z2 A2 (zz.trans z2) (kp.trans k2) st rx⟩⟩
    · cases e
    · exact .inr ⟨F, Z, τ, A, y, τ', s, e, k⟩
theorem tWhile_mono {t : TT} {u v : TS} {D : Ends} (h : ∀ D σ H, u D σ H → v D σ H) (q : tWhile t u D σ H) (ht : ∀ {σ H} {Q R : Bool → Hp → Prop}, t σ H Q → (∀ b H, Q b H → R b H) → t σ H R) : tWhile t v D σ H := by
  obtain ⟨W, w0, turn⟩ := q
  refine ⟨W, w0, fun m σ H w => ht (turn m σ H w) fun b H1 q => ?_⟩
  cases b with
  | false => exact iteF (by simpa using q)
  | true =>
    obtain ⟨N, hN, q⟩ : ∃ N : L2.St → Hp → Prop, (∀ σ' H', N σ' H' → ∃ m', m' < m ∧ W m' σ' H') ∧ u { D with nx := N, ct := N, bk := D.nx } σ H1 := by simpa using q
    exact iteT ⟨N, hN, h _ _ _ q⟩
theorem r_whl {t : CT} {x : CSs} {st : Stmt} (h : PS X st (tWhile (tT c G cl t) (tSsr c G cl W io x))) : PS X st (tSr c G cl W io (.whl t x)) := ps_imp h fun D σ H q => by
  rcases q with q | ⟨F, Z, τ, A, y, τ', s, e, k⟩
  · exact tWhile_mono (fun D σ H q => .inl q) (u_whl q) tT_mono
  unfold rsS at e
  refine ⟨fun n σ' H' => ∃ Z' τ1 A', Same Z Z' ∧ Sta c F Z' H' σ' τ1 A' ∧ Kp io σ σ' ∧ whileR (evT G cl false t) (fun t' => evSs G cl io x t') (fun t' => rsSs G cl io x t') n τ1 = some (y, τ'), ⟨WF, Z, τ, A, Same.refl _, s, Kp.refl _ _, e⟩, ?_⟩
  rintro n σ1 H1 ⟨Z1, τ1, A1, zz, s1, kp, e1⟩
  cases n with
  | zero => unfold whileR at e1; cases e1
  | succ n =>
    unfold whileR at e1
    split at e1
    · cases e1
    · cases e1
    · rename_i τ2 e2
      refine ⟨false, F, Z1, τ1, A1, true, τ2, s1, e2, fun H2 Z2 A2 po => iteT ?_⟩
      refine ⟨fun σ' H' => ∃ Z' τ1 A', Same Z Z' ∧ Sta c F Z' H' σ' τ1 A' ∧ Kp io σ σ' ∧ whileR (evT G cl false t) (fun t' => evSs G cl io x t') (fun t' => rsSs G cl io x t') n τ1 = some (y, τ'), fun σ' H' w => ⟨n, Nat.lt_succ_self _, w⟩, ?_⟩
      split at e1
      · rename_i τ3 e3
        exact .inl ⟨F, Z2, τ2, A2, .nx τ3, po.st, e3, fun σ3 H3 Z3 A3 z3 s3 k3 => ⟨Z3, τ3, A3, (zz.trans po.zz).trans z3, s3, kp.trans k3, e1⟩⟩
      · rename_i τ3 e3
        exact .inl ⟨F, Z2, τ2, A2, .ct τ3, po.st, e3, fun σ3 H3 Z3 A3 z3 s3 k3 => ⟨Z3, τ3, A3, (zz.trans po.zz).trans z3, s3, kp.trans k3, e1⟩⟩
      · cases e1
      · exact .inr ⟨F, Z2, τ2, A2, y, τ', po.st, e1, fun σ3 cls d H3 Z3 A3 z3 k3 st rx => k σ3 cls d H3 Z3 A3 ((zz.trans po.zz).trans z3) (kp.trans k3) st rx⟩
theorem r_loop {tg : Tg} {it : CI} {x : CSs} {st : Stmt} (h : PS X st (tFor (tI c G cl it) (gT c.K tg) (tSsr c G cl W io x))) : PS X st (tSr c G cl W io (.loop tg it x)) := ps_imp h fun D σ H q => by
  rcases q with q | ⟨F, Z, τ, A, y, τ9, s, e, k⟩
  · obtain ⟨F, Z, τ, A, fl, s, e, g⟩ := q
    unfold evS at e
    split at e
    · cases e
    · rename_i ds τ1 e0
      refine ⟨false, F, Z, τ, A, ds, τ1, s, e0, fun J H1 Z1 A1 po wd => ?_⟩
      refine for_it wd (fun i σ' H' => ∃ Z' τ' A', Same Z1 Z' ∧ Sta c F Z' H' σ' τ' A' ∧ Kp io σ σ' ∧ forL (bindTg io tg) (fun t' => evSs G cl io x t') (ds.drop i) τ' = some fl) ⟨Z1, τ1, A1, Same.refl _, po.st, Kp.refl _ _, e⟩ ?_ ?_ ?_
      · rintro i σ' H' hi ⟨Z', τ', A', zz, st, _⟩
        exact zz.trans st.zh
      · rintro i v σ2 H2 H3 hi ⟨Z2, τ2, A2, zz, s2, kp, e2⟩ ⟨dd, hd, nw⟩
        have dr : ds.drop i = dd :: ds.drop (i + 1) := by
          rw [List.getElem?_eq_some_iff] at hd
          obtain ⟨l, e⟩ := hd
          rw [List.drop_eq_getElem_cons l, e]
        rw [dr] at e2
        unfold forL at e2
        have nw' : NewR c Z2 H2 (.d dd) v H3 := by
          rcases nw with ⟨d', e1, e2, q⟩ | ⟨a, vs, ds', e1, e2, na, e3, q⟩ | ⟨a, vs, ds', e1, _⟩
          · exact .inl ⟨d', e1, e2, Rep.mono zz _ _ q⟩
          · exact .inr (.inl ⟨a, vs, ds', e1, e2, na, e3, RepL.mono zz _ _ q⟩)
          · cases e1
        obtain ⟨Z3, z3, s3, rd, _, _⟩ := NewR.dval s2 nw'
        split at e2
        · cases e2
        · rename_i τ4 e4
          refine bind_ok tg e4 s3 rd fun σ5 A5 s5 l5 o5 _ => ?_
          have k5 : Kp io σ σ5 := kp.trans (kp_bind e4 o5)
          have z5 := (po.zz.trans zz).trans z3
          split at e2
          · rename_i τ6 e6
            exact .inl ⟨F, Z3, τ4, A5, .nx τ6, s5, e6, fun σ7 H7 Z7 A7 z7 s7 k7 => ⟨Z7, τ6, A7, (zz.trans z3).trans z7, s7, k5.trans k7, e2⟩⟩
          · rename_i τ6 e6
            exact .inl ⟨F, Z3, τ4, A5, .ct τ6, s5, e6, fun σ7 H7 Z7 A7 z7 s7 k7 => ⟨Z7, τ6, A7, (zz.trans z3).trans z7, s7, k5.trans k7, e2⟩⟩
          · rename_i τ6 e6
            cases e2
            exact .inl ⟨F, Z3, τ4, A5, .bk τ6, s5, e6, fun σ7 H7 Z7 A7 z7 s7 k7 => g σ7 H7 Z7 A7 (z5.trans z7) s7 (k5.trans k7)⟩
          · rename_i r0 n1 n2 n3
            refine .inl ⟨F, Z3, τ4, A5, fl, s5, e2, ?_⟩
            cases fl with
            | nx τ' => exact absurd e2 (n1 τ')
            | bk τ' => exact absurd e2 (n3 τ')
            | ct τ' => exact absurd e2 (n2 τ')
            | ret m τ' => exact Goes.mono (fl := .ret m τ') g z5 k5
      · rintro σ2 H2 ⟨Z2, τ2, A2, zz, s2, kp, e2⟩
        rw [List.drop_length] at e2
        unfold forL at e2
        cases e2
        exact g σ2 H2 Z2 A2 (po.zz.trans zz) s2 kp
  · unfold rsS at e
    split at e
    · cases e
    · rename_i ds τ1 e0
      refine ⟨false, F, Z, τ, A, ds, τ1, s, e0, fun J H1 Z1 A1 po wd => ?_⟩
      refine for_it wd (fun i σ' H' => ∃ Z' τ' A', Same Z1 Z' ∧ Sta c F Z' H' σ' τ' A' ∧ Kp io σ σ' ∧ forR (bindTg io tg) (fun t' => evSs G cl io x t') (fun t' => rsSs G cl io x t') (ds.drop i) τ' = some (y, τ9)) ⟨Z1, τ1, A1, Same.refl _, po.st, Kp.refl _ _, e⟩ ?_ ?_ ?_
      · rintro i σ' H' hi ⟨Z', τ', A', zz, st, _⟩
        exact zz.trans st.zh
      · rintro i v σ2 H2 H3 hi ⟨Z2, τ2, A2, zz, s2, kp, e2⟩ ⟨dd, hd, nw⟩
        have dr : ds.drop i = dd :: ds.drop (i + 1) := by
          rw [List.getElem?_eq_some_iff] at hd
          obtain ⟨l, e⟩ := hd
          rw [List.drop_eq_getElem_cons l, e]
        rw [dr] at e2
        unfold forR at e2
        have nw' : NewR c Z2 H2 (.d dd) v H3 := by
          rcases nw with ⟨d', e1, e2, q⟩ | ⟨a, vs, ds', e1, e2, na, e3, q⟩ | ⟨a, vs, ds', e1, _⟩
          · exact .inl ⟨d', e1, e2, Rep.mono zz _ _ q⟩
          · exact .inr (.inl ⟨a, vs, ds', e1, e2, na, e3, RepL.mono zz _ _ q⟩)
          · cases e1
        obtain ⟨Z3, z3, s3, rd, _, _⟩ := NewR.dval s2 nw'
        split at e2
        · cases e2
        · rename_i τ4 e4
          refine bind_ok tg e4 s3 rd fun σ5 A5 s5 l5 o5 _ => ?_
          have k5 : Kp io σ σ5 := kp.trans (kp_bind e4 o5)
          have z5 := (po.zz.trans zz).trans z3
          split at e2
          · rename_i τ6 e6
            exact .inl ⟨F, Z3, τ4, A5, .nx τ6, s5, e6, fun σ7 H7 Z7 A7 z7 s7 k7 => ⟨Z7, τ6, A7, (zz.trans z3).trans z7, s7, k5.trans k7, e2⟩⟩
          · rename_i τ6 e6
            exact .inl ⟨F, Z3, τ4, A5, .ct τ6, s5, e6, fun σ7 H7 Z7 A7 z7 s7 k7 => ⟨Z7, τ6, A7, (zz.trans z3).trans z7, s7, k5.trans k7, e2⟩⟩
          · cases e2
          · exact .inr ⟨F, Z3, τ4, A5, y, τ9, s5, e2, fun σ7 cls d H7 Z7 A7 z7 k7 st rx => k σ7 cls d H7 Z7 A7 (z5.trans z7) (k5.trans k7) st rx⟩
      · rintro σ2 H2 ⟨Z2, τ2, A2, zz, s2, kp, e2⟩
        rw [List.drop_length] at e2
        unfold forR at e2
        cases e2
end
end Ev

/-! Ev, part Rb: the error that is handled: as a value; except clauses; isinstance and fields of it. -/
namespace Ev
open PySem PySem.Spec L2 PyProof.Rows
/-! ### entering and leaving a clause -/
noncomputable abbrev XI := Option (Nat × Addr × Option (Addr × List (Str × V) × List (Nat × D)))
noncomputable def Cn.at (c : Cn) (y : XI) : Cn := { c with ex := y }
section
variable {c : Cn} {y : XI} {Z H : Hp} {N : Nat}
mutual
theorem Rep.sw (hx : ∀ n x, n < N → Rep c Z (.exc n) x → Rep (c.at y) Z (.exc n) x) : ∀ (d : D) (x : V), mxD d ≤ N → Rep c Z d x → Rep (c.at y) Z d x
  | .non, _, _, q => q
  | .bl _, _, _, q => q
  | .int _, _, _, q => q
  | .str _, _, _, q => q
  | .ty _, _, _, q => q
  | .cl _, _, _, q => q
  | .scr _, _, _, q => q
  | .exc n, x, h, q => hx n x h q
  | .tup ds, _, h, q => by
    obtain ⟨a, vs, e, s, r⟩ := q
    exact ⟨a, vs, e, s, RepL.sw hx ds vs h r⟩
  | .lst ds, _, h, q => by
    obtain ⟨a, vs, e, s, r⟩ := q
    exact ⟨a, vs, e, s, RepL.sw hx ds vs h r⟩
  | .dK ks ds, _, h, q => by
    obtain ⟨a, kvs, vs, e, s, e1, e2, r⟩ := q
    exact ⟨a, kvs, vs, e, s, e1, e2, RepL.sw hx ds vs h r⟩
  | .dT ks ds, _, h, q => by
    obtain ⟨a, kvs, vs, e, s, e1, e2, r⟩ := q
    exact ⟨a, kvs, vs, e, s, e1, e2, RepL.sw hx ds vs h r⟩
  | .ins k fs, _, h, q => by
    obtain ⟨a, C, dx, gs, e, hc, s, r, ok⟩ := q
    exact ⟨a, C, dx, gs, e, hc, s, RepF.sw hx fs gs h r, ok⟩
theorem RepL.sw (hx : ∀ n x, n < N → Rep c Z (.exc n) x → Rep (c.at y) Z (.exc n) x) : ∀ (ds : List D) (vs : List V), mxL ds ≤ N → RepL c Z ds vs → RepL (c.at y) Z ds vs
  | [], _, _, q => q
  | d :: ds, _, h, q => by
    obtain ⟨v, r, e, q1, q2⟩ := q
    have h' : max (mxD d) (mxL ds) ≤ N := h
    exact ⟨v, r, e, Rep.sw hx d v (by omega) q1, RepL.sw hx ds r (by omega) q2⟩
theorem RepF.sw (hx : ∀ n x, n < N → Rep c Z (.exc n) x → Rep (c.at y) Z (.exc n) x) : ∀ (fs : List (Nat × D)) (vs : List (Str × V)), mxF fs ≤ N → RepF c Z fs vs → RepF (c.at y) Z fs vs
  | [], _, _, q => q
  | (f, d) :: fs, _, h, q => by
    obtain ⟨s, v, r, e, ha, q1, q2⟩ := q
    have h' : max (mxD d) (mxF fs) ≤ N := h
    exact ⟨s, v, r, e, ha, Rep.sw hx d v (by omega) q1, RepF.sw hx fs r (by omega) q2⟩
end
mutual
theorem OR.sw (hx : ∀ n x, n < N → Rep c Z (.exc n) x → Rep (c.at y) Z (.exc n) x) : ∀ (m : M) (x : V) (A : List Addr), mxM m ≤ N → OR c Z H m x A → OR (c.at y) Z H m x A
  | .v d, _, _, h, q => ⟨q.1, Rep.sw hx d _ h q.2⟩
  | .lst ds, _, A, h, q => by
    obtain ⟨a, vs, e, ea, s, r⟩ := q
    exact ⟨a, vs, e, ea, s, RepL.sw hx ds vs h r⟩
  | .dK ks ds, _, A, h, q => by
    obtain ⟨a, kvs, vs, e, ea, s, e1, e2, r⟩ := q
    exact ⟨a, kvs, vs, e, ea, s, e1, e2, RepL.sw hx ds vs h r⟩
  | .dT ks ds, _, A, h, q => by
    obtain ⟨a, kvs, vs, e, ea, s, e1, e2, r⟩ := q
    exact ⟨a, kvs, vs, e, ea, s, e1, e2, RepL.sw hx ds vs h r⟩
  | .ins k fs, _, A, h, q => by
    obtain ⟨a, C, dx, gs, B, e, ea, hc, s, r, ok⟩ := q
    exact ⟨a, C, dx, gs, B, e, ea, hc, s, ORF.sw hx fs gs B h r, ok⟩
theorem ORF.sw (hx : ∀ n x, n < N → Rep c Z (.exc n) x → Rep (c.at y) Z (.exc n) x) : ∀ (fs : List (Nat × M)) (gs : List (Str × V)) (B : List Addr), mxMF fs ≤ N → ORF c Z H fs gs B → ORF (c.at y) Z H fs gs B
  | [], _, _, _, q => q
  | (f, m) :: fs, _, _, h, q => by
    obtain ⟨s, v, r, B1, B2, e, eb, ha, q1, q2⟩ := q
    have h' : max (mxM m) (mxMF fs) ≤ N := h
    exact ⟨s, v, r, B1, B2, e, eb, ha, OR.sw hx m v B1 (by omega) q1, ORF.sw hx fs r B2 (by omega) q2⟩
end
theorem mxT_get : ∀ {τ : T} {i : Nat} {m : M}, τ[i]? = some (some m) → mxM m ≤ mxT τ
  | [], i, m, h => by simp at h
  | none :: r, 0, m, h => by simp at h
  | none :: r, i + 1, m, h => by
    have := mxT_get (τ := r) (i := i) (m := m) (by simpa using h)
    exact this
  | some m' :: r, 0, m, h => by
    have e : m' = m := by simpa using h
    subst e
    exact Nat.le_max_left _ _
  | some m' :: r, i + 1, m, h => by
    have := mxT_get (τ := r) (i := i) (m := m) (by simpa using h)
    exact Nat.le_trans this (Nat.le_max_right _ _)
variable {F : Hp} {σ : L2.St} {τ : T} {A : Nat → List Addr}
theorem Sta.enter (s : Sta c F Z H σ τ A) {a : Addr} {q : Option (Addr × List (Str × V) × List (Nat × D))} (hN : mxT τ ≤ N) (hq : ∀ p, q = some p → Z p.1 = some (.xd p.2.1) ∧ RepF c Z p.2.2 p.2.1 ∧ mxF p.2.2 ≤ N) : Sta (c.at (some (N, a, q))) F Z H σ τ A := by
  have hx : ∀ n x, n < N → Rep c Z (.exc n) x → Rep (c.at (some (N, a, q))) Z (.exc n) x := fun n x hn r => by
    obtain ⟨b, e, _⟩ := r
    refine ⟨b, e, fun a' q' z => ?_⟩
    have z' : (some (N, a, q) : XI) = some (n, a', q') := z
    cases z'
    omega
  refine ⟨s.fh, s.zh, s.fz, s.len, fun i m e => ?_, s.nd, s.dj, s.fr, s.tz, fun n a' p z => ?_⟩
  · obtain ⟨v, e1, o⟩ := s.own i m e
    exact ⟨v, e1, OR.sw hx m v (A i) (Nat.le_trans (mxT_get e) hN) o⟩
  · have z' : (some (N, a, q) : XI) = some (n, a', some p) := z
    cases z'
    obtain ⟨h1, h2, h3⟩ := hq p rfl
    exact ⟨h1, RepF.sw hx _ _ h3 h2⟩
theorem Cn.at_none (h : c.ex = none) : (c.at y).at none = c := by
  obtain ⟨a1, a2, a3, a4, a5, a6, a7, a8⟩ := c
  cases h
  rfl
theorem exc_leave (y : XI) {n : Nat} {x : V} (r : Rep c Z (.exc n) x) : Rep (c.at none) Z (.exc n) x := by
  obtain ⟨b, e, _⟩ := r
  exact ⟨b, e, fun a' q' z => (by cases z)⟩
theorem Sta.leave (hc : c.ex = none) (s : Sta (c.at y) F Z H σ τ A) : Sta c F Z H σ τ A := by
  rw [← Cn.at_none (y := y) hc]
  refine ⟨s.fh, s.zh, s.fz, s.len, fun i m e => ?_, s.nd, s.dj, s.fr, s.tz, fun n a' p z => (by cases z)⟩
  obtain ⟨v, e1, o⟩ := s.own i m e
  exact ⟨v, e1, OR.sw (N := mxM m) (fun n x _ r => exc_leave y r) m v (A i) (Nat.le_refl _) o⟩
theorem Res.leave (hc : c.ex = none) {m : M} {x : V} {B : List Addr} (q : Res (c.at y) F Z H σ τ A (.m m) x B) : Res c F Z H σ τ A (.m m) x B := by
  refine ⟨?_, q.nd, q.dj, q.fr⟩
  have o : OR (c.at y) Z H m x B := q.rr
  show OR c Z H m x B
  rw [← Cn.at_none (y := y) hc]
  exact OR.sw (N := mxM m) (fun n x _ r => exc_leave y r) m x B (Nat.le_refl _) o
theorem bind_slot (s : Sta c F Z H σ τ A) {a : Addr} {q : Option (Addr × List (Str × V) × List (Nat × D))} (hc : c.ex = some (N, a, q)) (i : Nat) : ∃ A', Sta c F Z H (σ.set i (some (.ref a))) (τ.set i (some (.v (.exc N)))) A' :=
  set_val s (show Rep c Z (.exc N) (.ref a) from ⟨a, rfl, fun a' q' z => by rw [hc] at z; cases z; rfl⟩) i
theorem clear_slot (s : Sta c F Z H σ τ A) (i : Nat) : Sta c F Z H (σ.set i none) (τ.set i none) (put1 A i []) := by
  have d := s.drop i
  refine ⟨d.fh, d.zh, d.fz, by simpa using d.len, fun j m e => ?_, d.nd, d.dj, d.fr, d.tz, d.xx⟩
  obtain ⟨v, e1, o⟩ := d.own j m e
  refine ⟨v, ?_, o⟩
  by_cases z : j = i
  · subst z
    by_cases l : j < τ.length
    · rw [List.getElem?_set_self l] at e; cases e
    · rw [List.getElem?_eq_none (by rw [List.length_set]; omega)] at e; cases e
  · rw [List.getElem?_set_ne (Ne.symm z)]; exact e1
end
/-! ### clauses -/
structure Hd where
  c : Value
  i : Option Nat
  ts : Addr → Value → Option Addr → TS
noncomputable def endI (i : Option Nat) (D : Ends) : Ends := match i with
  | none => D
  | some i => { nx := fun σ' H' => D.nx (σ'.set i none) H', rt := D.rt, bk := fun σ' H' => D.bk (σ'.set i none) H', ct := fun σ' H' => D.ct (σ'.set i none) H' }
noncomputable def putI (i : Option Nat) (a : Addr) (σ : L2.St) : L2.St := match i with
  | none => σ
  | some i => σ.set i (some (.ref a))
/-- what the clauses wish of an exception of the body, one after the other -/
noncomputable def wHds (K : PySem.W.Frag) (Wout : WX) (D : Ends) : List Hd → WX
  | [] => Wout
  | h :: r => fun cls d σ H => ∃ b, PySem.W.exmOne K cls h.c = some b ∧ (b = true → ∀ a, H a = none → h.ts a cls d (endI h.i D) (putI h.i a σ) H) ∧ (b = false → wHds K Wout D r cls d σ H)
inductive HdsN (X : Cx) : List ExceptHandler → List Hd → Prop
  | nil : HdsN X [] []
  | cons {x : Str} {c : Value} {ts : Addr → Value → Option Addr → TS} {i : Option Nat} {nm : Option Str} {b₀ : Stmt} {suite : List Stmt} {np pos' : Pos} {hds : List ExceptHandler} {l : List Hd} (hc : Names X x c)
      (hn : match i with | none => nm = none | some j => ∃ n, nm = some n ∧ X.N[j]? = some n ∧ X.env.kindOf n = some .local)
      (hsu : ∀ (a : Addr) (oe : Obj) (cls : Value) (d : Option Addr) (pn : List (Addr × Obj)), Zc cls d oe → (∃ vs, oe.data = .fields vs) → PSs (X.suite a ((a, oe) :: pn)) (b₀ :: suite) (ts a cls d)) (r : HdsN X hds l) :
      HdsN X (.ExceptHandler (some (.Name x np)) nm (b₀ :: suite) pos' :: hds) (⟨c, i, ts⟩ :: l)
section
variable {X : Cx} {body : List Stmt} {h₀ : ExceptHandler} {hds : List ExceptHandler} {l : List Hd} {pos : Pos} {tb : WX → TS} {Wout : WX}
theorem ps_tryN (hs : X.stack = X.env :: X.outer) (hf : X.env.frame = some X.env.locals) (hN : X.N.Nodup) (tk : Takes X Wout)
    (hb : ∀ (W : WX) (pn : List (Addr × Obj)) (xe : Value → Shared → Prop), Takes (X.tr pn xe) W → PassesOwn (model X.prog X.w) X.A X.env xe → PSs (X.tr pn xe) body (tb W))
    (hh : HdsN X (h₀ :: hds) l) : PS X (.Try body (h₀ :: hds) [] [] pos) (fun D σ H => tb (wHds X.K Wout D l) D σ H) := by
  refine ⟨fun pins s σ H D I h => ?_⟩
  have ok := I.ok
  have hfr : X.A.frames = some (X.env :: X.outer) := by rw [ok.frames, hs]
  refine wpAny_Try_except ?_
  refine wpAny_mono ((hb (wHds X.K Wout D l) (X.pn ++ pins) (fun e s₁ => wpAny (model X.prog X.w) X.A (noteFrame e X.env) (fun _ s₂ => wpAny (model X.prog X.w) X.A (setFlight e none) (fun _ s₃ =>
    wpAny (model X.prog X.w) X.A (handleBy e X.env (h₀ :: hds)) (SP X pins D) X.xe s₃) X.xe s₂) X.xe s₁) (fun u s' xx => ?_) PassesOwn.looking).run [] s σ H D (I.toTry _) h) (fun f s1 hsp => ?_) (fun e s1 he => he)
  · -- the catch
    obtain ⟨a, B, sI, pins', σ', H', cls, d, rfl, J', nb, up, sky, na, os, ag, w⟩ := xx
    have J : Inv X pins σ' H' sI := J'.ofTry ok
    have sky' : Sky B (X.env :: X.outer) a (Zc cls d) X.env.locals s'.heap := by rw [← hs]; exact sky
    show wpAny (model X.prog X.w) X.A (noteFrame (.ref a) X.env) _ _ _
    refine Sky.land Zc.steady hfr hf sky' fun h3 fl3 up3 => ?_
    have J3 : Inv X pins σ' H' { s' with heap := h3 } := J.landed nb fl3.1 (up.trans up3) os ag
    obtain ⟨oe3, vs3, he3, hz3, hd3⟩ := fl3.there
    have notFr : ∀ {h : Heap} {o : Obj} {vs : Array Value}, h.FunFrames B (X.env :: X.outer) → h.get? a = some o → o.data = .fields vs → a ∉ frs (X.env :: X.outer) := fun {h o vs} ff e dd hm => by
      obtain ⟨_, o', e', hnf⟩ := ff.mem hm
      rw [e] at e'; cases e'
      exact hnf _ dd
    have nfr := notFr fl3.2.2.1 he3 hd3
    have nL : a ≠ X.env.locals := fun z => nfr (List.mem_filterMap.mpr ⟨X.env, List.mem_cons_self, by rw [hf, z]⟩)
    have nF : a ∉ X.fs := fun hm => by
      obtain ⟨e, he, q⟩ := List.mem_filterMap.mp hm
      exact nfr (List.mem_filterMap.mpr ⟨e, List.mem_cons_of_mem _ he, q⟩)
    have S3 := J3.suite he3 hd3 na nL nF
    have go : ∀ {hds' : List ExceptHandler} {l' : List Hd}, HdsN X hds' l' → wHds X.K Wout D l' cls d σ' H' →
        wpAny (model X.prog X.w) X.A (handleBy (.ref a) X.env hds') (SP X pins D) X.xe { s' with heap := h3 } := by
      intro hds' l' hk
      induction hk with
      | nil =>
        intro w
        refine wpAny_handleBy_nil ?_
        obtain ⟨k1, k2, k3, oe, vs, T, oT, ts', he, hz, hd, h1, hr⟩ := id fl3
        unfold PySem.passOn
        refine wpAny_bind (wpAny_field he hd h1 ?_)
        rw [if_neg (show ¬ ((Value.ref T == Value.none) = true) from by simp)]
        have fin : wpAny (model X.prog X.w) X.A (setFlight (.ref a) X.env.frame) (fun _ s4 => wpAny (model X.prog X.w) X.A (throw (.ref a) : Sem Flow) (SP X pins D) X.xe s4) X.xe { s' with heap := h3 } := by
          rw [hf]
          refine HandSPX.setFlight_upZ fl3 fun h4 hh4 up4 => wpAny_throw (tk _ _ ?_)
          exact ⟨a, B, sI, pins, σ', H', cls, d, rfl, J, nb, (up.trans up3).trans up4, .inr (.inr (by rw [hs]; exact hh4)), na, os, ag, w⟩
        first
          | exact wpAny_bind (wpAny_pure (wpAny_bind fin))
          | exact wpAny_bind fin
      | @cons x c ts i nm b₀ suite np pos' hds2 l2 hc hn hsu r ih =>
        intro w
        obtain ⟨b, hb1, hyes, hno⟩ := w
        refine wpAny_handleBy_cons (codeAny_handlers_test ?_) (by intro q; cases q)
        have LT : PySem.W.Looks (model X.prog X.w) h3 (typeOf (.ref a)) cls := fun A Q E s k q => wpAny_typeOf_ref (k _ _ he3) (by rw [hz3.1]; exact q)
        have LM := PySem.W.exm_one (M := model X.prog X.w) (J3.kIn) LT hb1
        have test : ∀ {Q : Value → Shared → Prop} {E : Value → Shared → Prop}, Q c { s' with heap := h3 } → wpAny (model X.prog X.w) (X.A.mark (some (.ref a))) (eval (.Name x np) X.env) Q E { s' with heap := h3 } := fun {Q E} q => by
          obtain ⟨hg, hdbg, hm | ⟨hm, hv, hnn⟩⟩ := hc
          · exact ld_glob (X := X.suite a ((a, oe3) :: (X.pn ++ pins))) S3 hg hm q hdbg
          · exact ld_blt (X := X.suite a ((a, oe3) :: (X.pn ++ pins))) S3 hg hm hv q hnn hdbg
        refine test (LM.here ?_)
        cases b with
        | true =>
          cases i with
          | none =>
            subst hn
            refine codeAny_handlers_suite ?_
            refine HandSPX.lands_againZ fl3 fun h4 fl4 up4 => ?_
            have J4 : Inv X pins σ' H' { s' with heap := h4 } := J.landed nb fl4.1 ((up.trans up3).trans up4) os ag
            obtain ⟨oe4, vs4, he4, hz4, hd4⟩ := fl4.there
            have S4 := J4.suite he4 hd4 na nL nF
            refine wpAny_mono ((hsu a oe4 cls d (X.pn ++ pins) hz4 ⟨_, hd4⟩).run [] _ _ H' _ S4 (hyes rfl a na)) (fun f s6 hsp => ?_) (fun _ _ z => False.elim z)
            cases f with
            | next =>
              obtain ⟨σ6, H6, S6, q6⟩ := hsp
              exact ⟨_, _, S6.unsuite ok, q6⟩
            | brk =>
              obtain ⟨σ6, H6, S6, q6⟩ := hsp
              exact ⟨_, _, S6.unsuite ok, q6⟩
            | cont =>
              obtain ⟨σ6, H6, S6, q6⟩ := hsp
              exact ⟨_, _, S6.unsuite ok, q6⟩
            | ret u =>
              obtain ⟨v6, σ6, H6, S6, r6, q6⟩ := hsp
              exact ⟨_, _, _, S6.unsuite ok, r6, q6⟩
          | some i =>
            obtain ⟨n, rfl, hi, hln⟩ := hn
            have hloc : L2.Loc X.env.scope n := .inl hln
            refine codeAny_handlers_suite_as ?_
            refine HandSPX.lands_againZ fl3 fun h4 fl4 up4 => ?_
            have J4 : Inv X pins σ' H' { s' with heap := h4 } := J.landed nb fl4.1 ((up.trans up3).trans up4) os ag
            obtain ⟨oe4, vs4, he4, hz4, hd4⟩ := fl4.there
            have S4 := J4.suite he4 hd4 na nL nF
            refine store_ok (X := X.suite a ((a, oe4) :: (X.pn ++ pins))) (v := .ref a) S4 hN hi hloc rfl (fun s5 S5 => ?_) (.inr hln)
            refine wpAny_mono ((hsu a oe4 cls d (X.pn ++ pins) hz4 ⟨_, hd4⟩).run [] s5 _ H' _ S5 (hyes rfl a na)) (fun f s6 hsp => ?_) (fun _ _ z => False.elim z)
            have end_ : ∀ {σ6 : L2.St} {H6 : Hp} {Q : Shared → Prop}, Inv (X.suite a ((a, oe4) :: (X.pn ++ pins))) [] σ6 H6 s6 → (∀ s7, Inv X pins (σ6.set i none) H6 s7 → Q s7) →
                wpAny (model X.prog X.w) X.A (do bindName X.env n .none; unbindBehindTheSuite X.env n pos') (fun _ s7 => Q s7) X.xe s6 := fun {σ6 H6 Q} S6 hq => gone_ok (S6.unsuite ok) hN hi hln hq
            cases f with
            | next =>
              obtain ⟨σ6, H6, S6, q6⟩ := hsp
              exact end_ S6 fun s7 J7 => ⟨_, _, J7, q6⟩
            | brk =>
              obtain ⟨σ6, H6, S6, q6⟩ := hsp
              exact end_ S6 fun s7 J7 => ⟨_, _, J7, q6⟩
            | cont =>
              obtain ⟨σ6, H6, S6, q6⟩ := hsp
              exact end_ S6 fun s7 J7 => ⟨_, _, J7, q6⟩
            | ret u =>
              obtain ⟨v6, σ6, H6, S6, r6, q6⟩ := hsp
              exact end_ S6 fun s7 J7 => ⟨_, _, _, J7, r6, q6⟩
        | false =>
          show wpAny _ X.A (handleBy (.ref a) X.env hds2) _ _ _
          exact ih (hno rfl)
    exact go hh w
  · cases f with
    | next =>
      obtain ⟨σ', H', J', q⟩ := hsp
      exact wpAny_execs_nil ⟨σ', H', J'.ofTry ok, q⟩
    | brk =>
      obtain ⟨σ', H', J', q⟩ := hsp
      exact ⟨σ', H', J'.ofTry ok, q⟩
    | cont =>
      obtain ⟨σ', H', J', q⟩ := hsp
      exact ⟨σ', H', J'.ofTry ok, q⟩
    | ret u =>
      obtain ⟨v, σ', H', J', r, q⟩ := hsp
      exact ⟨v, σ', H', J'.ofTry ok, r, q⟩
end
/-! ### what may be asked of it -/
/-- the dict of the error, if it has one -/
noncomputable def DictAt (H : Hp) (d : Option Addr) : Prop := ∀ dd, d = some dd → ∃ gs, H dd = some (.xd gs)
noncomputable def rIsX (K : PySem.W.Frag) (D a : Addr) (d : Option Addr) : List V → Hp → VK → Prop := fun xs H Q => ∃ (c : V) (cv : Value) (b : Bool), xs = [.ref a, c] ∧ (∀ u, RelV c u → u = cv) ∧ PySem.W.kitOne K (.ref D) cv = some b ∧ DictAt H d ∧ Q (.bl b) H
theorem inst_exc {X : Cx} {pins : List (Addr × Obj)} {σ : L2.St} {H : Hp} {s : Shared} {a D : Addr} {oe : Obj} {d : Option Addr} (I : Inv X pins σ H s) (hm : (a, oe) ∈ X.pn) (hz : Zc (.ref D) d oe) (hf : ∃ vs, oe.data = .fields vs) (hd : DictAt H d) :
    ∃ od, PySem.W.InstAt s.heap a oe D od ∧ ∀ dd gs, d = some dd → H dd = some (.xd gs) → ∃ (o : Obj) (mA : Str → Option Value), od = some o ∧ (∀ name, PySem.W.lookIn name o = some (mA name)) ∧ ∀ f, RelO (gs.lookup f) (mA f) := by
  obtain ⟨hget, _⟩ := I.pin (a, oe) (List.mem_append_left _ hm)
  obtain ⟨vs, hv⟩ := hf
  cases d with
  | none =>
    refine ⟨none, ?_, fun dd gs z => by cases z⟩
    obtain ⟨oc, od, oda, osl⟩ := oe
    obtain ⟨h1, h2⟩ := hz
    dsimp only at h1 h2 hv
    subst h1 h2 hv
    exact ⟨hget, rfl, rfl, trivial⟩
  | some dd =>
    obtain ⟨gs, ea⟩ := hd dd rfl
    have hx : ObjOk X.prog X.w H s.heap dd (.xd gs) := I.hok dd _ ea
    obtain ⟨mA, hns, hr⟩ := hx
    obtain ⟨od, ho, hl⟩ := lookIn_ns hns
    refine ⟨some od, ⟨hget, hz.1, by unfold PySem.W.notCls; rw [hv] <;> rfl, by rw [hz.2]; exact ho⟩, fun dd' gs' z e => ?_⟩
    cases z
    rw [ea] at e
    cases e
    exact ⟨od, mA, rfl, hl, hr⟩
theorem call_isX {X : Cx} {a D : Addr} {oe : Obj} {d : Option Addr} (C : ExcC X.K D) (hm : (a, oe) ∈ X.pn) (hz : Zc (.ref D) d oe) (hf : ∃ vs, oe.data = .fields vs) : CallR X (.builtin "isinstance") (rIsX X.K D a d) := by
  intro pins s σ H xs us Q I r h
  obtain ⟨c, cv, b, rfl, hcv, e, hd, q⟩ := h
  cases r with
  | cons rx rr =>
    cases rr with
    | cons rt rr =>
      cases rr
      cases rx
      have ec := hcv _ rt
      subst ec
      obtain ⟨od, J, _⟩ := inst_exc I hm hz hf hd
      obtain ⟨cd, hc, _⟩ := PySem.W.any_some C.hd
      exact PySem.W.kia_one (PySem.W.kitx_exc (by rw [hc]; rfl) C.hg C.hk C.hs C.ha C.hn C.ht C.hm) I.kIn J e (fun z => nomatch z) fun tk => ⟨.bl b, H, I.kept (t' := tk) fun _ _ z => z, rfl, q⟩
/-- e.f -/
noncomputable def tXfN (a dd : Addr) (f : Str) (te : TE) : TE := fun σ H Q => te σ H fun x H1 => x = .ref a ∧ ∃ (fs : List (Str × V)) (v : V), H1 dd = some (.xd fs) ∧ fs.lookup f = some v ∧ Q v H1
theorem pe_xfN {X : Cx} {a C dd : Addr} {oe : Obj} {e : Expr} {te : TE} {pos : Pos} {n : Str} (T : ExcC X.K C) (hno : PySem.W.findIn X.K (.ref C) n = some none)
    (hm : (a, oe) ∈ X.pn) (hz : Zc (.ref C) (some dd) oe) (hf : ∃ vs, oe.data = .fields vs) (he : PE X e te) (hb : attributeBase e n X.env (eval e X.env) = eval e X.env) :
    PE X (.Attribute e n pos) (tXfN a dd n te) := by
  refine ⟨fun pins s σ H Q I h => ?_⟩
  refine attr_of hb (thn (he.run pins s σ H _ I h) fun u s1 hh => ?_)
  obtain ⟨x, H1, I1, rx, ex, fs, v, ea, l, q⟩ := hh
  subst ex
  obtain rfl : u = Value.ref a := rx
  obtain ⟨od, J, k⟩ := inst_exc I1 hm hz hf (fun dd' z => by cases z; exact ⟨fs, ea⟩)
  obtain ⟨o, mA, rfl, hl, hr⟩ := k dd fs rfl ea
  obtain ⟨u, hu, ru⟩ := RelO.some_of (v := v) (o := mA n) (by rw [← l]; exact hr n)
  exact HandSPX.exc_get I1.kIn J T.hg T.hk T.hs (PySem.W.findObj_own T.hd hno rfl (by rw [hl, hu])) (handed_of ru) ⟨v, H1, I1.tok _, ru, q⟩
/-! ### their evaluation -/
/-- its dict, as it is known -/
noncomputable def DQ (fs : List (Nat × D)) (q : Option (Addr × List (Str × V) × List (Nat × D))) : Option Addr → Prop
  | none => q = none ∧ fs = []
  | some dd => ∃ gs, q = some (dd, gs, fs)
/-- what is known of the error that is handled -/
structure CurX (X : Cx) (c : Cn) (N : Nat) (x : XD) (a C : Addr) (oe : Obj) (d : Option Addr) : Prop where
  mem : (a, oe) ∈ X.pn
  z : Zc (.ref C) d oe
  rc : ∃ vs, oe.data = .fields vs
  cls : c.exc.lookup x.1 = some C
  ex : ∃ q, c.ex = some (N, a, q) ∧ DQ x.2 q d
section
variable {c : Cn} {G : GS} {cl : Caller} {F Z H : Hp} {σ : L2.St} {τ τ1 τ2 τ' : T} {A : Nat → List Addr} {p : Bool} {X : Cx} {ea eb : Expr} {a : CE} {pos : Pos} {N : Nat} {x : XD} {ad C : Addr} {oe : Obj} {d : Option Addr}
theorem CurX.dict (q : CurX X c N x ad C oe d) (s : Sta c F Z H σ τ A) : DictAt H d := fun dd z => by
  subst z
  obtain ⟨q', e, gs, rfl⟩ := q.ex
  exact ⟨gs, s.zh _ _ (s.xx _ _ _ e).1⟩
theorem cur_get {n : Nat} {y : XD} (h : curX (G.at (some (N, x))) n = some y) : n = N ∧ y = x := by
  unfold curX GS.at at h
  simp only at h
  split at h
  · rename_i e
    cases h
    exact ⟨e.symm, rfl⟩
  · cases h
theorem rep_exc (q : CurX X c N x ad C oe d) {v : V} (r : Rep c Z (.exc N) v) : v = .ref ad := by
  obtain ⟨b, rfl, k⟩ := r
  obtain ⟨q', e, _⟩ := q.ex
  rw [k _ _ e]
theorem s_isE {ci : Option Nat} {cv : Value} {v : V} {p1 : Pos} (T : ExcC X.K C) (q : CurX X c N x ad C oe d) (hg : Gl X "isinstance") (hm : X.mg "isinstance" = none) (ha : PE X ea (tE c (G.at (some (N, x))) cl a)) (hb : PE X eb (tC v)) (hv : ∀ u, RelV v u → u = cv)
    (hk : ∀ b, isX G x.1 ci = some b → PySem.W.kitOne X.K (.ref C) cv = some b) (s1 : starEach [ea, eb] X.env = (false, eval ea X.env) :: starEach [eb] X.env) (s2 : starEach [eb] X.env = (false, eval eb X.env) :: starEach [] X.env) (s3 : (backTo pos (starEach [eb] X.env)).any (·.1) = false) : PE X (.Call (.Name "isinstance" p1) [ea, eb] [] pos) (tE c (G.at (some (N, x))) cl (.isE ci a)) := by
  have pa : PA X [ea, eb] (tCons (tE c (G.at (some (N, x))) cl a) (tCons (tC v) tNil)) := pa_cons ha (pa_cons hb pa_nil s2) s1
  refine pe_imp (pe_callB (id := "isinstance") (call_isX T q.mem q.z q.rc) hg hm (by decide +kernel) pa (by decide +kernel) (by decide +kernel) s1 s3) fun σ H Q h => ?_
  obtain ⟨p, F, Z, τ, A, r, τ', s, e, k⟩ := h
  unfold evE at e
  split at e
  · rename_i n τ1 e1
    split at e
    · rename_i y ec
      obtain ⟨rfl, rfl⟩ := cur_get ec
      cases e3 : isX (G.at (some (n, y))) y.1 ci with
      | none => rw [e3] at e; cases e
      | some b =>
        rw [e3] at e
        cases e
        refine ⟨p, F, Z, τ, A, _, _, s, e1, fun v1 H1 Z1 A1 B po re => ?_⟩
        have hv1 := rep_exc q re.rr.2
        subst hv1
        refine ⟨v, cv, b, rfl, hv, hk b e3, q.dict po.st, ?_⟩
        exact k (.bl b) H1 Z1 A1 [] po ⟨⟨rfl, rfl⟩, List.nodup_nil, fun _ _ _ h => (by cases h), fun _ h => by cases h⟩
    · cases e
  · cases e
theorem repF_get {f : Nat} {s : Str} {dd : D} (hs : c.attrs[f]? = some s) : ∀ {fs : List (Nat × D)} {gs : List (Str × V)}, RepF c Z fs gs → getD' f fs = some dd → ∃ v, gs.lookup s = some v ∧ Rep c Z dd v
  | [], gs, _, h => by simp [getD'] at h
  | (g, d') :: fs, gs, q, h => by
    obtain ⟨s', v, r, rfl, hs', q1, q2⟩ := q
    by_cases e : g = f
    · subst e
      rw [hs] at hs'
      cases hs'
      have : d' = dd := by simpa [getD'] using h
      subst this
      exact ⟨v, by simp [List.lookup], q1⟩
    · obtain ⟨v', l, r'⟩ := repF_get hs q2 (by simpa [getD', e] using h)
      refine ⟨v', ?_, r'⟩
      have ns : (s == s') = false := by
        have : s ≠ s' := fun z => e (attr_inj (z ▸ hs') hs)
        simpa using this
      simp [List.lookup, ns, l]
theorem s_eF {f : Nat} {n : Str} (T : ExcC X.K C) (hno : PySem.W.findIn X.K (.ref C) n = some none) (q : CurX X c N x ad C oe d) (hf : c.attrs[f]? = some n) (ha : PE X ea (tE c (G.at (some (N, x))) cl a)) (hb : attributeBase ea n X.env (eval ea X.env) = eval ea X.env) :
    PE X (.Attribute ea n pos) (tE c (G.at (some (N, x))) cl (.eF a f)) := by
  refine ⟨fun pins s0 σ H Q I h => ?_⟩
  obtain ⟨p, F, Z, τ, A, r, τ', s, e, k⟩ := h
  unfold evE at e
  split at e
  · rename_i n' τ1 e1
    split at e
    · rename_i y ec
      obtain ⟨rfl, rfl⟩ := cur_get ec
      cases e3 : getD' f y.2 with
      | none => rw [e3] at e; cases e
      | some dv =>
        rw [e3] at e
        cases e
        obtain ⟨q', ex, m⟩ := q.ex
        cases d with
        | none =>
          obtain ⟨_, z⟩ := m
          rw [z] at e3
          simp [getD'] at e3
        | some dd =>
          obtain ⟨gs, rfl⟩ := m
          refine (pe_xfN T hno q.mem q.z q.rc ha hb).run pins s0 σ H Q I ?_
          refine ⟨p, F, Z, τ, A, _, _, s, e1, fun v1 H1 Z1 A1 B po re => ?_⟩
          have hv1 := rep_exc q re.rr.2
          obtain ⟨z1, z2⟩ := po.st.xx _ _ _ ex
          obtain ⟨v, l, rv⟩ := repF_get hf z2 e3
          exact ⟨hv1, gs, v, po.st.zh _ _ z1, l, k v H1 Z1 A1 [] po ⟨⟨rfl, rv⟩, List.nodup_nil, fun _ _ _ h => (by cases h), fun _ h => by cases h⟩⟩
    · cases e
  · cases e
end
end Ev

/-! Ev, part Rd: an error of the package is made: its __init__ says super().__init__(text), and may keep a field. -/
namespace Ev
open PySem PySem.Spec L2 PyProof.Rows PySem.W PySem.Calls
noncomputable abbrev veI : String := "ValueError.__init__"
section
variable {prog : Program} {w : World} {A : Around} {E : Value → Shared → Prop} {h : Heap} {g : Array GenState} {d : Drawn} {t : Nat} {os : OsState} {K : PySem.W.Frag} {C e u t0 : Addr}
/-- ValueError.__init__ bound to the error, called -/
theorem call_mwV {rest : List Value} {Q : Value → Shared → Prop} (T : OexC K C) (X : K.In h) (he : h.get? e = some (HandSPX.excO C t0)) (hu : h.get? u = some (kxs_mw veI e)) (hz : rest.length ≤ sizeLine)
    (hq : ∀ h' t1, (∀ b o, b ≠ e → h.get? b = some o → h'.get? b = some o) → h'.get? e = some (HandSPX.excO C t1) → Q .none ⟨h', g, d, t, os⟩) : wpAny (model prog w) A (call (.ref u) rest) Q E ⟨h, g, d, t, os⟩ := by
  obtain ⟨nm, q, N, bs, bm, sn, sub, ab, col, dd, k0, k1, k2, k3, k5, hC, hbm⟩ := T.cls
  have hC := X _ _ hC
  refine wpAny_call (codeAny_of_tree ?_)
  show wpAny _ A.in1 (callAny (.ref u) ⟨rest, []⟩) _ _ _
  simp only [callAny]
  refine wpAny_bind (wpAny_load hu ?_)
  simp only [kxs_mw, show (Value.type "method-wrapper" == Value.type "method" || Value.type "method-wrapper" == Value.type "builtin_function_or_method" || Value.type "method-wrapper" == Value.type "method-wrapper") = true by decide, if_true]
  refine KFB.if_so (by decide) ?_
  refine wpAny_bind (check_bound_init PySem.F.excBase_ValueError.toExcCallFacts hC he rfl ?_)
  refine wpAny_bind (wpAny_pure (wpAny_pure ?_))
  refine ⟨plainId_quiet PySem.F.excBase_ValueError.init.plain _, codeAny_builtin PySem.F.excBase_ValueError.initEntry ?_⟩
  exact exc_init_tree (cls := .ref C) (t0 := t0) (dv := none) (c2 := .none) (c3 := .none) (b4 := .bool false) he hz fun h' k1 k2 _ => hq h' _ k1 k2
/-- what the written part says of the class of errors at C and its __init__ at fI -/
structure SupI (K : PySem.W.Frag) (P : Program) (mg : Str → Option Value) (C fI : Addr) (body : List Stmt) (sc : Scope) (ps : List Str) : Prop where
  oex : OexC K C
  init : findIn K (.ref C) "__init__" = some (some (.ref fI))
  tI : typeIn K (.ref fI) = some (.type "function")
  ex : ∃ (qual : Str) (params : Arguments) (dV kV doc pm ct oc : Value) (an od : Option Addr) (cda cc : Addr) (sl : Array (Option Value)) (ccl cl : Value) (cdd cld : Option Addr) (vs : Array Value) (ccs csl : Array (Option Value)) (file : Str) (tf : Tok) (ar : Arg),
    K.lookup fI = some ⟨oc, od, .func (ksFn "__init__" qual params body sc dV kV doc pm an (.ref cda) ct cc), sl⟩ ∧ codeIn K (.ref cda) qual = true ∧ (params.posonlyargs ++ params.args).head? = some ar ∧ ar.arg = "self" ∧
    (∀ us : List Value, us.length = ps.length → bindArgs (ksFn "__init__" qual params body sc dV kV doc pm an (.ref cda) ct cc) ⟨us, []⟩ = pure (ps.zip us)) ∧
    K.lookup cda = some ⟨ccl, cdd, .fields vs, ccs⟩ ∧ vs[2]? = some (.str file tf) ∧ ((P.main.file : Str) == file) = true ∧ K.lookup cc = some ⟨cl, cld, .cell (some (.ref C)), csl⟩
  sup : ks_superIn K C C "__init__" = some (some (.builtin veI))
  subV : subIn K (.ref C) (.type "ValueError") = some true
  mroC : mroIn K C (.ref C) = some true
  opq : nsIn K cStatics "thirdparty.any" = some none
  msup : mg "super" = none
  htop : (P.main.scope.names.lookup ("super" : Str)).isSome = false
  kind : sc.kind = .function
  kS : sc.names.lookup ("super" : Str) = some .globalImplicit
  kC : sc.names.lookup ("__class__" : Str) = some .free
  kL : ∀ x ∈ ps, sc.names.lookup x = some .local
  co : sc.isCoroutine = false
  gen : sc.isGenerator = false
  nocell : ∀ x ∈ sc.names, x.2 ≠ .cell
  self : ∃ r : List Str, ps = ("self" : Str) :: r ∧ ("self" : Str) ∉ r
/-- the module's globals and the built-ins stand -/
structure GlobH (mg : Str → Option Value) (h : Heap) : Prop where
  gl : h.Ns mainGlobals mg
  bl : ∃ mb, h.Ns builtinsNs mb ∧ ∀ x : Str, x ≠ "__name__" → mb x = bootBuiltins x
theorem sup_form {o : Expr} {m m1 : Str} {apos pos p2 : Pos} {j : Nat} {env : Env} (hline : (apos.endLine == pos.line) = true) :
    eval (.Call (.Attribute o m apos) [.Constant (.str m1) j p2] [] pos) env = (do
      let ov ← attributeBase o m env (eval o env)
      standAt apos.atName
      let (f, first) ← holding [ov] (getMethod ov m (do return (← importBound o env).getD true))
      callWith pos f first (backTo pos (starEach [.Constant (.str m1) j p2] env)) []) := by
  have hform : methodCallForm (([.Constant (.str m1) j p2] : List Expr).length + ([] : List Keyword).length) (backTo pos (starEach [.Constant (.str m1) j p2] env)) (backToKw pos (keywordEach [] env)) = true := rfl
  have hpos : methodCallPos true o env apos pos = pure pos := by unfold methodCallPos; simp [hline]
  rw [arm_eval_Call]
  unfold methodCall
  rw [hform, hpos]
  rfl
/-- super().__init__(text), in the __init__ -/
theorem run_super {P : Program} {mg m : Str → Option Value} {fI : Addr} {body bd : List Stmt} {sc : Scope} {ps : List Str} {qual m1 : Str} {params : Arguments} {dV kV doc pm ct oc ccl cl : Value} {an od cdd cld : Option Addr} {cda cc L : Addr} {sl ccs csl : Array (Option Value)} {vs : Array Value} {file : Str} {tf : Tok} {ar : Arg}
    {p0 p1 p2 ap pos pos' : Pos} {j : Nat} {Q : Flow → Shared → Prop} (hline : (ap.endLine == pos.line) = true) (S : SupI K P mg C fI body sc ps)
    (lk : K.lookup fI = some ⟨oc, od, .func (ksFn "__init__" qual params body sc dV kV doc pm an (.ref cda) ct cc), sl⟩) (hp : (params.posonlyargs ++ params.args).head? = some ar) (har : ar.arg = "self")
    (hcode : K.lookup cda = some ⟨ccl, cdd, .fields vs, ccs⟩) (hvs : vs[2]? = some (.str file tf)) (hfile : ((P.main.file : Str) == file) = true) (hcell : K.lookup cc = some ⟨cl, cld, .cell (some (.ref C)), csl⟩)
    (X : K.In h) (G : GlobH mg h) (hns : h.Ns L m) (hm : m "self" = some (.ref e)) (he : h.get? e = some (HandSPX.excO C t0)) (nL : L ≠ e)
    (hq : ∀ h' t1 t', (∀ b o, b ≠ e → h.get? b = some o → h'.get? b = some o) → h'.get? e = some (HandSPX.excO C t1) → Q .next ⟨h', g, d, t', os⟩) :
    _root_.PySem.wpAt (model P w) A (.func bd (ksEnv qual sc L fI (.ref cda) cc)) (exec (.Expr (.Call (.Attribute (.Call (.Name "super" p0) [] [] p1) "__init__" ap) [.Constant (.str m1) j p2] [] pos) pos') (ksEnv qual sc L fI (.ref cda) cc)) Q E ⟨h, g, d, t, os⟩ := by
  obtain ⟨mb, b1, b2⟩ := G.bl
  have hIn : PySem.W.InstAt h e (HandSPX.excO C t0) C none := ⟨he, rfl, rfl, trivial⟩
  refine ks_wpAt_Expr_any ?_ (by unfold interactive; rw [show (ksEnv qual sc L fI (.ref cda) cc).scope.kind = .function from S.kind]; rfl) rfl
  refine ks_wpAt_MethodCall ?_ (sup_form hline)
  obtain ⟨nmC, qC, NC, bs, bm, sn, sub, ab, col, dd, k0, k1, k2, k3, k5, hC, hbm⟩ := S.oex.cls
  refine ks_wpAt_super_base (env := ksEnv qual sc L fI (.ref cda) cc) S.kS S.kC (by decide) rfl (X _ _ lk) rfl hp rfl (X _ _ hcode) rfl hvs hfile S.htop ?_
  refine ks_loadName_global S.kind S.kS (Calls.loadGlobal_builtin (env := ksEnv qual sc L fI (.ref cda) cc) G.gl S.msup b1 ((b2 _ (by decide)).trans (show bootBuiltins "super" = some (.type "super") from by decide +kernel)) ⟨rfl, ?_⟩)
  refine wpAny_loadName_free S.kind S.kC rfl ⟨_, X _ _ hcell, rfl⟩ ?_
  rw [har]
  refine wpAny_loadName_local S.kind (S.kL _ (by obtain ⟨r, e1, _⟩ := S.self; rw [e1]; simp)) hns hm ?_
  refine ks_wpAny_isType_cls (X _ _ hC) rfl ⟨rfl, ?_⟩
  refine ks_wpAny_call_super (X _ _ hC) rfl he rfl (fun c z => by cases z) (looks_mroIn X S.mroC) (fun h1 hso k1 => ?_)
  have X1 : K.In h1 := X.keeps k1
  have he1 := k1 _ _ he
  have hIn1 : PySem.W.InstAt h1 e (HandSPX.excO C t0) C none := ⟨he1, rfl, rfl, trivial⟩
  have hnC : e ≠ C := fun z => by
    have := X _ _ hC
    rw [← z, he] at this
    cases this
  have hsup := S.sup
  unfold ks_superIn at hsup
  cases hcl : clsIn K C with
  | none => rw [hcl] at hsup; cases hsup
  | some cd =>
    rw [hcl] at hsup
    refine kxs_getMethod kxs_ValueError hso (looks_opaque X1 S.opq) (l₀ := cd.mro) (fun A Q E s k q => wpAny_bind ((looks_clsIn X1 hcl) A _ E s k (wpAny_pure q))) rfl X1 hsup (hIn1.type.andThen (looks_subIn X1 S.subV)) hnC rfl ?_
    have k2 : ∀ b o, h1.get? b = some o → (h1.push (kxs_mw veI e)).get? b = some o := fun b o z => Heap.get?_push_of_some _ z
    have hu : (h1.push (kxs_mw veI e)).get? h1.objs.size = some (kxs_mw veI e) := Heap.get?_push_at rfl rfl
    refine kxs_callWith (i := veI) (x := e) (u := h1.objs.size) rfl (evalArgs_plain ?_)
    refine Calls.spliced_cons (wpAny_Constant_str (k := j) (pos := p2) (Calls.spliced_nil ⟨hu, ?_⟩))
    refine call_mwV S.oex (X1.keeps k2) (k2 _ _ he1) hu (by show 1 ≤ sizeLine; rw [sizeLine_eq]; omega) fun h' t1 k3 e3 => ?_
    exact hq h' t1 _ (fun b o nb z => k3 b o nb (k2 b o (k1 b o z))) e3
/-- the whole __init__ without a field -/
theorem init_run0 {P : Program} {mg : Str → Option Value} {fI : Addr} {sc : Scope} {ps : List Str} {m1 : Str} {p0 p1 p2 ap pos pos' : Pos} {j : Nat} {R : Result → Shared → Prop} (hline : (ap.endLine == pos.line) = true)
    (S : SupI K P mg C fI [.Expr (.Call (.Attribute (.Call (.Name "super" p0) [] [] p1) "__init__" ap) [.Constant (.str m1) j p2] [] pos) pos'] sc ps) (hps : ps = [("self" : Str)])
    {base : Heap} (M : Mod K mg base) (kb : ∀ b o, base.get? b = some o → h.get? b = some o) (hen : base.get? e = none) (hroom : A.depth < recursionLimit) (he : h.get? e = some (HandSPX.excO C t0))
    (hq : ∀ h' t1 t', (∀ b o, b ≠ e → h.get? b = some o → h'.get? b = some o) → h'.get? e = some (HandSPX.excO C t1) → R (.ok (.ret .none)) ⟨h', g, d, t', os⟩) :
    codeAny (model P w) A (.call (.ref fI) ⟨[.ref e], []⟩) R ⟨h, g, d, t, os⟩ := by
  obtain ⟨qual, params, dV, kV, doc, pm, ct, oc, an, od, cda, cc, sl, ccl, cl, cdd, cld, vs, ccs, csl, file, tf, ar, lk, hcd, hp, har, hb, hcode, hvs, hfile, hcell⟩ := S.ex
  subst hps
  have X : K.In h := M.kin.keeps kb
  have hlim : h.NoLimit := M.nolimit.keeps kb
  refine ks_codeAny_call_defAt (fd := ksFn "__init__" qual params _ sc dV kV doc pm an (.ref cda) ct cc) (body := _) (binds := [(("self" : Str), .ref e)]) hroom (X _ _ lk) rfl hlim (codeRec_of X hcd) rfl (.of_eq (hb [.ref e] rfl)) S.nocell (fun x hx => ?_) (fun h0 hns k0 => ?_) S.co S.gen S.kind
  · cases List.mem_singleton.mp hx
    exact S.kL _ (by simp)
  have ne : h.objs.size ≠ e := Nat.ne_of_gt (Heap.lt_size he)
  have ks : ∀ b o, h.get? b = some o → h0.get? b = some o := k0
  obtain ⟨mb, b1, b2⟩ := M.blt
  have kb0 : ∀ b o, base.get? b = some o → h0.get? b = some o := fun b o z => ks b o (kb b o z)
  refine ks_wpAt_execs_cons (run_super (m := fun x => [(("self" : Str), Value.ref e)].reverse.lookup x) hline S lk hp har hcode hvs hfile hcell (X.keeps ks) ⟨M.glob.keeps kb0, mb, b1.keeps kb0, b2⟩ hns rfl (ks _ _ he) ne fun h' t1 t' k e1 => ?_)
  exact wpAt_of_wpAny (wpAny_execs_nil (hq h' t1 t' (fun b o nb z => k b o nb (ks b o z)) e1))
/-- .. with a field -/
theorem init_run1 {P : Program} {mg : Str → Option Value} {fI : Addr} {sc : Scope} {ps : List Str} {m1 f : Str} {p0 p1 p2 ap pos pos' q0 q1 q2 q3 : Pos} {j : Nat} {u : Value} {R : Result → Shared → Prop} (hline : (ap.endLine == pos.line) = true)
    (S : SupI K P mg C fI [.Expr (.Call (.Attribute (.Call (.Name "super" p0) [] [] p1) "__init__" ap) [.Constant (.str m1) j p2] [] pos) pos', .Assign [.Attribute (.Name "self" q0) f q1] (.Name f q2) q3] sc ps) (hps : ps = [("self" : Str), f])
    (hno : findIn K (.ref C) f = some none) (hf : (f == ("__debug__" : Str)) = false) (hu : handedIn u = true)
    {base : Heap} (M : Mod K mg base) (kb : ∀ b o, base.get? b = some o → h.get? b = some o) (hen : base.get? e = none) (hroom : A.depth < recursionLimit) (he : h.get? e = some (HandSPX.excO C t0))
    (hq : ∀ h' t1 t' dx, (∀ b o, b ≠ e → h.get? b = some o → h'.get? b = some o) → h.objs.size ≤ dx → h'.get? e = some { cls := .ref C, dict := some dx, data := .fields #[.ref t1, .none, .none, .none, .bool false, .none] } →
      h'.Ns1 dx (fun y => if y = f then some u else none) → R (.ok (.ret .none)) ⟨h', g, d, t', os⟩) :
    codeAny (model P w) A (.call (.ref fI) ⟨[.ref e, u], []⟩) R ⟨h, g, d, t, os⟩ := by
  obtain ⟨qual, params, dV, kV, doc, pm, ct, oc, an, od, cda, cc, sl, ccl, cl, cdd, cld, vs, ccs, csl, file, tf, ar, lk, hcd, hp, har, hb, hcode, hvs, hfile, hcell⟩ := S.ex
  subst hps
  have nf : (f == ("self" : Str)) = false := by
    obtain ⟨r, e1, e2⟩ := S.self
    cases e1
    simpa using fun z => e2 (by simp [z])
  have X : K.In h := M.kin.keeps kb
  have hlim : h.NoLimit := M.nolimit.keeps kb
  refine ks_codeAny_call_defAt (fd := ksFn "__init__" qual params _ sc dV kV doc pm an (.ref cda) ct cc) (body := _) (binds := [(("self" : Str), .ref e), (f, u)]) hroom (X _ _ lk) rfl hlim (codeRec_of X hcd) rfl (.of_eq (hb [.ref e, u] rfl)) S.nocell (fun x hx => ?_) (fun h0 hns k0 => ?_) S.co S.gen S.kind
  · rcases List.mem_cons.mp hx with z | z
    · rw [z]; exact S.kL _ (by simp)
    · cases List.mem_singleton.mp z
      exact S.kL _ (by simp)
  have ne : h.objs.size ≠ e := Nat.ne_of_gt (Heap.lt_size he)
  have ks : ∀ b o, h.get? b = some o → h0.get? b = some o := k0
  obtain ⟨mb, b1, b2⟩ := M.blt
  have kb0 : ∀ b o, base.get? b = some o → h0.get? b = some o := fun b o z => ks b o (kb b o z)
  have ls : [(("self" : Str), Value.ref e), (f, u)].reverse.lookup ("self" : Str) = some (Value.ref e) := by
    have : (("self" : Str) == f) = false := by
      have := beq_eq_false_iff_ne.mp nf
      exact beq_eq_false_iff_ne.mpr (Ne.symm this)
    simp [List.lookup, this]
  have lf : [(("self" : Str), Value.ref e), (f, u)].reverse.lookup f = some u := by simp [List.lookup]
  refine ks_wpAt_execs_cons (run_super (m := fun x => [(("self" : Str), Value.ref e), (f, u)].reverse.lookup x) hline S lk hp har hcode hvs hfile hcell (X.keeps ks) ⟨M.glob.keeps kb0, mb, b1.keeps kb0, b2⟩ hns ls (ks _ _ he) ne fun h1 t1 t' k e1 => ?_)
  have hns1 := hns.at fun o z => k _ o ne z
  have kb1 : ∀ b o, base.get? b = some o → h1.get? b = some o := fun b o z => k b o (fun w => by rw [w, hen] at z; cases z) (kb0 b o z)
  have X1 : K.In h1 := M.kin.keeps kb1
  refine ks_wpAt_execs_cons (ks_wpAt_Assign_Attr ?_ rfl)
  refine wpAt_of_wpAny (wpAny_Name (wpAny_loadName_local S.kind (S.kL _ (by simp)) hns1 lf ?_) hf)
  refine wpAny_Name (wpAny_loadName_local S.kind (S.kL _ (by simp)) hns1 ls ?_) (by decide)
  obtain ⟨nmC, qC, NC, bs, bm, sn, sub, ab, col, dd, k0', k1', k2', k3', k5', hC, hbm⟩ := S.oex.cls
  have hcl : clsIn K C = some { name := nmC, bases := bs, mro := .ref C :: bm, ns := NC, qualname := qC, hasDict := true, slotNames := sn, subclasses := sub, abstract := ab, collection := col, hasDel := false } := by unfold clsIn; rw [hC] <;> rfl
  refine set_plain X1 (ox := HandSPX.excO C t1) (od := none) ⟨e1, rfl, rfl, trivial⟩ S.oex.sa ?_
  refine HandSPX.exc_osa X1 e1 hcl (show HandSPX.refsVE (.ref C :: bm) = true from hbm) rfl hno (fun h2 tk2 dx k2 dn dne hx hn => ?_)
  have hsz : h.objs.size ≤ dx := by
    have l0 := hns.lt
    have l1 : h0.objs.size ≤ h0.objs.size := Nat.le_refl _
    have l2 : h.objs.size < h1.objs.size := hns1.lt
    have l3 : h1.objs.size ≤ dx := dn
    omega
  exact wpAt_of_wpAny (wpAny_execs_nil (hq h2 t1 _ dx (fun b o nb z => k2 b o nb (k b o nb (ks b o z))) hsz hx hn))
end
section
variable {X : Cx} {C fI : Addr} {sc : Scope} {x : Str} {p pos : Pos}
theorem pmk_sup0 {m1 : Str} {p0 p1 p2 ap ps pos' : Pos} {j : Nat} (hline : (ap.endLine == ps.line) = true) (S : SupI X.K X.prog X.mg C fI [.Expr (.Call (.Attribute (.Call (.Name "super" p0) [] [] p1) "__init__" ap) [.Constant (.str m1) j p2] [] ps) pos'] sc [("self" : Str)])
    (hr : Room 2 X.A) (hg : Gl X x) (hm : X.mg x = some (.ref C)) (hdb : (x == ("__debug__" : Str)) = false) : PMk X (.Call (.Name x p) [] [] pos) (fun _ H Q => Q (.ref C) none H) := by
  intro pins s σ H Q I h
  obtain ⟨nm, q, N, bs, bm, sn, sub, ab, col, dd, k0, k1, k2, k3, k5, hC, hbm⟩ := S.oex.cls
  refine wpAny_Call_Name_kw (ld_glob I hg hm ?_ hdb)
  refine callWith_K0 I.kIn S.oex.kC ?_
  show wpAny _ _ (call (.ref C) []) _ _ _
  obtain ⟨hp, g, dr, tk, os⟩ := s
  have hsz : hp.objs.size ≤ hp.objs.size + 1 := Nat.le_succ _
  have hn : H (hp.objs.size + 1) = none := I.hok.fresh hsz
  have kk : ∀ b o, hp.get? b = some o → ((hp.push (kdv_tup [])).push (HandSPX.excO C hp.objs.size)).get? b = some o := fun b o e => Heap.get?_push_of_some _ (Heap.get?_push_of_some _ e)
  have hget : ((hp.push (kdv_tup [])).push (HandSPX.excO C hp.objs.size)).get? (hp.objs.size + 1) = some (HandSPX.excO C hp.objs.size) := by heap_get
  have hnone : hp.get? (hp.objs.size + 1) = none := Heap.get?_none_of_le hsz
  refine wpAny_call (HandSPX.call_own PySem.F.excBase_ValueError (fun Y => HandSPX.refsVE_contains Y bm hbm) (I.kIn _ _ hC) (looks_findIn I.kIn S.init) (fun self => bind_fn I.kIn self S.tI) (by show 0 ≤ sizeLine; omega)
    (init_run0 hline S rfl I.mod (fun b o e => kk b o (I.bk b o e)) (by
      cases z : X.base.get? (hp.objs.size + 1) with
      | none => rfl
      | some o => rw [I.bk _ _ z] at hnone; cases hnone) (hr.make C [] []).depth hget fun h' t1 t' k e1 => ⟨rfl, ?_⟩))
  refine ⟨hp.objs.size + 1, _, _, ⟨hp, g, dr, tk, os⟩, H, .ref C, none, rfl, I, fun b o e => k b o (fun z => ?_) (kk b o e), hnone, e1, ⟨rfl, rfl⟩, rfl, rfl, hn, rfl, I.bare, raises_own S.oex.exC S.oex.tyC, h⟩
  rw [z, hnone] at e
  cases e
theorem pmk_sup1 {m1 f : Str} {p0 p1 p2 ap ps pos' q0 q1 q2 q3 : Pos} {j : Nat} {e : Expr} {ta : TA} (hline : (ap.endLine == ps.line) = true)
    (S : SupI X.K X.prog X.mg C fI [.Expr (.Call (.Attribute (.Call (.Name "super" p0) [] [] p1) "__init__" ap) [.Constant (.str m1) j p2] [] ps) pos', .Assign [.Attribute (.Name "self" q0) f q1] (.Name f q2) q3] sc [("self" : Str), f])
    (hno : findIn X.K (.ref C) f = some none) (hf : (f == ("__debug__" : Str)) = false) (hr : Room 2 X.A) (hg : Gl X x) (hm : X.mg x = some (.ref C)) (hdb : (x == ("__debug__" : Str)) = false) (ha : PA X [e] ta) (he : starEach [e] X.env = (false, eval e X.env) :: starEach [] X.env) :
    PMk X (.Call (.Name x p) [e] [] pos) (fun σ H Q => ta σ H fun vs H1 => ∃ y, vs = [y] ∧ ∀ dd, H1 dd = none → Q (.ref C) (some dd) (upd H1 dd (.xd [(f, y)]))) := by
  intro pins s σ H Q I h
  obtain ⟨nm, q, N, bs, bm, sn, sub, ab, col, dd, k0, k1, k2, k3, k5, hC, hbm⟩ := S.oex.cls
  refine wpAny_Call_Name_kw (ld_glob I hg hm ?_ hdb)
  refine callWith_K (h₀ := X.base) I.ok.mod.kin S.oex.kC (thn (ha.run pos pins s σ H _ I h) fun us s1 ⟨vs, H1, I1, r1, y, ev, q1⟩ => ⟨I1.kIn, ?_⟩) he rfl
  show wpAny _ _ (call (.ref C) us) _ _ _
  subst ev
  obtain ⟨u, rfl, ry⟩ : ∃ u, us = [u] ∧ RelV y u := by
    cases r1 with
    | @cons _ u _ ur ra rw' =>
      cases rw'
      exact ⟨u, rfl, ra⟩
  obtain ⟨hp, g, dr, tk, os⟩ := s1
  have hsz : hp.objs.size ≤ hp.objs.size + 1 := Nat.le_succ _
  have hn : H1 (hp.objs.size + 1) = none := I1.hok.fresh hsz
  have kk : ∀ b o, hp.get? b = some o → ((hp.push (kdv_tup [u])).push (HandSPX.excO C hp.objs.size)).get? b = some o := fun b o e => Heap.get?_push_of_some _ (Heap.get?_push_of_some _ e)
  have hget : ((hp.push (kdv_tup [u])).push (HandSPX.excO C hp.objs.size)).get? (hp.objs.size + 1) = some (HandSPX.excO C hp.objs.size) := by heap_get
  have hnone : hp.get? (hp.objs.size + 1) = none := Heap.get?_none_of_le hsz
  refine wpAny_call (HandSPX.call_own PySem.F.excBase_ValueError (fun Y => HandSPX.refsVE_contains Y bm hbm) (I1.kIn _ _ hC) (looks_findIn I1.kIn S.init) (fun self => bind_fn I1.kIn self S.tI) (by show 1 ≤ sizeLine; rw [sizeLine_eq]; omega)
    (init_run1 hline S rfl hno hf (handed_of ry) I1.mod (fun b o e => kk b o (I1.bk b o e)) (by
      cases z : X.base.get? (hp.objs.size + 1) with
      | none => rfl
      | some o => rw [I1.bk _ _ z] at hnone; cases hnone) (hr.make C [u] []).depth hget fun h' t1 t' dx k hdx e1 hns => ⟨rfl, ?_⟩))
  have hsz2 : ((hp.push (kdv_tup [u])).push (HandSPX.excO C hp.objs.size)).objs.size = hp.objs.size + 2 := by simp [Heap.push]
  have hdx' : hp.objs.size ≤ dx := by omega
  have dne : dx ≠ hp.objs.size + 1 := by omega
  obtain ⟨G, g1, g2⟩ := restrict h' fun b => decide (b ≠ hp.objs.size + 1)
  have gk : ∀ b, b ≠ hp.objs.size + 1 → G.get? b = h'.get? b := fun b hb => g1 b (decide_eq_true hb)
  have ge : G.get? (hp.objs.size + 1) = none := g2 _ (by simp)
  have hpG : ∀ b o, hp.get? b = some o → G.get? b = some o := fun b o e => by
    have nb : b ≠ hp.objs.size + 1 := fun z => by rw [z, hnone] at e; cases e
    rw [gk b nb]
    exact k b o nb (kk b o e)
  have hd1 : H1 dx = none := I1.hok.fresh hdx'
  have J := I1.laid (t' := t') (a := dx) (o := .xd [(f, y)]) (h' := G) hpG hdx' ⟨_, hns.at fun o z => (gk dx dne).trans z, relO_put (fs := []) ry fun g => True.intro⟩
  refine ⟨hp.objs.size + 1, _, _, ⟨G, g, dr, t', os⟩, _, .ref C, some dx, rfl, J, fun b o e => ?_, ge, e1, ⟨rfl, rfl⟩, rfl, rfl, by rw [upd_ne (Ne.symm dne)]; exact hn, rfl, I1.bare, raises_own S.oex.exC S.oex.tyC, q1 dx hd1⟩
  by_cases nb : b = hp.objs.size + 1
  · rw [nb, ge] at e; cases e
  · exact (gk b nb).symm.trans e
end
end Ev

/-! Ev, part Re: calls whose errors are taken by what is wished at the slots. -/
namespace Ev
open PySem PySem.Spec L2 PyProof.Rows
noncomputable def CallRS (X : Cx) (f : Value) (r : L2.St → List V → Hp → VK → Prop) : Prop :=
  ∀ (pins : List (Addr × Obj)) (s : Shared) (σ : L2.St) (H : Hp) (xs : List V) (us : List Value) (Q : VK), Inv X pins σ H s → Vals xs us → r σ xs H Q →
    wpAny (model X.prog X.w) X.A (call f us) (EP X pins σ Q) X.xe s
noncomputable def tCBS (r : L2.St → List V → Hp → VK → Prop) (t : TA) : TE := fun σ H Q => t σ H fun vs H1 => r σ vs H1 Q
section
variable {X : Cx} {CX : CXT} {k : Nat} {f C : Addr} {fd : FuncData} {ps : List Str} {sp : Sp} {ds : List Value} {E : L2.St → XK} {x m : Str} {p pos apos : Pos} {e o : Expr} {es : List Expr} {ta : TE} {t : TA} {r : L2.St → List V → Hp → VK → Prop}
/-- what comes back of a call, with what came ahead of it -/
theorem back_ofS {pins : List (Addr × Obj)} {σ : L2.St} {H H0 : Hp} {s s0 : Shared} {Q : VK} (hx : ∀ σ, PassesAt CX X σ (E σ)) (I : Inv X pins σ H s) {res : Result} {s' : Shared} {q : Value → Shared → Prop} (hq : CR CX X.stack X.prog X.w H s Q (E σ) res s') (k : ∀ u, EP X pins σ Q u s' → q u s') :
    callEnd q X.xe res s' := by
  cases res with
  | error e => exact hx σ pins H s e s' I hq
  | ok fl =>
    cases fl with
    | ret u => exact k u (I.after hq)
    | next => exact False.elim hq
    | brk => exact False.elim hq
    | cont => exact False.elim hq
/-- a def is called -/
theorem cr_fnS (F : FnR true X.prog X.w X.K X.mg X.base CX k f fd ps sp) (hg : X.A.guards = some []) (hr : Room k X.A) (hb : Binds X.K fd ps []) (hx : ∀ σ, PassesAt CX X σ (E σ)) : CallRS X (.ref f) (fun σ vs H Q => sp vs H Q (E σ)) := by
  intro pins s σ H vs us Q I r h
  have hl : us.length = ps.length := by rw [← r.length]; exact F.len _ _ _ _ h
  have bd := hb s us I.kIn (by simpa using hl)
  rw [List.append_nil] at bd
  exact wpAny_call (codeAny_mono (F.run X.A X.stack s H ⟨us, []⟩ us vs Q (E σ) (fun _ => hg) hr I.env0 bd r h) fun res s' hq => back_ofS (s0 := s) (H0 := H) hx I hq fun _ z => z)
/-- a thing of a class is made -/
theorem cr_mkS (M : Mk X.K C f) (F : FnR true X.prog X.w X.K X.mg X.base CX k f fd ps sp) (hg : X.A.guards = some []) (hr : Room (k + 1) X.A) (hb : Binds X.K fd ps []) (hx : ∀ σ, PassesAt CX X σ (E σ)) :
    CallRS X (.ref C) (fun σ vs H Q => ∀ x dx, H x = none → H dx = none → dx ≠ x → sp (.ref x :: vs) (upd (upd H dx (.own x)) x (.ins C dx [])) (fun v H2 => v = .non ∧ Q (.ref x) H2) (E σ)) := by
  intro pins s σ H vs us Q I r h
  have hq := h (s.heap.objs.size + 1) s.heap.objs.size (I.hok.fresh (Nat.le_succ _)) (I.hok.fresh (Nat.le_refl _)) (Nat.ne_of_lt (Nat.lt_succ_self _))
  have I2 := Inv.made (C := C) I
  have r2 : Vals (V.ref (s.heap.objs.size + 1) :: vs) (Value.ref (s.heap.objs.size + 1) :: us) := .cons rfl r
  have hl : (Value.ref (s.heap.objs.size + 1) :: us).length = ps.length := by
    rw [← r2.length]; exact F.len _ _ _ _ hq
  have bd := hb _ (Value.ref (s.heap.objs.size + 1) :: us) I2.kIn (by simpa using hl)
  rw [List.append_nil] at bd
  have run := F.run _ X.stack _ _ ⟨Value.ref (s.heap.objs.size + 1) :: us, []⟩ _ _ _ (E σ) (fun _ => make_guards (C := C) (us := us) (kw := []) hg) (hr.make C us []) (I2.env0.make C us []) bd r2 hq
  refine wpAny_call (make_map (f := f) I.kIn M.makes M.init (beq_iff_eq.mp M.fn) (codeAny_mono run fun res s' z => ?_))
  cases res with
  | error e => exact hx σ pins _ _ e s' I2 z
  | ok fl =>
    cases fl with
    | ret u =>
      obtain ⟨v, H', I3, rv, ev, q3⟩ := I2.after z
      subst ev
      exact ⟨rv, ⟨V.ref (s.heap.objs.size + 1), H', I3, rfl, q3⟩⟩
    | next => exact False.elim z
    | brk => exact False.elim z
    | cont => exact False.elim z
/-- x(e, ..), x a global name -/
theorem pe_nameS {u : Addr} (hc : CallRS X (.ref u) r) (hg : Gl X x) (hm : X.mg x = some (.ref u)) (hk : PySem.W.keepIn X.K (.ref u) = true) (ha : PA X (e :: es) t) (hdb : (x == ("__debug__" : Str)) = false) (he : starEach (e :: es) X.env = (false, eval e X.env) :: starEach es X.env)
    (hpl : (backTo pos (starEach es X.env)).any (·.1) = false) : PE X (.Call (.Name x p) (e :: es) [] pos) (tCBS r t) :=
  ⟨fun pins s σ H Q I h => wpAny_Call_Name_kw (ld_glob I hg hm (PySem.W.callWith_K (h₀ := X.base) I.ok.mod.kin hk (thn (ha.run pos pins s σ H _ I h) fun us s1 ⟨vs, H1, I1, r1, q⟩ => ⟨I1.kIn, hc pins s1 σ H1 vs us Q I1 r1 q⟩) he hpl) hdb)⟩
theorem pe_nameS0 {u : Addr} (hc : CallRS X (.ref u) r) (hg : Gl X x) (hm : X.mg x = some (.ref u)) (hk : PySem.W.keepIn X.K (.ref u) = true) (hdb : (x == ("__debug__" : Str)) = false) : PE X (.Call (.Name x p) [] [] pos) (tCBS r tNil) :=
  ⟨fun pins s σ H Q I h => wpAny_Call_Name_kw (ld_glob I hg hm (PySem.W.callWith_K0 I.kIn hk (hc pins s σ H [] [] Q I .nil h)) hdb)⟩
/-- o.m(e, ..), the class's def at f -/
theorem pe_attrS {pl : Sem Bool} (he : PE X o ta) (c : Cls X.K C) (hm : Meth X.K C m f) (hc : CallRS X (.ref f) r) (ha : PA X (e :: es) t) (hst : starEach (e :: es) X.env = (false, eval e X.env) :: starEach es X.env) (hpl : (backTo pos (starEach es X.env)).any (·.1) = false)
    (ht : eval (.Call (.Attribute o m apos) (e :: es) [] pos) X.env = (do
      let ov ← eval o X.env
      standAt apos.atName
      let (f, first) ← holding [ov] (getMethod ov m pl)
      callWith pos f first (backTo pos (starEach (e :: es) X.env)) (backToKw pos (keywordEach [] X.env)))) :
    PE X (.Call (.Attribute o m apos) (e :: es) [] pos) (fun σ H Q => ta σ H fun x H1 => ∃ a dx fs, x = .ref a ∧ H1 a = some (.ins C dx fs) ∧ fs.lookup m = none ∧ t σ H1 fun vs H2 => r σ (x :: vs) H2 Q) := by
  refine ⟨fun pins s σ H Q I h => PySem.W.methodCall_KW (pl := pl) (thn (he.run pins s σ H _ I h) fun u s1 ⟨x, H1, I1, rx, a, dx, fs, ex, ea, l, q⟩ => ?_) ht⟩
  subst ex
  cases rx
  exact getmeth_ok I1 ea c hm l (PySem.W.callWith_K (first := [.ref a]) (h₀ := X.base) I.ok.mod.kin hm.kp (thn (ha.run pos pins s1 σ H1 _ I1 q) fun us s2 ⟨vs, H2, I2, r2, q2⟩ => ⟨I2.kIn, hc pins s2 σ H2 (.ref a :: vs) (.ref a :: us) Q I2 (.cons rfl r2) q2⟩) hst hpl)
theorem pe_attrS0 {pl : Sem Bool} (he : PE X o ta) (c : Cls X.K C) (hm : Meth X.K C m f) (hc : CallRS X (.ref f) r)
    (ht : eval (.Call (.Attribute o m apos) [] [] pos) X.env = (do
      let ov ← eval o X.env
      standAt apos.atName
      let (f, first) ← holding [ov] (getMethod ov m pl)
      callWith pos f first (backTo pos (starEach [] X.env)) (backToKw pos (keywordEach [] X.env)))) :
    PE X (.Call (.Attribute o m apos) [] [] pos) (fun σ H Q => ta σ H fun x H1 => ∃ a dx fs, x = .ref a ∧ H1 a = some (.ins C dx fs) ∧ fs.lookup m = none ∧ r σ [x] H1 Q) := by
  refine ⟨fun pins s σ H Q I h => PySem.W.methodCall_KW (pl := pl) (thn (he.run pins s σ H _ I h) fun u s1 ⟨x, H1, I1, rx, a, dx, fs, ex, ea, l, q⟩ => ?_) ht⟩
  subst ex
  cases rx
  exact getmeth_ok I1 ea c hm l (PySem.W.callWith_K0 (first := [.ref a]) I1.kIn hm.kp (hc pins s1 σ H1 [.ref a] [.ref a] Q I1 (.cons rfl .nil) q))
end
end Ev

/-! Ev, part L: a text is held against its evaluation's code: expressions. -/
namespace Ev
open PySem L2 PyProof.Rows
/-! ### side conditions that hang on the form alone -/
noncomputable def noStar : Expr → Bool
  | .Starred _ _ => false
  | _ => true
theorem star_cons {e : Expr} {es : List Expr} {env : Env} (h : noStar e = true) : starEach (e :: es) env = (false, eval e env) :: starEach es env := by
  cases e <;> first | rfl | (cases h)
theorem star_all {env : Env} : ∀ {es : List Expr}, es.all noStar = true → ∀ p ∈ starEach es env, p.1 = false
  | [], _, p, hp => by simp [starEach] at hp
  | e :: es, h, p, hp => by
    rw [List.all_cons, Bool.and_eq_true] at h
    rw [star_cons h.1] at hp
    rcases List.mem_cons.mp hp with z | z
    · rw [z]
    · exact star_all h.2 p z
theorem back_any {pos : Pos} {env : Env} {es : List Expr} (h : es.all noStar = true) : (backTo pos (starEach es env)).any (·.1) = false := by
  rw [List.any_eq_false]
  intro p hp
  unfold backTo at hp
  obtain ⟨q, hq, e⟩ := List.mem_map.mp hp
  have := star_all h q hq
  subst e
  obtain ⟨s, t⟩ := q
  simpa using this
theorem back_few {pos : Pos} {env : Env} {es : List Expr} (h : es.all noStar = true) (hl : es.length < 30) : ((backTo pos (starEach es env)).all (fun x => !x.1) && (backToKw pos (keywordEach [] env)).all (fun x => x.1.isSome)
      && decide (es.length + ([] : List Keyword).length + (if ([] : List Keyword).isEmpty then 0 else 1) < 30)) = true := by
  have h1 : (backTo pos (starEach es env)).all (fun x => !x.1) = true := by
    rw [List.all_eq_true]
    intro p hp
    unfold backTo at hp
    obtain ⟨q, hq, e⟩ := List.mem_map.mp hp
    have := star_all h q hq
    subst e
    obtain ⟨s, t⟩ := q
    simpa using this
  rw [h1]
  simp [keywordEach, backToKw, hl]
noncomputable def plainBase : Expr → Bool
  | .Call (.Name x _) [] [] _ => x != "super"
  | _ => true
theorem base_ok {o : Expr} {attr : Str} {env : Env} {whole : Sem Value} (h : plainBase o = true) : attributeBase o attr env whole = whole := by
  cases o with
  | Call f args kws pos =>
    cases f with
    | Name x p =>
      cases args with
      | nil =>
        cases kws with
        | nil =>
          have h' : (x != ("super" : Str)) = true := h
          unfold attributeBase
          simp only [h', Bool.true_or, if_true]
        | cons _ _ => rfl
      | cons _ _ => rfl
    | _ => rfl
  | _ => rfl
noncomputable def plainIx : Expr → Bool
  | .Slice _ _ _ _ => false
  | _ => true
theorem ix_ok {b : Expr} (h : plainIx b = true) : PlainIx b := by
  intro o i
  cases b <;> first | rfl | (cases h)
theorem meth_form {o : Expr} {m : Str} {apos pos : Pos} {es : List Expr} {env : Env} (hb : plainBase o = true) (hs : es.all noStar = true) (hl : es.length < 30) (hline : (apos.endLine == pos.line) = true) :
    eval (.Call (.Attribute o m apos) es [] pos) env = (do
      let ov ← eval o env
      standAt apos.atName
      let (f, first) ← holding [ov] (getMethod ov m (do return (← importBound o env).getD true))
      callWith pos f first (backTo pos (starEach es env)) (backToKw pos (keywordEach [] env))) := by
  have hform : methodCallForm (es.length + ([] : List Keyword).length) (backTo pos (starEach es env)) (backToKw pos (keywordEach [] env)) = true := back_few hs hl
  have hpos : methodCallPos true o env apos pos = pure pos := by unfold methodCallPos; simp [hline]
  rw [arm_eval_Call, base_ok hb]
  unfold methodCall
  rw [hform, hpos]
  rfl
noncomputable def noMark : Expr → Bool
  | .Set _ _ _ => false
  | _ => true
theorem mark_ok {op : CmpOp} {b : Expr} (h : noMark b = true) : behindInMarks op b = false := by
  cases b <;> first | rfl | (cases h)
theorem folded_ok {it : Expr} {env : Env} (h : noMark it = true) : ∀ x, foldedSetIterable it env x = pure x := by
  intro x
  cases it <;> first | rfl | (cases h)
/-- expressions whose truth is that of their value -/
noncomputable def plainTest : Expr → Bool
  | .Name _ _ => true
  | .Call _ _ _ _ => true
  | .Attribute _ _ _ => true
  | .Subscript _ _ _ => true
  | _ => false
theorem test_ok {e : Expr} {env : Env} (h : plainTest e = true) : ∀ whole, isTrue e env whole = (do let v ← whole; standAt e.pos; holding [v] (truthy v)) := by
  intro w
  cases e <;> first | rfl | (cases h)
noncomputable def okName (x : Str) : Bool := !(x == ("__debug__" : Str)) && !(x == ("__classdict__" : Str)) && !(x == ("__name__" : Str))
theorem ok_debug {x : Str} (h : okName x = true) : (x == ("__debug__" : Str)) = false := by
  unfold okName at h
  simp only [Bool.and_eq_true, Bool.not_eq_true'] at h
  exact h.1.1
theorem ok_cd {x : Str} (h : okName x = true) : (x == ("__classdict__" : Str)) = false := by
  unfold okName at h
  simp only [Bool.and_eq_true, Bool.not_eq_true'] at h
  exact h.1.2
theorem ok_name {x : Str} (h : okName x = true) : x ≠ "__name__" := by
  unfold okName at h
  simp only [Bool.and_eq_true, Bool.not_eq_true'] at h
  intro e
  rw [e] at h
  simp at h

/-! ### what is known of a place in the text -/
/-- the slots' names, the kinds of the names that stand there, whether it is a def's own block -/
structure Bk where
  N : List Str
  nm : List (Str × NameKind)
  top : Bool
  raw : List (Str × NameKind)
  full : Bool
  calm : Bool
/-- by numbers: defs by their global names, classes by theirs, attributes -/
structure Tb where
  fn : List (Nat × Str)
  cls : List (Nat × Str)
  attrs : List Str
  cons : List (Str × Nat)
  G : GS
  xn : List (Nat × Str) := []
noncomputable def relN (outer names : List (Str × NameKind)) : List (Str × NameKind) := names.map fun x => if (x.2 == NameKind.free && outer.lookup x.1 == some NameKind.cell) = true then (x.1, NameKind.cell) else x
/-- the names of built-ins that the language knows -/
noncomputable def Blt.name : Blt → Str
  | .len => "len" | .isi => "isinstance" | .int => "int" | .min2 => "min" | .max2 => "max" | .abs => "abs"
  | .tuple => "tuple" | .list => "list" | .sorted => "sorted" | .all => "all" | .any => "any" | .sum => "sum" | .max1 => "max" | .min1 => "min" | .repr => "repr"
noncomputable def Bm.attr : Bm → Str
  | .append => "append" | .pop0 => "pop" | .popAt => "pop" | .extend => "extend"
noncomputable def Ty.name : Ty → Str
  | .none => "NoneType" | .bool => "bool" | .int => "int" | .str => "str" | .list => "list" | .tuple => "tuple" | .dict => "dict"
noncomputable def bltNames : List Str := ["len", "isinstance", "int", "min", "max", "abs", "tuple", "list", "sorted", "all", "any", "sum", "bool", "str", "dict", "range", "enumerate", "zip", "set", "repr"]
/-- an error of the class at C may be raised: its __init__ -/
noncomputable def RaiseF (K : PySem.W.Frag) (P : Program) (mg : Str → Option Value) (C : Addr) (f : Option Str) : Prop := match f with
  | none => ∃ (fI : Addr) (sc : Scope) (m1 : Str) (p0 p1 p2 ap ps pos' : Pos) (j : Nat), (ap.endLine == ps.line) = true ∧ SupI K P mg C fI [.Expr (.Call (.Attribute (.Call (.Name "super" p0) [] [] p1) "__init__" ap) [.Constant (.str m1) j p2] [] ps) pos'] sc [("self" : Str)]
  | some f => ∃ (fI : Addr) (sc : Scope) (m1 : Str) (p0 p1 p2 ap ps pos' q0 q1 q2 q3 : Pos) (j : Nat), (ap.endLine == ps.line) = true ∧ SupI K P mg C fI [.Expr (.Call (.Attribute (.Call (.Name "super" p0) [] [] p1) "__init__" ap) [.Constant (.str m1) j p2] [] ps) pos', .Assign [.Attribute (.Name "self" q0) f q1] (.Name f q2) q3] sc [("self" : Str), f] ∧
      PySem.W.findIn K (.ref C) f = some none ∧ (f == ("__debug__" : Str)) = false
/-- what is known of the classes of errors -/
structure ExcOk (K : PySem.W.Frag) (P : Program) (mg : Str → Option Value) (c : Cn) (tb : Tb) : Prop where
  xcl : ∀ (k : Nat) (C : Addr), c.exc.lookup k = some C → ∃ ec, tb.G.exc.lookup k = some ec ∧ ExcC K C ∧ PySem.W.kitOne K (.ref C) (.type "ValueError") = some true ∧
    ∀ (j : Nat) (D : Addr), c.exc.lookup j = some D → PySem.W.kitOne K (.ref C) (.ref D) = some (ec.up.contains j) ∧ PySem.W.exmOne K (.ref C) (.ref D) = some (ec.up.contains j)
  xno : ∀ (k : Nat) (C : Addr) (f : Nat) (n : Str), c.exc.lookup k = some C → (tb.G.exc.any fun p => p.2.fld == some f) = true → tb.attrs[f]? = some n → PySem.W.findIn K (.ref C) n = some none
  name : ∀ (k : Nat) (x : Str), tb.xn.lookup k = some x → ∃ C, c.exc.lookup k = some C ∧ mg x = some (.ref C)
  noVE : mg "ValueError" = none
  rais : ∀ (k : Nat) (C : Addr) (ec : EC), c.exc.lookup k = some C → tb.G.exc.lookup k = some ec → ec.rs = true → (ec.fld = none → RaiseF K P mg C none) ∧ ∀ f, ec.fld = some f → ∃ n, tb.attrs[f]? = some n ∧ RaiseF K P mg C (some n)
structure OkX (c : Cn) (tb : Tb) (cl : Caller) (cur : Option (Nat × XD)) (k : Bk) (X : Cx) : Prop where
  K : X.K = c.K
  full : k.full = true → X.A.guards = some []
  calm : k.calm = true → X.calm = true
  hu : X.A.units + 65 < cLine
  N : X.N = k.N
  nd : k.N.Nodup
  nm : X.env.scope.names = k.nm
  kind : X.env.scope.kind = .function
  top : k.top = true → ∀ x, X.fn x = true
  raw : ∀ x, k.raw.lookup x = some .cell → X.fn x = true
  call : k.full = true → ∀ (f : Nat) (x : Str), tb.fn.lookup f = some x → ∃ fa fd ps kk, FnR true X.prog X.w X.K X.mg X.base (L2.CX X.prog X.w) kk fa fd ps (spC c cl f) ∧ Room kk X.A ∧ X.mg x = some (.ref fa) ∧ PySem.W.keepIn X.K (.ref fa) = true ∧ Binds X.K fd ps []
  make : k.calm = true → ∀ (ci : Nat) (x : Str) (kk : Cl), tb.cls.lookup ci = some x → tb.G.cls.lookup ci = some kk → ∃ C fI fd ps j, c.cls.lookup ci = some C ∧ Mk X.K C fI ∧ (k.full = true → FnR true X.prog X.w X.K X.mg X.base (L2.CX X.prog X.w) j fI fd ps (spC c cl kk.init)) ∧ Room (j + 1) X.A ∧ X.mg x = some (.ref C) ∧ Binds X.K fd ps []
  meth : k.full = true → ∀ (ci : Nat) (kk : Cl) (m : Nat) (x : Str) (f : Nat), tb.G.cls.lookup ci = some kk → kk.ms.lookup m = some f → tb.attrs[m]? = some x → ∃ C fa fd ps j, c.cls.lookup ci = some C ∧ Cls X.K C ∧ Meth X.K C x fa ∧ FnR true X.prog X.w X.K X.mg X.base (L2.CX X.prog X.w) j fa fd ps (spC c cl f) ∧ Room j X.A ∧ Binds X.K fd ps []
  blt : ∀ x ∈ bltNames, X.mg x = none
  eqs : k.calm = true → EqsOk X c tb.G cl
  glob : ∀ p ∈ tb.cons, ∃ d u v, tb.G.consts[p.2]? = some d ∧ X.mg p.1 = some u ∧ RelV v u ∧ ∀ y Z, Rep (c.at y) Z d v
  attrs : c.attrs = tb.attrs
  fld : ∀ (f : Nat) (x : Str), tb.attrs[f]? = some x → ∀ (ci : Nat) (C : Addr), c.cls.lookup ci = some C → Cls X.K C ∧ (c.fok ci f = true → NoAttr X.K C x)
  fok : ∀ (f ci : Nat) (kk : Cl), tb.G.cls.lookup ci = some kk → kk.fl.contains f = true → c.fok ci f = true
  exc : ExcOk X.K X.prog X.mg c tb
  ex0 : k.calm = true → c.ex = none
  rm : k.full = true → Room 2 X.A
  cur : ∀ N x, cur = some (N, x) → k.calm = false ∧ ∃ ad C oe d, CurX X c N x ad C oe d
noncomputable def isGn (k : Bk) (x : Str) : Bool := k.nm.lookup x == some NameKind.globalImplicit
/-- .. outside of except clauses -/
noncomputable def isGl (k : Bk) (x : Str) : Bool := k.calm && isGn k x
/-- a global name, where calls may stand -/
noncomputable def isGf (k : Bk) (x : Str) : Bool := k.full && isGl k x
noncomputable def isVis (k : Bk) (x : Str) : Bool := match k.nm.lookup x with
  | some .local => true
  | some .cell => true
  | some .free => true
  | _ => false
noncomputable def isLoc (k : Bk) (x : Str) : Bool := match k.nm.lookup x with
  | some .local => true
  | some .cell => k.top || k.raw.lookup x == some NameKind.cell
  | _ => false
section
variable {c : Cn} {tb : Tb} {cl : Caller} {cur : Option (Nat × XD)} {k : Bk} {X : Cx}
theorem OkX.gf (o : OkX c tb cl cur k X) {x : Str} (h : isGf k x = true) : k.full = true ∧ isGl k x = true := by
  unfold isGf at h
  rwa [Bool.and_eq_true] at h
theorem gl_calm {x : Str} (h : isGl k x = true) : k.calm = true := by
  unfold isGl at h
  rw [Bool.and_eq_true] at h
  exact h.1
theorem OkX.gn (o : OkX c tb cl cur k X) {x : Str} (h : isGn k x = true) : Gl X x := by
  show X.env.scope.names.lookup x = _
  rw [o.nm]
  exact beq_iff_eq.mp h
theorem OkX.gl (o : OkX c tb cl cur k X) {x : Str} (h0 : isGl k x = true) : Gl X x := by
  have h : isGn k x = true := by
    unfold isGl at h0
    rw [Bool.and_eq_true] at h0
    exact h0.2
  show X.env.scope.names.lookup x = _
  rw [o.nm]
  exact beq_iff_eq.mp h
theorem OkX.vis (o : OkX c tb cl cur k X) {x : Str} (h : isVis k x = true) : L2.Vis X.env.scope x := by
  unfold isVis at h
  unfold L2.Vis
  rw [o.nm]
  split at h <;> simp_all
theorem OkX.loc (o : OkX c tb cl cur k X) {x : Str} (h : isLoc k x = true) : L2.Loc X.env.scope x ∧ (X.fn x = true ∨ X.env.scope.names.lookup x = some .local) := by
  unfold isLoc at h
  unfold L2.Loc
  rw [o.nm]
  split at h
  · rename_i e; exact ⟨.inl e, .inr e⟩
  · rename_i e
    rcases Bool.or_eq_true_iff.mp h with h | h
    · exact ⟨.inr e, .inl (o.top h x)⟩
    · exact ⟨.inr e, .inl (o.raw x (beq_iff_eq.mp h))⟩
  · cases h
end
/-! ### the look -/
mutual
noncomputable def tgE (k : Bk) : Tg → Expr → Bool
  | .one i, e => match e with
    | .Name x _ => decide (k.N[i]? = some x) && isLoc k x
    | _ => false
  | .tup ts, e => match e with
    | .Tuple es _ _ => k.calm && tgL k ts es
    | _ => false
noncomputable def tgL (k : Bk) : Tgs → List Expr → Bool
  | .nil, es => es.isEmpty
  | .cons t r, es => match es with
    | e :: es' => noStar e && tgE k t e && tgL k r es'
    | [] => false
end
noncomputable def isYes : CT → Bool
  | .yes => true
  | _ => false
noncomputable def tagRng : CI → Bool
  | .rng1 _ => true
  | .rng2 _ _ => true
  | _ => false
/-- the block of a comprehension -/
noncomputable def blk1 (k : Bk) (scope : Scope) : Bk := ⟨k.N, relN k.nm scope.names, false, scope.names, k.full, k.calm⟩
noncomputable def ownOf (k : Bk) (own : List Nat) : List (Str × Nat) := own.map fun i => ((k.N[i]?).getD "", i)
mutual
noncomputable def chE (tb : Tb) (k : Bk) : CE → Expr → Bool
  | .k d, e => match e with
    | .Constant v _ _ => (match v, d with
      | .int i, .int j => decide (i = j)
      | .bool a, .bl b => a == b
      | .str x, .str y => decide (x = y)
      | .none, .non => true
      | _, _ => false)
    | .Name x _ => (match d with
      | .cl ci => decide (tb.cls.lookup ci = some x) && (tb.G.cls.lookup ci).isSome && isGl k x && okName x
      | .ty t => decide (x = t.name) && isGl k x && bltNames.contains x && okName x
      | _ => false)
    | _ => false
  | .s i, e => match e with
    | .Name x _ => decide (k.N[i]? = some x) && isVis k x && okName x
    | _ => false
  | .g i, e => match e with
    | .Name x _ => isGl k x && okName x && (tb.cons.any fun q => decide (x = q.1) && q.2 == i)
    | _ => false
  | .bin op a b, e => match e with
    | .BinOp ea op' eb _ => decide (op = op') && chE tb k a ea && chE tb k b eb
    | _ => false
  | .un op a, e => match e with
    | .UnaryOp op' ea _ => decide (op = op') && chE tb k a ea
    | _ => false
  | .cmp op a b, e => match e with
    | .Compare ea ops es _ => (match ops, es with
      | [op'], [eb] => decide (op = op') && noMark eb && chE tb k a ea && chE tb k b eb
      | _, _ => false)
    | _ => false
  | .chain o1 o2 a b d, e => match e with
    | .Compare ea ops es _ => (match ops, es with
      | [p1, p2], [eb, ec] => decide (o1 = p1) && decide (o2 = p2) && noMark ec && chE tb k a ea && chE tb k b eb && chE tb k d ec
      | _, _ => false)
    | _ => false
  | .and a b, e => match e with
    | .BoolOp op vs pos => (match op, vs with
      | .And, [x, y] => chE tb k a x && chE tb k b y
      | .And, x :: y :: z :: r => chE tb k a x && chE tb k b (.BoolOp .And (y :: z :: r) pos)
      | _, _ => false)
    | _ => false
  | .or a b, e => match e with
    | .BoolOp op vs pos => (match op, vs with
      | .Or, [x, y] => chE tb k a x && chE tb k b y
      | .Or, x :: y :: z :: r => chE tb k a x && chE tb k b (.BoolOp .Or (y :: z :: r) pos)
      | _, _ => false)
    | _ => false
  | .not a, e => match e with
    | .UnaryOp op ea _ => decide (op = .Not) && chE tb k a ea
    | _ => false
  | .ife t a b, e => match e with
    | .IfExp x ea eb _ => chT tb k t x && chE tb k a ea && chE tb k b eb
    | _ => false
  | .tup es, e => match e with
    | .Tuple xs _ _ => chX tb k es xs
    | _ => false
  | .lst es, e => match e with
    | .List xs _ => chX tb k es xs
    | _ => false
  | .call f es, e => match e with
    | .Call (.Name x _) xs [] _ => decide (tb.fn.lookup f = some x) && isGf k x && okName x && chL tb k es xs
    | _ => false
  | .frz a, e => chE tb k a e
  | .mk ci es, e => match e with
    | .Call (.Name x _) xs [] _ => decide (tb.cls.lookup ci = some x) && (tb.G.cls.lookup ci).isSome && isGf k x && okName x && chL tb k es xs
    | _ => false
  | .blt f es, e => match e with
    | .Call (.Name x _) (y :: xs) [] _ => decide (x = f.name) && (if f = .repr then isGf k x else isGl k x) && okName x && chL tb k es (y :: xs)
    | _ => false
  | .um m o es, e => match e with
    | .Call (.Attribute eo x apos) xs [] pos => decide (tb.attrs[m]? = some x) && (k.full && plainBase eo) && decide (xs.length < 30) && (apos.endLine == pos.line) && chE tb k o eo && chL tb k es xs
    | _ => false
  | .bm m o es, e => match e with
    | .Call (.Attribute eo x apos) xs [] pos => decide (x = m.attr) && plainBase eo && decide (xs.length < 30) && (apos.endLine == pos.line) && chE tb k o eo && chX tb k es xs && (match m with
      | .pop0 => xs.isEmpty
      | _ => !xs.isEmpty)
    | _ => false
  | .idx a b, e => match e with
    | .Subscript ea eb _ => plainIx eb && chE tb k a ea && chE tb k b eb
    | _ => false
  | .slc a lo hi, e => match e with
    | .Subscript ea (.Slice elo ehi none _) _ => chE tb k a ea && (match elo with
      | none => isNonK lo
      | some x => !isNonK lo && chE tb k lo x) && (match ehi with
      | none => isNonK hi
      | some x => !isNonK hi && chE tb k hi x)
    | _ => false
  | .fld a f, e => match e with
    | .Attribute ea x _ => decide (tb.attrs[f]? = some x) && plainBase ea && chE tb k a ea
    | _ => false
  | .lc own tg it t elt, e => match e with
    | .ListComp ee [⟨tgt, iter, ifs, az⟩] scope _ => (k.calm && decide (az = 0)) && blkC k.N ⟨.function, k.nm, false, false, []⟩ scope (ownOf k own) && (tg.slots.all fun i => own.contains i) && noMark iter && chI tb k it tgt iter && tgE (blk1 k scope) tg tgt
        && (match ifs with
          | [] => isYes t
          | [x] => !isYes t && chT tb (blk1 k scope) t x
          | _ => false)
        && chE tb (blk1 k scope) elt ee
    | _ => false
  | .lrng it, e => match e with
    | .Call (.Name x _) [y] [] _ => decide (x = "list") && isGl k x && tagRng it && chI tb k it (.Name "" ⟨0, 0, 0, 0⟩) y
    | _ => false
  | .rev a, e => match e with
    | .Subscript ea (.Slice none none (some es) _) _ => chE tb k a ea && (match es with
      | .UnaryOp op (.Constant (.int 1) _ _) _ => decide (op = .USub)
      | _ => false)
    | _ => false
  | .dct t, e => match e with
    | .Dict [] [] _ => true
    | _ => false
  | .isE ci a, e => match e with
    | .Call (.Name x _) [ea, .Name y _] [] _ => decide (x = "isinstance") && isGn k x && noStar ea && isGn k y && okName y && (match ci with
      | none => decide (y = "ValueError")
      | some j => decide (tb.xn.lookup j = some y)) && chE tb k a ea
    | _ => false
  | .eF a f, e => match e with
    | .Attribute ea x _ => decide (tb.attrs[f]? = some x) && (tb.G.exc.any fun p => p.2.fld == some f) && plainBase ea && chE tb k a ea
    | _ => false
noncomputable def chX (tb : Tb) (k : Bk) : CEs → List Expr → Bool
  | .nil, xs => xs.isEmpty
  | .cons e r, xs => match xs with
    | x :: xs' => noStar x && chE tb k e x && chX tb k r xs'
    | [] => false
noncomputable def chL (tb : Tb) (k : Bk) : CEs → List Expr → Bool
  | .nil, xs => xs.isEmpty
  | .cons e r, xs => match xs with
    | x :: xs' => noStar x && chE tb k e x && chL tb k r xs'
    | [] => false
noncomputable def chT (tb : Tb) (k : Bk) : CT → Expr → Bool
  | .yes, _ => false
  | .e ce, e => match e with
    | .Compare _ _ _ _ => chE tb k ce e && (match ce with
      | .cmp _ _ _ => true
      | .chain _ _ _ _ _ => true
      | _ => false)
    | _ => plainTest e && chE tb k ce e
  | .and a b, e => match e with
    | .BoolOp op vs pos => (match op, vs with
      | .And, [x, y] => chT tb k a x && chT tb k b y
      | .And, x :: y :: z :: r => chT tb k a x && chT tb k b (.BoolOp .And (y :: z :: r) pos)
      | _, _ => false)
    | _ => false
  | .or a b, e => match e with
    | .BoolOp op vs pos => (match op, vs with
      | .Or, [x, y] => chT tb k a x && chT tb k b y
      | .Or, x :: y :: z :: r => chT tb k a x && chT tb k b (.BoolOp .Or (y :: z :: r) pos)
      | _, _ => false)
    | _ => false
  | .not a, e => match e with
    | .UnaryOp op ea _ => decide (op = .Not) && chT tb k a ea
    | _ => false
noncomputable def chI (tb : Tb) (k : Bk) : CI → Expr → Expr → Bool
  | .e ce, tg, e => chE tb k ce e
  | .rng1 a, tg, e => match e with
    | .Call (.Name x _) [ea] [] _ => decide (x = "range") && isGl k x && noStar ea && chE tb k a ea
    | _ => false
  | .rng2 a b, tg, e => match e with
    | .Call (.Name x _) [ea, eb] [] _ => decide (x = "range") && isGl k x && noStar ea && noStar eb && chE tb k a ea && chE tb k b eb
    | _ => false
  | .enum a, tg, e => match tg, e with
    | .Tuple _ _ _, .Call (.Name x _) [ea] [] _ => decide (x = "enumerate") && isGl k x && noStar ea && chE tb k a ea
    | _, _ => false
  | .zip a b, tg, e => match tg, e with
    | .Tuple _ _ _, .Call (.Name x _) [ea, eb] [] _ => decide (x = "zip") && isGl k x && noStar ea && noStar eb && chE tb k a ea && chE tb k b eb
    | _, _ => false
end
end Ev

/-! Ev, part M: the look at expressions is right. -/
namespace Ev
open PySem L2 PyProof.Rows
theorem asg_cons {e : Expr} {es : List Expr} {env : Env} (h : noStar e = true) : assignEach (e :: es) env = (false, assign e env) :: assignEach es env := by
  cases e <;> first | rfl | (cases h)
section
variable {c : Cn} {tb : Tb} {cl : Caller} {cur : Option (Nat × XD)}
theorem tb_and {a b : Bool} (h : (a && b) = true) : a = true ∧ b = true := by simpa using h
mutual
theorem tgE_ok {k : Bk} {X : Cx} (o : OkX c tb cl cur k X) : ∀ {t : Tg} {e : Expr}, tgE k t e = true → PG X e (gT c.K t)
  | .one i, e, h => by
    unfold tgE at h
    split at h
    · rename_i x pos
      obtain ⟨h1, h2⟩ := tb_and h
      obtain ⟨l1, l2⟩ := o.loc h2
      exact pg_name (by rw [o.N]; exact o.nd) (by rw [o.N]; exact of_decide_eq_true h1) l1 l2
    · cases h
  | .tup ts, e, h => by
    unfold tgE at h
    split at h
    · rename_i es n pos
      obtain ⟨hc, h⟩ := tb_and h
      have hc := o.calm hc
      obtain ⟨p1, p2, p3⟩ := tgL_ok o h
      have := pg_tl (pg_tup (k := n) (pos := pos) hc p1 p2 p3) (pg_unl (k := n) (pos := pos) hc p1 p2 p3)
      rw [o.K] at this
      exact this
    · cases h
theorem tgL_ok {k : Bk} {X : Cx} (o : OkX c tb cl cur k X) : ∀ {ts : Tgs} {es : List Expr}, tgL k ts es = true → PGs X es (gTs c.K ts) ∧ (assignEach es X.env).length = ts.len ∧ (assignEach es X.env).findIdx? (·.1) = none
  | .nil, es, h => by
    unfold tgL at h
    cases es with
    | nil => exact ⟨pgs_nil, rfl, rfl⟩
    | cons _ _ => cases h
  | .cons t r, es, h => by
    unfold tgL at h
    cases es with
    | nil => cases h
    | cons e es =>
      obtain ⟨h12, h3⟩ := tb_and h
      obtain ⟨h1, h2⟩ := tb_and h12
      obtain ⟨p1, p2, p3⟩ := tgL_ok o h3
      refine ⟨pgs_cons (tgE_ok o h2) p1 (by rw [asg_cons h1]; rfl), ?_, ?_⟩
      · rw [asg_cons h1, List.length_cons, p2]; rfl
      · rw [asg_cons h1]
        simp [List.findIdx?_cons, p3]
end
theorem relabel_nm {scope : Scope} {env : Env} {nm : List (Str × NameKind)} (hk : env.scope.kind = .function) (hn : env.scope.names = nm) : (relabel scope env).names = relN nm scope.names := by
  subst hn
  unfold relabel relN
  show List.map _ _ = List.map _ _
  apply List.map_congr_left
  intro x _
  obtain ⟨n, kd⟩ := x
  simp only [hk]
  have e : (ScopeKind.function == ScopeKind.function) = true := rfl
  rw [e, Bool.and_true]
  rfl
theorem OkX.blk {k : Bk} {X : Cx} (o : OkX c tb cl cur k X) {scope : Scope} (hc : k.calm = true) (hs : scope.kind = .function) (s : Shared) (H : Hp) (C : Addr) (cc : List (Str × Addr)) (fp : List Addr) : OkX c tb cl cur (blk1 k scope) (X.blk s H scope (compEnvC scope cc C X.env) fp) where
  K := o.K
  full := o.full
  calm := o.calm
  hu := o.hu
  N := o.N
  nd := o.nd
  nm := relabel_nm o.kind o.nm
  kind := hs
  top := fun h => by cases h
  raw := fun x h => beq_iff_eq.mpr h
  call := o.call
  make := o.make
  meth := o.meth
  eqs := o.eqs
  blt := o.blt
  glob := o.glob
  attrs := o.attrs
  fld := o.fld
  fok := o.fok
  exc := o.exc
  ex0 := o.ex0
  rm := o.rm
  cur := fun N x z => by
    obtain ⟨h, _⟩ := o.cur N x z
    rw [hc] at h; cases h
theorem blk_ok {k : Bk} {X : Cx} (o : OkX c tb cl cur k X) {scope : Scope} {own : List (Str × Nat)} (h : blkC k.N ⟨.function, k.nm, false, false, []⟩ scope own = true) : BlkOk X.N X.env.scope scope own := by
  have b := blkOk_by h
  exact ⟨b.kind, b.uniq, by rw [o.N]; exact b.ix, fun y hy e => by rw [o.nm]; exact b.free y hy e, by rw [o.N]; exact b.own⟩
theorem own_snd (k : Bk) (own : List Nat) : (ownOf k own).map (·.2) = own := by
  unfold ownOf
  rw [List.map_map]
  exact List.map_id' own
theorem pts_imp {X : Cx} {es : List Expr} {t t' : TT} (h : PTs X es t) (hi : ∀ σ H Q, t' σ H Q → t σ H Q) : PTs X es t' := ⟨fun pins s σ H Q I q => h.run pins s σ H Q I (hi σ H Q q)⟩
theorem tT_yes {G : GS} {σ : L2.St} {H : Hp} {Q : Bool → Hp → Prop} (q : tT c G cl .yes σ H Q) : Q true H := by
  obtain ⟨p, F, Z, τ, A, b, τ', s, e, k⟩ := q
  unfold evT at e
  cases e
  exact k H Z A (Post.refl s)
theorem tL_nil {G : GS} {σ : L2.St} {H : Hp} {Q : List V → Hp → Prop} (q : tL c G cl .nil σ H Q) : Q [] H := by
  obtain ⟨p, F, Z, τ, A, rs, τ', s, e, k⟩ := q
  unfold evL at e
  cases e
  exact k [] H Z A (Post.refl s) rfl
theorem blt_boot (f : Blt) : bootBuiltins f.name = some f.val := by cases f <;> decide +kernel
theorem blt_in (f : Blt) : f.name ∈ bltNames := by cases f <;> decide +kernel
theorem ty_boot (t : Ty) (h : bltNames.contains t.name = true) : bootBuiltins t.name = some (.type t.nm) := by
  cases t with
  | none => exact absurd h (by decide +kernel)
  | _ => decide +kernel
theorem pe_blt {X : Cx} {f : Blt} {p pos : Pos} {y : Expr} {xs : List Expr} {t : TA} (hc : CallR X f.val (rBlt c f)) (hg : Gl X f.name) (hm : X.mg f.name = none) (ha : PA X (y :: xs) t) (hs : noStar y = true) (hx : xs.all noStar = true) :
    PE X (.Call (.Name f.name p) (y :: xs) [] pos) (tCB (rBlt c f) t) := by
  have he := star_cons (es := xs) (env := X.env) hs
  have hp := back_any (pos := pos) (env := X.env) hx
  have hb := blt_boot f
  have hn : f.name ≠ "__name__" := by cases f <;> decide +kernel
  have hd : (f.name == ("__debug__" : Str)) = false := by cases f <;> decide +kernel
  cases f with
  | int => exact pe_callTy hc hg hm hb ha hn hd he hp
  | tuple => exact pe_callTy hc hg hm hb ha hn hd he hp
  | list => exact pe_callTy hc hg hm hb ha hn hd he hp
  | len => exact pe_callB hc hg hm hb ha hn hd he hp
  | isi => exact pe_callB hc hg hm hb ha hn hd he hp
  | min2 => exact pe_callB hc hg hm hb ha hn hd he hp
  | max2 => exact pe_callB hc hg hm hb ha hn hd he hp
  | abs => exact pe_callB hc hg hm hb ha hn hd he hp
  | sorted => exact pe_callB hc hg hm hb ha hn hd he hp
  | all => exact pe_callB hc hg hm hb ha hn hd he hp
  | any => exact pe_callB hc hg hm hb ha hn hd he hp
  | sum => exact pe_callB hc hg hm hb ha hn hd he hp
  | max1 => exact pe_callB hc hg hm hb ha hn hd he hp
  | min1 => exact pe_callB hc hg hm hb ha hn hd he hp
  | repr => exact pe_callB hc hg hm hb ha hn hd he hp
theorem pe_tyn {X : Cx} {t : Ty} {pos : Pos} (hg : Gl X t.name) (hm : X.mg t.name = none) (hb : bootBuiltins t.name = some (.type t.nm)) (hn : t.name ≠ "__name__") (hd : (t.name == ("__debug__" : Str)) = false) : PE X (.Name t.name pos) (tC (.ty t.nm)) :=
  ⟨fun pins s σ H Q I q => ld_blt I hg hm hb ⟨.ty t.nm, H, I, rfl, q⟩ hn hd⟩
theorem chL_star {k : Bk} : ∀ {es : CEs} {xs : List Expr}, chL tb k es xs = true → xs.all noStar = true
  | .nil, xs, h => by
    unfold chL at h
    cases xs with
    | nil => rfl
    | cons _ _ => cases h
  | .cons e r, xs, h => by
    unfold chL at h
    cases xs with
    | nil => cases h
    | cons x xs =>
      obtain ⟨h1, h2⟩ := tb_and h
      rw [List.all_cons, (tb_and h1).1, chL_star h2]
      rfl
theorem chX_star {k : Bk} : ∀ {es : CEs} {xs : List Expr}, chX tb k es xs = true → xs.all noStar = true
  | .nil, xs, h => by
    unfold chX at h
    cases xs with
    | nil => rfl
    | cons _ _ => cases h
  | .cons e r, xs, h => by
    unfold chX at h
    cases xs with
    | nil => cases h
    | cons x xs =>
      obtain ⟨h1, h2⟩ := tb_and h
      rw [List.all_cons, (tb_and h1).1, chX_star h2]
      rfl
theorem chIf_ok {k : Bk} {X : Cx} {ifs : List Expr} {t : CT} (h : (match ifs with
          | [] => isYes t
          | [x] => !isYes t && chT tb k t x
          | _ => false) = true) (ht : ∀ x, chT tb k t x = true → PT X x (tT c (tb.G.at cur) cl t)) : PTs X ifs (tT c (tb.G.at cur) cl t) := by
  split at h
  · cases t with
    | yes => exact pts_imp pts_nil fun σ H Q q => tT_yes q
    | _ => cases h
  · exact pts_one (ht _ (tb_and h).2)
  · cases h
theorem pw_bool {X : Cx} {op : BoolOp} {vs : List Expr} {pos : Pos} {t : TT} (h : PT X (.BoolOp op vs pos) t) : PW X (.BoolOp op vs pos) t := ⟨fun _ pins s σ H Q I q => h.run pins s σ H Q I q⟩
theorem ch_cmp {k : Bk} {op : CmpOp} {a b : CE} {ea : Expr} {ops : List CmpOp} {es : List Expr} {pos : Pos} (h : chE tb k (.cmp op a b) (.Compare ea ops es pos) = true) : ∃ eb, ops = [op] ∧ es = [eb] ∧ noMark eb = true ∧ chE tb k a ea = true ∧ chE tb k b eb = true := by
  unfold chE at h
  match ops, es, h with
  | [op'], [eb], h =>
    obtain ⟨h1, h2⟩ := tb_and h
    obtain ⟨h1, h3⟩ := tb_and h1
    obtain ⟨h1, h4⟩ := tb_and h1
    cases of_decide_eq_true h1
    exact ⟨_, rfl, rfl, h4, h3, h2⟩
  | [], _, h => cases h
  | [_], [], h => cases h
  | [_], _ :: _ :: _, h => cases h
  | _ :: _ :: _, _, h => cases h
theorem ch_chain {k : Bk} {o1 o2 : CmpOp} {a b d : CE} {ea : Expr} {ops : List CmpOp} {es : List Expr} {pos : Pos} (h : chE tb k (.chain o1 o2 a b d) (.Compare ea ops es pos) = true) : ∃ eb ec, ops = [o1, o2] ∧ es = [eb, ec] ∧ noMark ec = true ∧ chE tb k a ea = true ∧ chE tb k b eb = true ∧ chE tb k d ec = true := by
  unfold chE at h
  match ops, es, h with
  | [p1, p2], [eb, ec], h =>
    obtain ⟨h1, h2⟩ := tb_and h
    obtain ⟨h1, h3⟩ := tb_and h1
    obtain ⟨h1, h4⟩ := tb_and h1
    obtain ⟨h1, h5⟩ := tb_and h1
    obtain ⟨h1, h6⟩ := tb_and h1
    cases of_decide_eq_true h1
    cases of_decide_eq_true h6
    exact ⟨_, _, rfl, rfl, h5, h4, h3, h2⟩
  | [], _, h => cases h
  | [_], _, h => cases h
  | [_, _], [], h => cases h
  | [_, _], [_], h => cases h
  | [_, _], _ :: _ :: _ :: _, h => cases h
  | _ :: _ :: _ :: _, _, h => cases h
/-- a list's method -/
theorem bm_ty (m : Bm) : Slot "list" m.attr m.id := by
  cases m with
  | append => exact PySem.F.slot_list_append
  | pop0 => exact PySem.F.slot_list_pop
  | popAt => exact PySem.F.slot_list_pop
  | extend => exact PySem.F.slot_list_extend
theorem bm_des (m : Bm) : typeOf (.builtin m.id) = pure (.type "method_descriptor") := by
  cases m with
  | append => exact PySem.F.type_list_append
  | pop0 => exact PySem.F.type_list_pop
  | popAt => exact PySem.F.type_list_pop
  | extend => exact PySem.F.type_list_extend
noncomputable def isMk : CE → Bool
  | .cmp _ _ _ => true
  | .chain _ _ _ _ _ => true
  | _ => false
theorem noBk (h : false = true) : False := nomatch h
mutual
theorem chE_ok : ∀ {ce : CE} {k : Bk} {X : Cx} (o : OkX c tb cl cur k X) {e : Expr}, chE tb k ce e = true → PE X e (tE c (tb.G.at cur) cl ce)
  | .k d, k, X, o, e, h => by
    unfold chE at h
    split at h
    · rename_i v n pos
      split at h
      · cases of_decide_eq_true h; exact s_k pe_int fun Z => rfl
      · cases beq_iff_eq.mp h; exact s_k pe_bl fun Z => rfl
      · cases of_decide_eq_true h; exact s_k pe_str fun Z => rfl
      · exact s_k pe_non fun Z => rfl
      · cases h
    · rename_i x pos
      split at h
      · rename_i ci
        obtain ⟨h1, h2⟩ := tb_and h
        obtain ⟨h1, h3⟩ := tb_and h1
        obtain ⟨h1, h4⟩ := tb_and h1
        obtain ⟨kk, hk⟩ := Option.isSome_iff_exists.mp h4
        obtain ⟨C, fI, fd, ps, j, hC, _, _, _, hm, _⟩ := o.make (gl_calm h3) ci x kk (of_decide_eq_true h1) hk
        exact s_k (pe_glob (v := .ref C) (o.gl h3) hm rfl (ok_debug h2)) fun Z => ⟨C, hC, rfl⟩
      · rename_i t
        obtain ⟨h1, h2⟩ := tb_and h
        obtain ⟨h1, h3⟩ := tb_and h1
        obtain ⟨h1, h4⟩ := tb_and h1
        cases of_decide_eq_true h1
        exact s_k (pe_tyn (o.gl h4) (o.blt _ (by simpa using h3)) (ty_boot t h3) (ok_name h2) (ok_debug h2)) fun Z => rfl
      · cases h
    · cases h
  | .s i, k, X, o, e, h => by
    unfold chE at h
    split at h
    · rename_i x pos
      obtain ⟨h1, h2⟩ := tb_and h
      obtain ⟨h1, h3⟩ := tb_and h1
      exact s_s (pe_var (by rw [o.N]; exact of_decide_eq_true h1) (o.vis h3) (ok_debug h2) (ok_cd h2))
    · cases h
  | .g i, k, X, o, e, h => by
    unfold chE at h
    split at h
    · rename_i x pos
      obtain ⟨h1, h2⟩ := tb_and h
      obtain ⟨h1, h3⟩ := tb_and h1
      obtain ⟨q, hq, h4⟩ := List.any_eq_true.mp h2
      obtain ⟨h5, h6⟩ := tb_and h4
      cases of_decide_eq_true h5
      cases beq_iff_eq.mp h6
      obtain ⟨d, u, v, e0, e1, e2, e3⟩ := o.glob _ hq
      exact s_g (pe_glob (pos := pos) (o.gl h1) e1 e2 (ok_debug h3)) fun dd hd Z => by
        rw [e0] at hd
        cases hd
        exact e3 c.ex Z
    · cases h
  | .bin op a b, k, X, o, e, h => by
    unfold chE at h
    split at h
    · rename_i ea op' eb pos
      obtain ⟨h1, h2⟩ := tb_and h
      obtain ⟨h1, h3⟩ := tb_and h1
      cases of_decide_eq_true h1
      exact s_bin o.K (chE_ok o h3) (chE_ok o h2)
    · cases h
  | .un op a, k, X, o, e, h => by
    unfold chE at h
    split at h
    · rename_i op' ea pos
      obtain ⟨h1, h2⟩ := tb_and h
      cases of_decide_eq_true h1
      exact s_un (chE_ok o h2)
    · cases h
  | .cmp op a b, k, X, o, e, h => by
    unfold chE at h
    split at h
    · split at h
      · obtain ⟨h1, h2⟩ := tb_and h
        obtain ⟨h1, h3⟩ := tb_and h1
        obtain ⟨h1, h4⟩ := tb_and h1
        cases of_decide_eq_true h1
        exact s_cmp o.K o.hu (chE_ok o h3) (chE_ok o h2) (mark_ok h4)
      · cases h
    · cases h
  | .chain o1 o2 a b d, k, X, o, e, h => by
    unfold chE at h
    split at h
    · split at h
      · obtain ⟨h1, h2⟩ := tb_and h
        obtain ⟨h1, h3⟩ := tb_and h1
        obtain ⟨h1, h4⟩ := tb_and h1
        obtain ⟨h1, h5⟩ := tb_and h1
        obtain ⟨h1, h6⟩ := tb_and h1
        cases of_decide_eq_true h1
        cases of_decide_eq_true h6
        exact s_chain o.K o.hu (chE_ok o h4) (chE_ok o h3) (chE_ok o h2) (by unfold lastMarks; unfold lastMarks; exact mark_ok h5)
      · cases h
    · cases h
  | .and a b, k, X, o, e, h => by
    unfold chE at h
    split at h
    · split at h
      · obtain ⟨h1, h2⟩ := tb_and h
        exact s_and (chE_ok o h1) (pe_one (chE_ok o h2))
      · obtain ⟨h1, h2⟩ := tb_and h
        exact s_and (chE_ok o h1) (chE_ok o h2)
      · cases h
    · cases h
  | .or a b, k, X, o, e, h => by
    unfold chE at h
    split at h
    · split at h
      · obtain ⟨h1, h2⟩ := tb_and h
        exact s_or (chE_ok o h1) (pe_one (chE_ok o h2))
      · obtain ⟨h1, h2⟩ := tb_and h
        exact s_or (chE_ok o h1) (chE_ok o h2)
      · cases h
    · cases h
  | .not a, k, X, o, e, h => by
    unfold chE at h
    split at h
    · obtain ⟨h1, h2⟩ := tb_and h
      cases of_decide_eq_true h1
      exact s_not (chE_ok o h2)
    · cases h
  | .ife t a b, k, X, o, e, h => by
    unfold chE at h
    split at h
    · obtain ⟨h1, h2⟩ := tb_and h
      obtain ⟨h1, h3⟩ := tb_and h1
      exact s_ife (chT_ok o h1) (chE_ok o h3) (chE_ok o h2)
    · cases h
  | .tup es, k, X, o, e, h => by
    unfold chE at h
    split at h
    · exact s_tup (chX_ok o h)
    · cases h
  | .lst es, k, X, o, e, h => by
    unfold chE at h
    split at h
    · exact s_lst (chX_ok o h)
    · cases h
  | .call f es, k, X, o, e, h => by
    unfold chE at h
    split at h
    · rename_i x p xs pos
      obtain ⟨h1, h2⟩ := tb_and h
      obtain ⟨h1, h3⟩ := tb_and h1
      obtain ⟨h1, h4⟩ := tb_and h1
      obtain ⟨hf, h4⟩ := o.gf h4
      obtain ⟨fa, fd, ps, kk, F, hr, hm, hk, hb⟩ := o.call hf f x (of_decide_eq_true h1)
      have F := cr_fn F (o.full hf) hr hb passL
      have pa := chL_ok o h2
      have st := chL_star h2
      refine s_call (E := fun _ => E0) ?_
      cases xs with
      | nil => 
        have en : es = .nil := by
          cases es with
          | nil => rfl
          | cons _ _ => unfold chL at h2; cases h2
        subst en
        exact pe_imp (pe_nameU0 F (o.gl h4) hm hk (ok_debug h3)) fun σ H Q q => tL_nil q
      | cons y xs =>
        rw [List.all_cons] at st
        obtain ⟨s1, s2⟩ := tb_and st
        exact pe_imp (pe_nameU F (o.gl h4) hm hk pa (ok_debug h3) (star_cons s1) (back_any s2)) fun σ H Q q => callU q
    · cases h
  | .frz a, k, X, o, e, h => by
    unfold chE at h
    exact s_frz (chE_ok o h)
  | .mk ci es, k, X, o, e, h => by
    unfold chE at h
    split at h
    · rename_i x p xs pos
      obtain ⟨h1, h2⟩ := tb_and h
      obtain ⟨h1, h3⟩ := tb_and h1
      obtain ⟨h1, h4⟩ := tb_and h1
      obtain ⟨h1, h5⟩ := tb_and h1
      obtain ⟨kc, ek⟩ := Option.isSome_iff_exists.mp h5
      obtain ⟨hf, h4⟩ := o.gf h4
      obtain ⟨C, fI, fd, ps, j, hC, M, F, hr, hm, hb⟩ := o.make (gl_calm h4) ci x kc (of_decide_eq_true h1) ek
      have F := cr_mk M (F hf) (o.full hf) hr hb passL
      have pa := chL_ok o h2
      have st := chL_star h2
      refine s_mk (E := fun _ => E0) hC ek ?_
      cases xs with
      | nil => 
        have en : es = .nil := by
          cases es with
          | nil => rfl
          | cons _ _ => unfold chL at h2; cases h2
        subst en
        exact pe_imp (pe_nameU0 F (o.gl h4) hm M.kp (ok_debug h3)) fun σ H Q q => tL_nil q
      | cons y xs =>
        rw [List.all_cons] at st
        obtain ⟨s1, s2⟩ := tb_and st
        exact pe_imp (pe_nameU F (o.gl h4) hm M.kp pa (ok_debug h3) (star_cons s1) (back_any s2)) fun σ H Q q => makeU q
    · cases h
  | .blt f es, k, X, o, e, h => by
    unfold chE at h
    split at h
    · rename_i x p y xs pos
      obtain ⟨h1, h2⟩ := tb_and h
      obtain ⟨h1, h3⟩ := tb_and h1
      obtain ⟨h1, h4⟩ := tb_and h1
      cases of_decide_eq_true h1
      have pa := chL_ok o h2
      have st := chL_star h2
      rw [List.all_cons] at st
      obtain ⟨s1, s2⟩ := tb_and st
      have h5 : isGl k f.name = true ∧ (f = .repr → X.A.guards = some []) := by
        by_cases z : f = .repr
        · rw [if_pos z] at h4
          exact ⟨(o.gf h4).2, fun _ => o.full (o.gf h4).1⟩
        · rw [if_neg z] at h4
          exact ⟨h4, fun y => absurd y z⟩
      exact s_blt (t := tL c (tb.G.at cur) cl es) (pe_blt (blt_ok o.K (o.calm (gl_calm h5.1)) o.hu f h5.2) (o.gl h5.1) (o.blt _ (blt_in f)) pa s1 s2)
    · cases h
  | .um m ob es, k, X, o, e, h => by
    unfold chE at h
    split at h
    · rename_i eo x apos xs pos
      obtain ⟨h1, h2⟩ := tb_and h
      obtain ⟨h1, h3⟩ := tb_and h1
      obtain ⟨h1, h4⟩ := tb_and h1
      obtain ⟨h1, h5⟩ := tb_and h1
      obtain ⟨h1, h6⟩ := tb_and h1
      obtain ⟨hfu, h6⟩ := tb_and h6
      have ex := of_decide_eq_true h1
      have pa := chL_ok o h2
      have st := chL_star h2
      have po := chE_ok o h3
      have ml := meth_form (m := x) (apos := apos) (pos := pos) (env := X.env) h6 st (of_decide_eq_true h5) h4
      refine s_um (E := fun _ => E0) (by rw [o.attrs]; exact ex) fun ci kc f hk hf => ?_
      obtain ⟨C, fa, fd, ps, j, hC, hcl, hme, F, hr, hb⟩ := o.meth hfu ci kc m x f hk hf ex
      have F := cr_fn F (o.full hfu) hr hb passL
      refine ⟨C, hC, ?_⟩
      cases xs with
      | nil => 
        have en : es = .nil := by
          cases es with
          | nil => rfl
          | cons _ _ => unfold chL at h2; cases h2
        subst en
        refine pe_imp (pe_attrU0 po hcl hme F ml) fun σ H Q q => ?_
        refine tE_mono q fun x H1 q1 => ?_
        obtain ⟨a, dx, fs, e1, e2, e3, q2⟩ := q1
        exact ⟨a, dx, fs, e1, e2, e3, tL_nil q2⟩
      | cons y xs =>
        rw [List.all_cons] at st
        obtain ⟨s1, s2⟩ := tb_and st
        exact pe_imp (pe_attrU po hcl hme F pa (star_cons s1) (back_any s2) ml) fun σ H Q q => methU q
    · cases h
  | .bm m ob es, k, X, o, e, h => by
    unfold chE at h
    split at h
    · rename_i eo x apos xs pos
      obtain ⟨h1, h2⟩ := tb_and h
      obtain ⟨h1, h3⟩ := tb_and h1
      obtain ⟨h1, h4⟩ := tb_and h1
      obtain ⟨h1, h5⟩ := tb_and h1
      obtain ⟨h1, h6⟩ := tb_and h1
      obtain ⟨h1, h7⟩ := tb_and h1
      cases of_decide_eq_true h1
      have pa := chX_ok o h3
      have st := chX_star h3
      have po := chE_ok o h4
      cases xs with
      | nil =>
        cases m with
        | pop0 =>
          have en : es = .nil := by
            cases es with
            | nil => rfl
            | cons _ _ => unfold chX at h3; cases h3
          subst en
          exact s_bm0 (pe_bm0 PySem.F.plainAttrs_list (bm_ty .pop0) (bm_des .pop0) (bm_ok .pop0) po (base_ok h7) h5)
        | _ => cases h2
      | cons y xs =>
        have st' := st
        rw [List.all_cons] at st
        obtain ⟨s1, s2⟩ := tb_and st
        exact s_bm (pe_bm PySem.F.plainAttrs_list (bm_ty m) (bm_des m) (bm_ok m) po pa (base_ok h7) (back_few st' (of_decide_eq_true h6)) h5 (star_cons s1) (back_any s2))
    · cases h
  | .idx a b, k, X, o, e, h => by
    unfold chE at h
    split at h
    · obtain ⟨h1, h2⟩ := tb_and h
      obtain ⟨h1, h3⟩ := tb_and h1
      exact s_idx o.K o.hu (chE_ok o h3) (chE_ok o h2) (ix_ok h1)
    · cases h
  | .slc a lo hi, k, X, o, e, h => by
    unfold chE at h
    split at h
    · obtain ⟨h1, h2⟩ := tb_and h
      obtain ⟨h1, h3⟩ := tb_and h1
      refine s_slc o.K (chE_ok o h1) ?_ ?_
      · split at h3
        · exact po_non h3
        · obtain ⟨h4, h5⟩ := tb_and h3
          exact po_ce (by simpa using h4) (chE_ok o h5)
      · split at h2
        · exact po_non h2
        · obtain ⟨h4, h5⟩ := tb_and h2
          exact po_ce (by simpa using h4) (chE_ok o h5)
    · cases h
  | .fld a f, k, X, o, e, h => by
    unfold chE at h
    split at h
    · obtain ⟨h1, h2⟩ := tb_and h
      obtain ⟨h1, h3⟩ := tb_and h1
      have ex := of_decide_eq_true h1
      exact s_fld o.K (by rw [o.attrs]; exact ex) (o.fld _ _ ex) (chE_ok o h2) (base_ok h3)
    · cases h
  | .lc own tg it t elt, k, X, o, e, h => by
    unfold chE at h
    split at h
    · rename_i ee tgt iter ifs az scope pos
      obtain ⟨h, h8⟩ := tb_and h
      obtain ⟨h, h7⟩ := tb_and h
      obtain ⟨h, h6⟩ := tb_and h
      obtain ⟨h, h5⟩ := tb_and h
      obtain ⟨h, h4⟩ := tb_and h
      obtain ⟨h, h3⟩ := tb_and h
      obtain ⟨h1, h2⟩ := tb_and h
      obtain ⟨hcm, h1⟩ := tb_and h1
      cases of_decide_eq_true h1
      have hb := blk_ok o h2
      have ob : ∀ (s : Shared) (H : Hp) (C : Addr) (cc : List (Str × Addr)) (fp : List Addr), OkX c tb cl cur (blk1 k scope) (X.blk s H scope (compEnvC scope cc C X.env) fp) := fun s H C cc fp => o.blk hcm hb.kind s H C cc fp
      have hi := chI_ok o (tg := tgt) h5
      have := s_lc (own := ownOf k own) (tgt := tg) (it := it) (t := t) (ce := elt) (G := tb.G.at cur) (cl := cl) (c := c) (fun i hi => by
          rw [own_snd]
          have := List.all_eq_true.mp h3 i hi
          simpa using this)
        (pe_lc (X := X) (pos := pos) (o.calm hcm) (by rw [o.N]; exact o.nd) hi hb (fun s H C cc fp => tgE_ok (ob s H C cc fp) h6) (fun s H C cc fp => chIf_ok h7 (fun x hx => chT_ok (ob s H C cc fp) hx)) (fun s H C cc fp => chE_ok (ob s H C cc fp) h8) (folded_ok h4))
      rw [own_snd] at this
      exact this
    · cases h
  | .lrng it, k, X, o, e, h => by
    unfold chE at h
    split at h
    · rename_i x p y pos
      obtain ⟨h1, h2⟩ := tb_and h
      obtain ⟨h1, h3⟩ := tb_and h1
      obtain ⟨h1, h4⟩ := tb_and h1
      cases of_decide_eq_true h1
      obtain ⟨hit, pr, sy⟩ := chR_ok o h3 h2
      exact s_lrng hit (pe_listRg (o.calm (gl_calm h4)) (o.gl h4) (o.blt _ (by decide +kernel)) pr (star_cons sy))
    · cases h
  | .rev a, k, X, o, e, h => by
    unfold chE at h
    split at h
    · obtain ⟨h1, h2⟩ := tb_and h
      split at h2
      · cases of_decide_eq_true h2
        exact s_rev o.K (chE_ok o h1) (po_ce rfl (s_un (s_k pe_int fun Z => rfl)))
      · cases h2
    · cases h
  | .dct t, k, X, o, e, h => by
    unfold chE at h
    split at h
    · cases t with
      | true => exact s_dct true pe_dnewT
      | false => exact s_dct false pe_dnewK
    · cases h
  | .isE ci a, k, X, o, e, h => by
    unfold chE at h
    split at h
    · rename_i x p ea y py pos
      obtain ⟨h, h7⟩ := tb_and h
      obtain ⟨h, h6⟩ := tb_and h
      obtain ⟨h, h5⟩ := tb_and h
      obtain ⟨h, h4⟩ := tb_and h
      obtain ⟨h, h3⟩ := tb_and h
      obtain ⟨h1, h2⟩ := tb_and h
      cases of_decide_eq_true h1
      have pa := chE_ok o h7
      have ny : noStar (.Name y py) = true := rfl
      cases hcur : cur with
      | none =>
        refine ⟨fun pins s0 σ H Q I q => ?_⟩
        obtain ⟨p, F, Z, τ, A, r, τ', s, e, kk⟩ := q
        unfold evE at e
        split at e
        · unfold curX at e
          cases e
        · cases e
      | some nx =>
        obtain ⟨N, xd⟩ := nx
        obtain ⟨_, ad, C, oe, d, cx⟩ := o.cur N xd hcur
        subst hcur
        obtain ⟨ec, e1, T, kV, kO⟩ := o.exc.xcl _ _ cx.cls
        have s1 := star_cons (es := [.Name y py]) (env := X.env) h3
        have s2 := star_cons (es := []) (env := X.env) ny
        have s3 : (backTo pos (starEach [.Name y py] X.env)).any (·.1) = false := back_any (es := [.Name y py]) (by rw [List.all_cons, ny]; rfl)
        cases ci with
        | none =>
          cases of_decide_eq_true h6
          exact s_isE (cv := .type "ValueError") (v := .ty "ValueError") T cx (o.gn h2) (o.blt _ (by decide +kernel)) pa (pe_bltn (o.gn h4) o.exc.noVE (by decide +kernel) rfl (by decide +kernel) (by decide +kernel)) (fun u z => z) (fun b z => by cases z; exact kV) s1 s2 s3
        | some j =>
          obtain ⟨D, hD, hm⟩ := o.exc.name j y (of_decide_eq_true h6)
          refine s_isE (cv := .ref D) (v := .ref D) T cx (o.gn h2) (o.blt _ (by decide +kernel)) pa (pe_glob (o.gn h4) hm rfl (ok_debug h5)) (fun u z => z) (fun b z => ?_) s1 s2 s3
          unfold isX at z
          have e1' : (tb.G.at (some (N, xd))).exc.lookup xd.1 = some ec := e1
          rw [e1'] at z
          cases z
          exact (kO j D hD).1
    · cases h
  | .eF a f, k, X, o, e, h => by
    unfold chE at h
    split at h
    · rename_i ea x pos
      obtain ⟨h, h4⟩ := tb_and h
      obtain ⟨h, h3⟩ := tb_and h
      obtain ⟨h1, h2⟩ := tb_and h
      have ex := of_decide_eq_true h1
      have pa := chE_ok o h4
      cases hcur : cur with
      | none =>
        refine ⟨fun pins s0 σ H Q I q => ?_⟩
        obtain ⟨p, F, Z, τ, A, r, τ', s, e, kk⟩ := q
        unfold evE at e
        split at e
        · unfold curX at e
          cases e
        · cases e
      | some nx =>
        obtain ⟨N, xd⟩ := nx
        obtain ⟨_, ad, C, oe, d, cx⟩ := o.cur N xd hcur
        subst hcur
        obtain ⟨ec, e1, T, kV, kO⟩ := o.exc.xcl _ _ cx.cls
        exact s_eF T (o.exc.xno _ _ _ _ cx.cls h2 ex) cx (by rw [o.attrs]; exact ex) pa (base_ok h3)
    · cases h
termination_by structural x => x
theorem chX_ok : ∀ {es : CEs} {k : Bk} {X : Cx} (o : OkX c tb cl cur k X) {xs : List Expr}, chX tb k es xs = true → PA X xs (tX c (tb.G.at cur) cl es)
  | .nil, k, X, o, xs, h => by
    unfold chX at h
    cases xs with
    | nil => exact x_nil
    | cons _ _ => cases h
  | .cons e r, k, X, o, xs, h => by
    unfold chX at h
    cases xs with
    | nil => cases h
    | cons x xs =>
      obtain ⟨h1, h2⟩ := tb_and h
      obtain ⟨h1, h3⟩ := tb_and h1
      exact x_cons (chE_ok o h3) (chX_ok o h2) (star_cons h1)
termination_by structural x => x
theorem chL_ok : ∀ {es : CEs} {k : Bk} {X : Cx} (o : OkX c tb cl cur k X) {xs : List Expr}, chL tb k es xs = true → PA X xs (tL c (tb.G.at cur) cl es)
  | .nil, k, X, o, xs, h => by
    unfold chL at h
    cases xs with
    | nil => exact l_nil
    | cons _ _ => cases h
  | .cons e r, k, X, o, xs, h => by
    unfold chL at h
    cases xs with
    | nil => cases h
    | cons x xs =>
      obtain ⟨h1, h2⟩ := tb_and h
      obtain ⟨h1, h3⟩ := tb_and h1
      exact l_cons (chE_ok o h3) (chL_ok o h2) (star_cons h1)
termination_by structural x => x
theorem chMk_ok : ∀ {ce : CE} {k : Bk} {X : Cx} (o : OkX c tb cl cur k X) {ea : Expr} {ops : List CmpOp} {es : List Expr} {pos : Pos}, chE tb k ce (.Compare ea ops es pos) = true → isMk ce = true → PT X (.Compare ea ops es pos) (tT c (tb.G.at cur) cl (.e ce))
  | .cmp op a b, k, X, o, ea, ops, es, pos, h1, h2 => by
    obtain ⟨eb, rfl, rfl, h3, h4, h5⟩ := ch_cmp h1
    exact t_cmp o.K o.hu (chE_ok o h4) (chE_ok o h5) (mark_ok h3)
  | .chain o1 o2 a b d, k, X, o, ea, ops, es, pos, h1, h2 => by
    obtain ⟨eb, ec, rfl, rfl, h3, h4, h5, h6⟩ := ch_chain h1
    exact t_chain o.K o.hu (chE_ok o h4) (chE_ok o h5) (chE_ok o h6) (by unfold lastMarks; unfold lastMarks; exact mark_ok h3)
  | .k _, _, _, _, _, _, _, _, _, h2 => (noBk h2).elim
  | .s _, _, _, _, _, _, _, _, _, h2 => (noBk h2).elim
  | .g _, _, _, _, _, _, _, _, _, h2 => (noBk h2).elim
  | .bin _ _ _, _, _, _, _, _, _, _, _, h2 => (noBk h2).elim
  | .un _ _, _, _, _, _, _, _, _, _, h2 => (noBk h2).elim
  | .and _ _, _, _, _, _, _, _, _, _, h2 => (noBk h2).elim
  | .or _ _, _, _, _, _, _, _, _, _, h2 => (noBk h2).elim
  | .not _, _, _, _, _, _, _, _, _, h2 => (noBk h2).elim
  | .ife _ _ _, _, _, _, _, _, _, _, _, h2 => (noBk h2).elim
  | .tup _, _, _, _, _, _, _, _, _, h2 => (noBk h2).elim
  | .lst _, _, _, _, _, _, _, _, _, h2 => (noBk h2).elim
  | .call _ _, _, _, _, _, _, _, _, _, h2 => (noBk h2).elim
  | .mk _ _, _, _, _, _, _, _, _, _, h2 => (noBk h2).elim
  | .blt _ _, _, _, _, _, _, _, _, _, h2 => (noBk h2).elim
  | .um _ _ _, _, _, _, _, _, _, _, _, h2 => (noBk h2).elim
  | .bm _ _ _, _, _, _, _, _, _, _, _, h2 => (noBk h2).elim
  | .idx _ _, _, _, _, _, _, _, _, _, h2 => (noBk h2).elim
  | .slc _ _ _, _, _, _, _, _, _, _, _, h2 => (noBk h2).elim
  | .fld _ _, _, _, _, _, _, _, _, _, h2 => (noBk h2).elim
  | .lc _ _ _ _ _, _, _, _, _, _, _, _, _, h2 => (noBk h2).elim
  | .lrng _, _, _, _, _, _, _, _, _, h2 => (noBk h2).elim
  | .rev _, _, _, _, _, _, _, _, _, h2 => (noBk h2).elim
  | .dct _, _, _, _, _, _, _, _, _, h2 => (noBk h2).elim
  | .frz _, _, _, _, _, _, _, _, _, h2 => (noBk h2).elim
  | .isE _ _, _, _, _, _, _, _, _, _, h2 => (noBk h2).elim
  | .eF _ _, _, _, _, _, _, _, _, _, h2 => (noBk h2).elim
termination_by structural x => x
theorem chT_ok : ∀ {t : CT} {k : Bk} {X : Cx} (o : OkX c tb cl cur k X) {e : Expr}, chT tb k t e = true → PT X e (tT c (tb.G.at cur) cl t)
  | .yes, k, X, o, e, h => by unfold chT at h; cases h
  | .e ce, k, X, o, e, h => by
    unfold chT at h
    split at h
    · obtain ⟨h1, h2⟩ := tb_and h
      exact chMk_ok o h1 h2
    · obtain ⟨h1, h2⟩ := tb_and h
      exact t_e (chE_ok o h2) (test_ok h1)
  | .and a b, k, X, o, e, h => by
    unfold chT at h
    split at h
    · split at h
      · obtain ⟨h1, h2⟩ := tb_and h
        exact (t_and (chT_ok o h1) (pw_and1 (chT_ok o h2))).pt
      · obtain ⟨h1, h2⟩ := tb_and h
        exact (t_and (chT_ok o h1) (pw_bool (chT_ok o h2))).pt
      · cases h
    · cases h
  | .or a b, k, X, o, e, h => by
    unfold chT at h
    split at h
    · split at h
      · obtain ⟨h1, h2⟩ := tb_and h
        exact (t_or (chT_ok o h1) (pw_or1 (chT_ok o h2))).pt
      · obtain ⟨h1, h2⟩ := tb_and h
        exact (t_or (chT_ok o h1) (pw_bool (chT_ok o h2))).pt
      · cases h
    · cases h
  | .not a, k, X, o, e, h => by
    unfold chT at h
    split at h
    · obtain ⟨h1, h2⟩ := tb_and h
      cases of_decide_eq_true h1
      exact t_not (chT_ok o h2)
    · cases h
termination_by structural x => x
theorem chI_ok : ∀ {it : CI} {k : Bk} {X : Cx} (o : OkX c tb cl cur k X) {tg e : Expr}, chI tb k it tg e = true → PI X tg e (tI c (tb.G.at cur) cl it)
  | .e ce, k, X, o, tg, e, h => by
    unfold chI at h
    exact i_e o.K (chE_ok o h)
  | .rng1 a, k, X, o, tg, e, h => by
    unfold chI at h
    split at h
    · obtain ⟨h1, h2⟩ := tb_and h
      obtain ⟨h1, h3⟩ := tb_and h1
      obtain ⟨h1, h4⟩ := tb_and h1
      cases of_decide_eq_true h1
      exact i_rng1 (pi_range1 (o.gl h4) (o.blt _ (by decide +kernel)) (pa_cons (chE_ok o h2) pa_nil (star_cons h3)) (star_cons h3))
    · cases h
  | .rng2 a b, k, X, o, tg, e, h => by
    unfold chI at h
    split at h
    · obtain ⟨h1, h2⟩ := tb_and h
      obtain ⟨h1, h3⟩ := tb_and h1
      obtain ⟨h1, h4⟩ := tb_and h1
      obtain ⟨h1, h5⟩ := tb_and h1
      obtain ⟨h1, h6⟩ := tb_and h1
      cases of_decide_eq_true h1
      exact i_rng2 (pi_range2 (o.gl h6) (o.blt _ (by decide +kernel)) (pa_cons (chE_ok o h3) (pa_cons (chE_ok o h2) pa_nil (star_cons h4)) (star_cons h5)) (by rw [star_cons h5, star_cons h4]; rfl) (star_cons h4))
    · cases h
  | .enum a, k, X, o, tg, e, h => by
    unfold chI at h
    split at h
    · obtain ⟨h1, h2⟩ := tb_and h
      obtain ⟨h1, h3⟩ := tb_and h1
      obtain ⟨h1, h4⟩ := tb_and h1
      cases of_decide_eq_true h1
      exact i_enum o.K (pi_enumA (o.gl h4) (o.blt _ (by decide +kernel)) (pa_cons (chE_ok o h2) pa_nil (star_cons h3)) (star_cons h3))
    · cases h
  | .zip a b, k, X, o, tg, e, h => by
    unfold chI at h
    split at h
    · obtain ⟨h1, h2⟩ := tb_and h
      obtain ⟨h1, h3⟩ := tb_and h1
      obtain ⟨h1, h4⟩ := tb_and h1
      obtain ⟨h1, h5⟩ := tb_and h1
      obtain ⟨h1, h6⟩ := tb_and h1
      cases of_decide_eq_true h1
      exact i_zip o.K (RZ.pi_zipA (o.gl h6) (o.blt _ (by decide +kernel)) (pa_cons (chE_ok o h3) (pa_cons (chE_ok o h2) pa_nil (star_cons h4)) (star_cons h5)) (star_cons h5) (back_any (by rw [List.all_cons, h4]; rfl)))
    · cases h
termination_by structural x => x
theorem chR_ok : ∀ {it : CI} {k : Bk} {X : Cx} (o : OkX c tb cl cur k X) {tg e : Expr}, tagRng it = true → chI tb k it tg e = true → ((∃ a, it = .rng1 a) ∨ ∃ a b, it = .rng2 a b) ∧ PRg X e (tR c (tb.G.at cur) cl it) ∧ noStar e = true
  | .rng1 a, k, X, o, tg, e, hr, h => by
    unfold chI at h
    split at h
    · obtain ⟨h1, h2⟩ := tb_and h
      obtain ⟨h1, h3⟩ := tb_and h1
      obtain ⟨h1, h4⟩ := tb_and h1
      cases of_decide_eq_true h1
      exact ⟨.inl ⟨a, rfl⟩, prg_1 (o.gl h4) (o.blt _ (by decide +kernel)) (chE_ok o h2) (star_cons h3), rfl⟩
    · cases h
  | .rng2 a b, k, X, o, tg, e, hr, h => by
    unfold chI at h
    split at h
    · obtain ⟨h1, h2⟩ := tb_and h
      obtain ⟨h1, h3⟩ := tb_and h1
      obtain ⟨h1, h4⟩ := tb_and h1
      obtain ⟨h1, h5⟩ := tb_and h1
      obtain ⟨h1, h6⟩ := tb_and h1
      cases of_decide_eq_true h1
      exact ⟨.inr ⟨a, b, rfl⟩, prg_2 (o.gl h6) (o.blt _ (by decide +kernel)) (chE_ok o h3) (chE_ok o h2) (star_cons h5) (star_cons h4) (back_any (by rw [List.all_cons, h4]; rfl)), rfl⟩
    · cases h
  | .e _, k, X, o, tg, e, hr, h => by cases hr
  | .enum _, k, X, o, tg, e, hr, h => by cases hr
  | .zip _ _, k, X, o, tg, e, hr, h => by cases hr
termination_by structural x => x
end
end
end Ev

/-! Ev, part N: a text is held against its evaluation's code: statements. -/
namespace Ev
open PySem L2 PyProof.Rows
noncomputable def noComp : Expr → Bool
  | .ListComp _ _ _ _ => false
  | .SetComp _ _ _ _ => false
  | .DictComp _ _ _ _ _ => false
  | _ => true
theorem swaps_no {v : Expr} {t : Option Expr} {line : Nat} {env : Env} (h : noComp v = true) : swapsWith v t line env = pure false := by
  cases v <;> first | rfl | (cases h)
/-- whether a comprehension stores straight into its name -/
noncomputable def swC (k : Bk) (x : Str) (py : Pos) (scope : Scope) (pos : Pos) : Bool := k.nm.lookup x == some NameKind.local && py.line == pos.line && !(scope.names.any fun (n, kd) => n == x && (kd == .local || kd == .cell))
theorem swaps_lc {k : Bk} {X : Cx} {c : Cn} {tb : Tb} {cl : Caller} {cur : Option (Nat × XD)} (o : OkX c tb cl cur k X) {ee : Expr} {gs : List Comprehension} {scope : Scope} {pos py : Pos} {x : Str} {line : Nat} : swapsWith (.ListComp ee gs scope pos) (some (.Name x py)) line X.env = pure (swC k x py scope pos) := by
  have hb : X.env.blockKind = .function := by unfold Env.blockKind; rw [o.kind]; rfl
  have e : (ScopeKind.function == ScopeKind.function) = true := rfl
  have hk : X.env.kindOf x = k.nm.lookup x := by rw [← o.nm]; rfl
  unfold swapsWith swC
  simp only [hb, hk, e, Bool.true_and, Expr.pos]
/-- whether stores of a tuple of displays come in order -/
noncomputable def inOrder (k : Bk) (t v : Expr) : Bool := match t, v with
  | .Tuple ts _ _, .Tuple vs _ _ => vs.all (foldedForSure 8) || !(ts.all fun | .Name x _ => k.nm.lookup x == some NameKind.local | _ => false)
  | .Tuple _ _ _, _ => true
  | _, _ => false
theorem filterMap_lt {α β : Type} {f : α → Option β} {p : α → Bool} (h : ∀ a b, f a = some b → p a = true) : ∀ {l : List α}, l.all p = false → (l.filterMap f).length < l.length
  | [], e => by cases e
  | a :: l, e => by
    rw [List.all_cons] at e
    cases q : f a with
    | none =>
      rw [List.filterMap_cons_none q, List.length_cons]
      exact Nat.lt_succ_of_le (List.length_filterMap_le _ _)
    | some b =>
      rw [List.filterMap_cons_some q, List.length_cons, List.length_cons]
      rw [h a b q, Bool.true_and] at e
      exact Nat.succ_lt_succ (filterMap_lt h e)
theorem stores_in {k : Bk} {X : Cx} {c : Cn} {tb : Tb} {cl : Caller} {cur : Option (Nat × XD)} (o : OkX c tb cl cur k X) {t v : Expr} (h : inOrder k t v = true) : swappedStores [t] v X.env = pure none := by
  unfold inOrder at h
  split at h
  · rename_i ts n1 p1 vs n2 p2
    unfold swappedStores
    dsimp only
    split
    · rfl
    · split
      · rfl
      · split
        · rfl
        · rename_i a1 a2 a3
          split
          · rfl
          · rename_i a4
            rcases Bool.or_eq_true_iff.mp h with z | z
            · exact absurd z a4
            · exfalso
              apply a3
              have hl := filterMap_lt (f := fun (e : Expr) => match e with
                | .Name id pos => if (X.env.kindOf id == some NameKind.local && pos.line == (ts.head?.map (·.pos.line)).getD 0) = true then some id else none
                | _ => none) (p := fun | .Name x _ => k.nm.lookup x == some NameKind.local | _ => false) (fun a b e => by
                  split at e
                  · rename_i id pos
                    split at e
                    · rename_i hc
                      have := (tb_and hc).1
                      have hk : X.env.kindOf id = k.nm.lookup id := by rw [← o.nm]; rfl
                      rw [hk] at this
                      exact this
                    · cases e
                  · cases e) (l := ts) (by simpa using z)
              have ne : ((ts.filterMap fun (e : Expr) => match e with
                | .Name id pos => if (X.env.kindOf id == some NameKind.local && pos.line == (ts.head?.map (·.pos.line)).getD 0) = true then some id else none
                | _ => none).length != ts.length) = true := by
                rw [bne_iff_ne]
                omega
              exact Bool.or_eq_true_iff.mpr (.inl ne)
  · rename_i ts n1 p1 hv
    cases v with
    | Tuple vs n p => exact absurd rfl (hv vs n p)
    | _ => rfl
  · cases h
/-- a comprehension's parts, held -/
theorem ch_lc {tb : Tb} {k : Bk} {own : List Nat} {tg : Tg} {it : CI} {t : CT} {elt : CE} {ee : Expr} {gs : List Comprehension} {scope : Scope} {pos : Pos} (h : chE tb k (.lc own tg it t elt) (.ListComp ee gs scope pos) = true) :
    ∃ tgt iter ifs, gs = [⟨tgt, iter, ifs, 0⟩] ∧ k.calm = true ∧ blkC k.N ⟨.function, k.nm, false, false, []⟩ scope (ownOf k own) = true ∧ (∀ i ∈ tg.slots, i ∈ own) ∧ noMark iter = true ∧ chI tb k it tgt iter = true ∧ tgE (blk1 k scope) tg tgt = true ∧
      (match ifs with
          | [] => isYes t
          | [x] => !isYes t && chT tb (blk1 k scope) t x
          | _ => false) = true ∧ chE tb (blk1 k scope) elt ee = true := by
  unfold chE at h
  split at h
  · rename_i heq
    cases heq
    obtain ⟨h, h8⟩ := tb_and h
    obtain ⟨h, h7⟩ := tb_and h
    obtain ⟨h, h6⟩ := tb_and h
    obtain ⟨h, h5⟩ := tb_and h
    obtain ⟨h, h4⟩ := tb_and h
    obtain ⟨h, h3⟩ := tb_and h
    obtain ⟨h1, h2⟩ := tb_and h
    obtain ⟨hcm, h1⟩ := tb_and h1
    cases of_decide_eq_true h1
    exact ⟨_, _, _, rfl, hcm, h2, fun i hi => by simpa using List.all_eq_true.mp h3 i hi, h4, h5, h6, h7, h8⟩
  · cases h
noncomputable def lcE : CE → Bool
  | .lc _ _ _ _ _ => true
  | .frz (.lc _ _ _ _ _) => true
  | _ => false
/-- sorted(x), x a dict: the code says sorted(list(x)) -/
noncomputable def chSrt (tb : Tb) (k : Bk) (ce : CE) (e : Expr) : Bool := match ce, e with
  | .blt .sorted (.cons (.blt .list (.cons a .nil)) .nil), .Call (.Name x _) [y] [] _ => decide (x = "sorted") && isGl k "sorted" && noStar y && chE tb k a y
  | _, _ => false
theorem chSrt_ok {c : Cn} {tb : Tb} {cl : Caller} {cur : Option (Nat × XD)} {k : Bk} {X : Cx} (o : OkX c tb cl cur k X) {ce : CE} {e : Expr} (h : chSrt tb k ce e = true) : PE X e (tE c (tb.G.at cur) cl ce) := by
  unfold chSrt at h
  split at h
  · rename_i a x p y pos
    obtain ⟨h1, h2⟩ := tb_and h
    obtain ⟨h1, h3⟩ := tb_and h1
    obtain ⟨h1, h4⟩ := tb_and h1
    cases of_decide_eq_true h1
    have pa : PA X [y] (tL c (tb.G.at cur) cl (.cons a .nil)) := l_cons (chE_ok o h2) l_nil (star_cons h3)
    have hu := o.hu
    exact s_srtx (pe_callB (x := "sorted") (sortedX_ok o.K (o.calm (gl_calm h4)) (by omega)) (o.gl h4) (o.blt _ (by decide +kernel)) (blt_boot .sorted) pa (by decide +kernel) (by decide +kernel) (star_cons h3) (by rfl))
  · cases h
/-- nothing is raised by its form -/
noncomputable def nrE : CE → Bool
  | .call _ _ => false
  | .mk _ _ => false
  | .um _ _ _ => false
  | .tup _ => false
  | .ife _ _ _ => false
  | .frz a => nrE a
  | _ => true
theorem nrE_ok {G : GS} {cl : Caller} : ∀ {e : CE}, nrE e = true → ∀ p τ, rsE G cl p e τ = none := by
  intro e
  induction e using CE.rec (motive_2 := fun _ => True) (motive_3 := fun _ => True) (motive_4 := fun _ => True) with
  | frz a ih =>
    intro h p τ
    unfold rsE
    exact ih h p τ
  | call _ _ _ => intro h; cases h
  | mk _ _ _ => intro h; cases h
  | um _ _ _ _ _ => intro h; cases h
  | tup _ _ => intro h; cases h
  | ife _ _ _ _ _ _ => intro h; cases h
  | _ => first | trivial | (intro h p τ; unfold rsE; rfl)
mutual
/-- nothing is raised or caught in it by its form -/
noncomputable def ntS : CS → Bool
  | .rse _ _ => false
  | .tryx _ _ => false
  | .ite _ a b => ntSs a && ntSs b
  | .whl _ b => ntSs b
  | .loop _ _ b => ntSs b
  | _ => true
noncomputable def ntSs : CSs → Bool
  | .nil => true
  | .cons s r => ntS s && ntSs r
end
mutual
noncomputable def chS (tb : Tb) (k : Bk) : CS → Stmt → Bool
  | .set i e, s => match s with
    | .Assign [.Name x py] v _ => decide (k.N[i]? = some x) && isLoc k x && chE tb k e v && (match v with
      | .ListComp _ _ sc pv => (lcE e || !swC k x py sc pv) && nrE e
      | _ => noComp v)
    | _ => false
  | .setT tg e, s => match s with
    | .Assign [t] v _ => (match t with | .Tuple _ _ _ => true | _ => false) && inOrder k t v && tgE k tg t && chE tb k e v
    | _ => false
  | .par i j a b, s => match s with
    | .Assign [.Tuple [.Name x px, .Name y py] _ _] (.Tuple [ea, eb] _ _) _ => (k.calm && decide (i ≠ j)) && decide (x ≠ y) && decide (k.N[i]? = some x) && decide (k.N[j]? = some y) && decide (k.nm.lookup x = some .local) && decide (k.nm.lookup y = some .local) && (px.line == py.line)
        && noStar ea && noStar eb && !([ea, eb].all (foldedForSure 8)) && !([ea, eb].all (constantsAlone 8)) && chE tb k a ea && chE tb k b eb
    | _ => false
  | .aug i op e, s => match s with
    | .AugAssign (.Name x _) op' v _ => decide (op = op') && decide (k.N[i]? = some x) && isLoc k x && chE tb k e v
    | _ => false
  | .fset i f e, s => match s with
    | .Assign [.Attribute (.Name x _) y _] v _ => decide (k.N[i]? = some x) && isVis k x && okName x && decide (tb.attrs[f]? = some y) && noComp v && chE tb k e v
    | _ => false
  | .iset i kx e, s => match s with
    | .Assign [.Subscript (.Name x px) sl _] v _ => decide (k.N[i]? = some x) && isVis k x && okName x && plainIx sl && noComp v && chE tb k kx sl && chE tb k e v
    | _ => false
  | .fiset i f kx e, s => match s with
    | .Assign [.Subscript (.Attribute (.Name x px) y py) sl _] v _ => decide (k.N[i]? = some x) && isVis k x && okName x && decide (tb.attrs[f]? = some y) && plainIx sl && noComp v && chE tb k kx sl && chE tb k e v
    | _ => false
  | .bad, _ => true
  | .ex e, s => match s with
    | .Expr v _ => noComp v && chE tb k e v
    | _ => false
  | .ret e, s => match s with
    | .Return (some v) _ => chE tb k e v || chSrt tb k e v
    | _ => false
  | .retN, s => match s with
    | .Return none _ => true
    | _ => false
  | .pass, s => match s with
    | .Pass _ => true
    | _ => false
  | .brk, s => match s with
    | .Break _ => true
    | _ => false
  | .cont, s => match s with
    | .Continue _ => true
    | _ => false
  | .ite t a b, s => match s with
    | .If x xs ys _ => chT tb k t x && chSs tb k a xs && chSs tb k b ys
    | _ => false
  | .whl t b, s => match s with
    | .While x xs [] _ => chT tb k t x && chSs tb k b xs
    | _ => false
  | .loop tg it b, s => match s with
    | .For t iter xs [] _ => (k.calm && noMark iter) && tgE k tg t && chI tb k it t iter && chSs tb k b xs
    | _ => false
  | .rse kk es, s => (tb.G.exc.lookup kk).isNone || match s with
    | .Raise (some (.Call (.Name x _) xs [] _)) none _ => k.full && k.calm && decide (tb.xn.lookup kk = some x) && isGn k x && okName x && chX tb k es xs && decide (xs.length = match (tb.G.exc.lookup kk).bind (·.fld) with | none => 0 | some _ => 1)
    | _ => false
  | .tryx b hs, s => match s with
    | .Try body (h0 :: hds) [] [] _ => k.calm && chSs tb k b body && chHs tb k hs (h0 :: hds)
    | _ => false
noncomputable def chSs (tb : Tb) (k : Bk) : CSs → List Stmt → Bool
  | .nil, ss => ss.isEmpty
  | .cons s r, ss => match ss with
    | x :: xs => chS tb k s x && chSs tb k r xs
    | [] => false
noncomputable def chHs (tb : Tb) (k : Bk) : CHs → List ExceptHandler → Bool
  | .nil, hs => hs.isEmpty
  | .cons c i b r, hs => match hs with
    | .ExceptHandler (some (.Name x _)) nm (b0 :: suite) _ :: rest => decide (tb.xn.lookup c = some x) && isGn k x && okName x && (match i, nm with
        | none, none => true
        | some j, some n => decide (k.N[j]? = some n) && (k.nm.lookup n == some NameKind.local)
        | _, _ => false) && ntSs b && chSs tb { k with full := false, calm := false } b (b0 :: suite) && chHs tb k r rest
    | _ => false
end
section
variable {c : Cn} {tb : Tb} {cl : Caller} {cur : Option (Nat × XD)} {io : List Nat}
theorem assign_ix {o i : Expr} {pos : Pos} {env : Env} (h : plainIx i = true) : ∀ v, assign (.Subscript o i pos) env v = (do
      let ov ← holding [v] (eval o env)
      let iv ← holding [v, ov] (eval i env)
      standAt pos
      holding [v, ov, iv] (setItem ov iv v)
      release [v, ov, iv] []) := by
  intro v
  cases i <;> first | rfl | (cases h)
theorem one_asg {tg : Expr} {env : Env} (h : noStar tg = true) : (assignEach [tg] env).map (·.2) = [assign tg env] := by
  rw [asg_cons h]; rfl
theorem sole_no {t v : Expr} {line : Nat} {env : Env} (h : noComp v = true) : swapsWithSole [t] v line env = pure false := swaps_no h
theorem sole_tup {t v : Expr} {line : Nat} {env : Env} (h : (match t with | .Tuple _ _ _ => true | _ => false) = true) : swapsWithSole [t] v line env = pure false := by
  cases t <;> first | (cases h; done) | (cases v <;> rfl)
theorem stores_no {t v : Expr} {env : Env} (h : (match t with | .Tuple _ _ _ => false | .List _ _ => false | _ => true) = true) : swappedStores [t] v env = pure none := by
  cases t <;> first | rfl | (cases h)
theorem pv_k {k : Bk} {X : Cx} (o : OkX c tb cl cur k X) {i : Nat} {x : Str} {pos : Pos} (h1 : k.N[i]? = some x) (h2 : isVis k x = true) (h3 : okName x = true) : PE X (.Name x pos) (tVar i) := pe_var (by rw [o.N]; exact h1) (o.vis h2) (ok_debug h3) (ok_cd h3)
theorem not_eq {b : Bool} (h : (!b) = true) : b = false := by simpa using h
theorem par_stores {k : Bk} {X : Cx} (o : OkX c tb cl cur k X) {x y : Str} {px py pt pt2 : Pos} {ea eb : Expr} {k1 k2 : Nat} (h1 : k.nm.lookup x = some .local) (h2 : k.nm.lookup y = some .local) (hl : (px.line == py.line) = true) (ne : x ≠ y) (s1 : noStar ea = true) (s2 : noStar eb = true)
    (hf : [ea, eb].all (foldedForSure 8) = false) (hc : [ea, eb].all (constantsAlone 8) = false) : swappedStores [.Tuple [.Name x px, .Name y py] k1 pt] (.Tuple [ea, eb] k2 pt2) X.env = pure (some [x, y]) := by
  have kx : X.env.kindOf x = some .local := by rw [← h1, ← o.nm]; rfl
  have ky : X.env.kindOf y = some .local := by rw [← h2, ← o.nm]; rfl
  have hb : X.env.blockKind = .function := by unfold Env.blockKind; rw [o.kind]; rfl
  have hl' : py.line = px.line := (beq_iff_eq.mp hl).symm
  have nq : (y == x) = false := by simpa using fun z => ne z.symm
  unfold swappedStores
  dsimp only
  split
  · rename_i a
    simp [hb] at a
  · split
    · rename_i a
      obtain ⟨e, he, z⟩ := List.any_eq_true.mp a
      rcases List.mem_cons.mp he with rfl | he
      · cases e <;> first | (cases s1; done) | (cases z; done)
      · rcases List.mem_cons.mp he with rfl | he
        · cases e <;> first | (cases s2; done) | (cases z; done)
        · cases he
    · split
      · rename_i a
        simp [List.filterMap_cons, kx, ky, Expr.pos, hl', List.eraseDups_cons, nq] at a
      · split
        · rename_i a
          rw [hf] at a; cases a
        · split
          · rename_i a
            rw [hc] at a; cases a
          · simp [List.filterMap_cons, kx, ky, Expr.pos, hl']
theorem k_setF {c : Cn} {G : GS} {cl : Caller} {X : Cx} {io : List Nat} {i : Nat} {a : CE} {st : Stmt} (h : PS X st (tS c G cl io (.set i a))) : PS X st (tS c G cl io (.set i (.frz a))) := ps_imp h fun D σ H q => by
  obtain ⟨F, Z, τ, A, fl, s, e, g⟩ := q
  unfold evS at e
  split at e
  · cases e
  rename_i nio
  split at e
  · cases e
  rename_i r τ1 e1
  unfold evE at e1
  split at e1
  · cases e1
  rename_i r0 τ0 e0
  cases e1
  have same : setl r0 = r0 → tS c G cl io (.set i a) D σ H := fun hr => by
    refine ⟨F, Z, τ, A, fl, s, ?_, g⟩
    unfold evS
    rw [if_neg nio, e0]
    rw [hr] at e
    exact e
  cases r0 with
  | d d => exact same rfl
  | pl j f => exact same rfl
  | m m0 =>
    have e' : some (Fl.nx (τ1.set i (some (.v (frz m0))))) = some fl := e
    cases e'
    refine ⟨F, Z, τ, A, .nx (τ1.set i (some m0)), s, ?_, fun σ' H' Z' A' zz st kp => ?_⟩
    · unfold evS
      rw [if_neg nio, e0]
      rfl
    · by_cases hi : i < τ1.length
      · have hs : slotM (τ1.set i (some m0)) i = some m0 := by
          unfold slotM
          rw [List.getElem?_set_self hi]
        obtain ⟨v, hv, _⟩ := st.own i m0 (List.getElem?_set_self hi)
        have he : esc false (τ1.set i (some m0)) (.pl i none) = some (frz m0, τ1.set i (some (.v (frz m0)))) := by
          unfold esc
          simp only [Bool.false_eq_true, if_false]
          unfold getP
          rw [hs]
          simp only [setP, List.set_set]
        obtain ⟨Z2, A2, po, _⟩ := esc_op st (o := .pl i none) hv he
        exact g σ' H' Z2 A2 (zz.trans po.zz) po.st kp
      · rw [List.set_eq_of_length_le (by omega)] at st g
        exact g σ' H' Z' A' zz st kp
mutual
theorem chS_ok : ∀ {s : CS} {k : Bk} {X : Cx} (o : OkX c tb cl cur k X) (np : PassesOwn (model X.prog X.w) X.A X.env X.xe) {st : Stmt}, ntS s = true → chS tb k s st = true → PS X st (tS c (tb.G.at cur) cl io s)
  | .set i e, k, X, o, np, st, n, h => by
    unfold chS at h
    split at h
    · rename_i x py v pos
      obtain ⟨h, h4⟩ := tb_and h
      obtain ⟨h, h3⟩ := tb_and h
      obtain ⟨h1, h2⟩ := tb_and h
      have h1 := of_decide_eq_true h1
      obtain ⟨l1, l2⟩ := o.loc h2
      have plain : swapsWith v (some (.Name x py)) pos.line X.env = pure false → PS X (.Assign [.Name x py] v pos) (tS c (tb.G.at cur) cl io (.set i e)) := fun hs =>
        k_set (ps_set (by rw [o.N]; exact o.nd) (by rw [o.N]; exact h1) l1 (chE_ok o h3) hs l2)
      split at h4
      · rename_i ee gs scope pv _
        obtain ⟨h4, _⟩ := tb_and h4
        by_cases sw : swC k x py scope pv = true
        · have hlc : lcE e = true := by
            rcases Bool.or_eq_true_iff.mp h4 with z | z
            · exact z
            · rw [sw] at z; cases z
          have key : ∀ {own : List Nat} {tg : Tg} {it : CI} {t : CT} {elt : CE}, chE tb k (.lc own tg it t elt) (.ListComp ee gs scope pv) = true → PS X (.Assign [.Name x py] (.ListComp ee gs scope pv) pos) (tS c (tb.G.at cur) cl io (.set i (.lc own tg it t elt))) := by
            intro own tg it t elt h3
            obtain ⟨tgt, iter, ifs, rfl, hcm, h2', h3', h4', h5, h6, h7, h8⟩ := ch_lc h3
            have hb := blk_ok o h2'
            have ob : ∀ (s : Shared) (H : Hp) (C : Addr) (cc : List (Str × Addr)) (fp : List Addr), OkX c tb cl cur (blk1 k scope) (X.blk s H scope (compEnvC scope cc C X.env) fp) := fun s H C cc fp => o.blk hcm hb.kind s H C cc fp
            have hyl : X.env.scope.names.lookup x = some .local := by
              rw [o.nm]
              unfold swC at sw
              exact beq_iff_eq.mp (tb_and (tb_and sw).1).1
            have hi := chI_ok o (tg := tgt) h5
            refine k_set (ps_imp (ps_setLc (X := X) (py := py) (pos := pv) (spos := pos) (i := i) (o.calm hcm) (by rw [o.N]; exact o.nd) (by rw [o.N]; exact h1) hyl (by rw [swaps_lc o, sw]) hi hb (fun s H C cc fp => tgE_ok (ob s H C cc fp) h6) (fun s H C cc fp => chIf_ok h7 (fun x hx => chT_ok (ob s H C cc fp) hx)) (fun s H C cc fp => chE_ok (ob s H C cc fp) h8) (folded_ok h4')) fun D σ H q => ?_)
            obtain ⟨p, F, Z, τ, A, r, τ', s, e, kk⟩ := q
            have := lc_use (own := own) s h3' e kk
            rw [← own_snd k own] at this
            exact this
          cases e with
          | lc own tg it t elt => exact key h3
          | frz a =>
            cases a with
            | lc own tg it t elt => exact k_setF (key h3)
            | _ => cases hlc
          | _ => cases hlc
        · exact plain (by rw [swaps_lc o]; rw [Bool.not_eq_true] at sw; rw [sw])
      · exact plain (swaps_no h4)
    · cases h
  | .setT tg e, k, X, o, np, st, n, h => by
    unfold chS at h
    split at h
    · rename_i t v pos
      obtain ⟨h, h5⟩ := tb_and h
      obtain ⟨h, h4⟩ := tb_and h
      obtain ⟨h1, h2⟩ := tb_and h
      have ns : noStar t = true := by cases t <;> first | rfl | (cases h1)
      exact k_setT (ps_asg (chE_ok o h5) (tgE_ok o h4) (sole_tup h1) (stores_in o h2) (one_asg ns))
    · cases h
  | .par i j a b, k, X, o, np, st, n, h => by
    unfold chS at h
    split at h
    · obtain ⟨h, h13⟩ := tb_and h
      obtain ⟨h, h12⟩ := tb_and h
      obtain ⟨h, h11⟩ := tb_and h
      obtain ⟨h, h10⟩ := tb_and h
      obtain ⟨h, h9⟩ := tb_and h
      obtain ⟨h, h8⟩ := tb_and h
      obtain ⟨h, h7⟩ := tb_and h
      obtain ⟨h, h6⟩ := tb_and h
      obtain ⟨h, h5⟩ := tb_and h
      obtain ⟨h, h4⟩ := tb_and h
      obtain ⟨h, h3⟩ := tb_and h
      obtain ⟨h1, h2⟩ := tb_and h
      obtain ⟨hcm, h1⟩ := tb_and h1
      have h5 := of_decide_eq_true h5
      have h6 := of_decide_eq_true h6
      exact k_par (ps_par (o.calm hcm) (by rw [o.N]; exact o.nd) (by rw [o.N]; exact of_decide_eq_true h3) (by rw [o.N]; exact of_decide_eq_true h4) (of_decide_eq_true h1) (by rw [o.nm]; exact h5) (by rw [o.nm]; exact h6)
        (x_cons (chE_ok o h12) (x_cons (chE_ok o h13) x_nil (star_cons h9)) (star_cons h8)) (par_stores o h5 h6 h7 (of_decide_eq_true h2) h8 h9 (not_eq h10) (not_eq h11)))
    · cases h
  | .aug i op e, k, X, o, np, st, n, h => by
    unfold chS at h
    split at h
    · obtain ⟨h, h4⟩ := tb_and h
      obtain ⟨h, h3⟩ := tb_and h
      obtain ⟨h1, h2⟩ := tb_and h
      cases of_decide_eq_true h1
      obtain ⟨l1, l2⟩ := o.loc h3
      exact k_aug (ps_aug (by rw [o.N]; exact o.nd) (by rw [o.N]; exact of_decide_eq_true h2) l1 (chE_ok o h4) (ip_aug _) l2)
    · cases h
  | .fset i f e, k, X, o, np, st, n, h => by
    unfold chS at h
    split at h
    · obtain ⟨h, h6⟩ := tb_and h
      obtain ⟨h, h5⟩ := tb_and h
      obtain ⟨h, h4⟩ := tb_and h
      obtain ⟨h, h3⟩ := tb_and h
      obtain ⟨h1, h2⟩ := tb_and h
      have ex := of_decide_eq_true h4
      exact k_fset o.K (by rw [o.attrs]; exact ex) (fun ci kk hk hf => o.fok _ ci kk hk hf) (o.fld _ _ ex) (ps_fld (pv_k o (of_decide_eq_true h1) h2 h3) (chE_ok o h6) (swaps_no h5))
    · cases h
  | .iset i kx e, k, X, o, np, st, n, h => by
    unfold chS at h
    split at h
    · obtain ⟨h, h7⟩ := tb_and h
      obtain ⟨h, h6⟩ := tb_and h
      obtain ⟨h, h5⟩ := tb_and h
      obtain ⟨h, h4⟩ := tb_and h
      obtain ⟨h, h3⟩ := tb_and h
      obtain ⟨h1, h2⟩ := tb_and h
      exact k_iset (ps_asg (chE_ok o h7) (pg_sub (s_s (pv_k o (of_decide_eq_true h1) h2 h3)) (chE_ok o h6) (set_st o.hu) (assign_ix h4)) (sole_no h5) (stores_no rfl) (one_asg rfl))
    · cases h
  | .fiset i f kx e, k, X, o, np, st, n, h => by
    unfold chS at h
    split at h
    · obtain ⟨h, h8⟩ := tb_and h
      obtain ⟨h, h7⟩ := tb_and h
      obtain ⟨h, h6⟩ := tb_and h
      obtain ⟨h, h5⟩ := tb_and h
      obtain ⟨h, h4⟩ := tb_and h
      obtain ⟨h, h3⟩ := tb_and h
      obtain ⟨h1, h2⟩ := tb_and h
      have ex := of_decide_eq_true h4
      exact k_fiset (ps_asg (chE_ok o h8) (pg_sub (s_fld o.K (by rw [o.attrs]; exact ex) (o.fld _ _ ex) (s_s (pv_k o (of_decide_eq_true h1) h2 h3)) (base_ok rfl)) (chE_ok o h7) (set_st o.hu) (assign_ix h5)) (sole_no h6) (stores_no rfl) (one_asg rfl))
    · cases h
  | .bad, k, X, o, np, st, n, h => k_bad
  | .ex e, k, X, o, np, st, n, h => by
    unfold chS at h
    split at h
    · obtain ⟨h1, h2⟩ := tb_and h
      exact k_ex (ps_expr (chE_ok o h2) (swaps_no h1))
    · cases h
  | .ret e, k, X, o, np, st, n, h => by
    unfold chS at h
    split at h
    · rcases Bool.or_eq_true_iff.mp h with h | h
      · exact k_ret (ps_ret (chE_ok o h))
      · exact k_ret (ps_ret (chSrt_ok o h))
    · cases h
  | .retN, k, X, o, np, st, n, h => by
    unfold chS at h
    split at h
    · exact k_retN ps_retN
    · cases h
  | .pass, k, X, o, np, st, n, h => by
    unfold chS at h
    split at h
    · exact k_pass ps_pass
    · cases h
  | .brk, k, X, o, np, st, n, h => by
    unfold chS at h
    split at h
    · exact k_brk ps_break
    · cases h
  | .cont, k, X, o, np, st, n, h => by
    unfold chS at h
    split at h
    · exact k_cont ps_continue
    · cases h
  | .ite t a b, k, X, o, np, st, n, h => by
    unfold chS at h
    split at h
    · obtain ⟨h, h3⟩ := tb_and h
      obtain ⟨h1, h2⟩ := tb_and h
      obtain ⟨n1, n2⟩ := tb_and (show (ntSs a && ntSs b) = true from n)
      exact k_ite (ps_if (chT_ok o h1) (chSs_ok o np n1 h2) (chSs_ok o np n2 h3))
    · cases h
  | .whl t b, k, X, o, np, st, n, h => by
    unfold chS at h
    split at h
    · obtain ⟨h1, h2⟩ := tb_and h
      exact k_whl (ps_while np (chT_ok o h1) (chSs_ok o np n h2))
    · cases h
  | .loop tg it b, k, X, o, np, st, n, h => by
    unfold chS at h
    split at h
    · obtain ⟨h, h4⟩ := tb_and h
      obtain ⟨h, h3⟩ := tb_and h
      obtain ⟨h1, h2⟩ := tb_and h
      obtain ⟨hcm, h1⟩ := tb_and h1
      exact k_loop (ps_for np (o.calm hcm) (chI_ok o h3) (tgE_ok o h2) (chSs_ok o np n h4) (folded_ok h1))
    · cases h
  | .rse _ _, _, _, _, _, _, n, _ => by cases n
  | .tryx _ _, _, _, _, _, _, n, _ => by cases n
theorem chSs_ok : ∀ {s : CSs} {k : Bk} {X : Cx} (o : OkX c tb cl cur k X) (np : PassesOwn (model X.prog X.w) X.A X.env X.xe) {ss : List Stmt}, ntSs s = true → chSs tb k s ss = true → PSs X ss (tSs c (tb.G.at cur) cl io s)
  | .nil, k, X, o, np, ss, n, h => by
    unfold chSs at h
    cases ss with
    | nil => exact k_nil
    | cons _ _ => cases h
  | .cons s r, k, X, o, np, ss, n, h => by
    unfold chSs at h
    cases ss with
    | nil => cases h
    | cons x xs =>
      obtain ⟨h1, h2⟩ := tb_and h
      obtain ⟨n1, n2⟩ := tb_and (show (ntS s && ntSs r) = true from n)
      exact k_cons (chS_ok o np n1 h1) (chSs_ok o np n2 h2)
end
end
end Ev

/-! Ev, part Nr: the look is right where errors fly. -/
namespace Ev
open PySem PySem.Spec L2 PyProof.Rows
section
variable {c : Cn} {tb : Tb} {cl : Caller} {cur : Option (Nat × XD)} {io : List Nat} {W : WX}
theorem callUS {X : Cx} {sp : Sp} {T : TA} {σ : L2.St} {H : Hp} {Q : VK} (q : tCall sp [] (WE W σ) T σ H Q) : tCBS (fun σ vs H Q => sp vs H Q (WE W σ)) T σ H Q := by
  unfold tCall at q
  unfold tCBS
  simpa only [List.append_nil] using q
theorem makeUS {C : Addr} {sp : Sp} {T : TA} {σ : L2.St} {H : Hp} {Q : VK} (q : tMake C sp [] (WE W σ) T σ H Q) : tCBS (fun σ vs H Q => ∀ x dx, H x = none → H dx = none → dx ≠ x → sp (.ref x :: vs) (upd (upd H dx (.own x)) x (.ins C dx [])) (fun v H2 => v = .non ∧ Q (.ref x) H2) (WE W σ)) T σ H Q := by
  unfold tMake at q
  unfold tCBS
  simpa only [List.append_nil] using q
mutual
theorem chEr_ok : ∀ {e : CE} {k : Bk} {X : Cx} (o : OkX c tb cl cur k X) (tk : Takes X W) {x : Expr}, chE tb k e x = true → PE X x (tEr c (tb.G.at cur) cl W e)
  | .call f es, k, X, o, tk, e, h => by
    unfold chE at h
    split at h
    · rename_i x p xs pos
      obtain ⟨h1, h2⟩ := tb_and h
      obtain ⟨h1, h3⟩ := tb_and h1
      obtain ⟨h1, h4⟩ := tb_and h1
      obtain ⟨hf, h4⟩ := o.gf h4
      obtain ⟨fa, fd, ps, kk, F, hr, hm, hk, hb⟩ := o.call hf f x (of_decide_eq_true h1)
      have F := cr_fnS (E := WE W) F (o.full hf) hr hb (passAt tk)
      have pa := chL_ok o h2
      have st := chL_star h2
      refine r_call ?_
      cases xs with
      | nil =>
        have en : es = .nil := by
          cases es with
          | nil => rfl
          | cons _ _ => unfold chL at h2; cases h2
        subst en
        exact pe_imp (pe_nameS0 F (o.gl h4) hm hk (ok_debug h3)) fun σ H Q q => tL_nil q
      | cons y xs =>
        rw [List.all_cons] at st
        obtain ⟨s1, s2⟩ := tb_and st
        exact pe_imp (pe_nameS F (o.gl h4) hm hk pa (ok_debug h3) (star_cons s1) (back_any s2)) fun σ H Q q => callUS (X := X) q
    · cases h
  | .mk ci es, k, X, o, tk, e, h => by
    unfold chE at h
    split at h
    · rename_i x p xs pos
      obtain ⟨h1, h2⟩ := tb_and h
      obtain ⟨h1, h3⟩ := tb_and h1
      obtain ⟨h1, h4⟩ := tb_and h1
      obtain ⟨h1, h5⟩ := tb_and h1
      obtain ⟨kc, ek⟩ := Option.isSome_iff_exists.mp h5
      obtain ⟨hf, h4⟩ := o.gf h4
      obtain ⟨C, fI, fd, ps, j, hC, M, F, hr, hm, hb⟩ := o.make (gl_calm h4) ci x kc (of_decide_eq_true h1) ek
      have F := cr_mkS (E := WE W) M (F hf) (o.full hf) hr hb (passAt tk)
      have pa := chL_ok o h2
      have st := chL_star h2
      refine r_mk hC ek ?_
      cases xs with
      | nil =>
        have en : es = .nil := by
          cases es with
          | nil => rfl
          | cons _ _ => unfold chL at h2; cases h2
        subst en
        exact pe_imp (pe_nameS0 F (o.gl h4) hm M.kp (ok_debug h3)) fun σ H Q q => tL_nil q
      | cons y xs =>
        rw [List.all_cons] at st
        obtain ⟨s1, s2⟩ := tb_and st
        exact pe_imp (pe_nameS F (o.gl h4) hm M.kp pa (ok_debug h3) (star_cons s1) (back_any s2)) fun σ H Q q => makeUS q
    · cases h
  | .um m ob es, k, X, o, tk, e, h => by
    unfold chE at h
    split at h
    · rename_i eo x apos xs pos
      obtain ⟨h1, h2⟩ := tb_and h
      obtain ⟨h1, h3⟩ := tb_and h1
      obtain ⟨h1, h4⟩ := tb_and h1
      obtain ⟨h1, h5⟩ := tb_and h1
      obtain ⟨h1, h6⟩ := tb_and h1
      obtain ⟨hfu, h6⟩ := tb_and h6
      have ex := of_decide_eq_true h1
      have pa := chL_ok o h2
      have st := chL_star h2
      have po := chE_ok o h3
      have ml := meth_form (m := x) (apos := apos) (pos := pos) (env := X.env) h6 st (of_decide_eq_true h5) h4
      refine r_um (by rw [o.attrs]; exact ex) fun ci kc f hk hf => ?_
      obtain ⟨C, fa, fd, ps, j, hC, hcl, hme, F, hr, hb⟩ := o.meth hfu ci kc m x f hk hf ex
      have F := cr_fnS (E := WE W) F (o.full hfu) hr hb (passAt tk)
      refine ⟨C, hC, ?_⟩
      cases xs with
      | nil =>
        have en : es = .nil := by
          cases es with
          | nil => rfl
          | cons _ _ => unfold chL at h2; cases h2
        subst en
        refine pe_imp (pe_attrS0 po hcl hme F ml) fun σ H Q q => ?_
        refine tE_mono q fun x H1 q1 => ?_
        obtain ⟨a, dx, fs, e1, e2, e3, q2⟩ := q1
        exact ⟨a, dx, fs, e1, e2, e3, tL_nil q2⟩
      | cons y xs =>
        rw [List.all_cons] at st
        obtain ⟨s1, s2⟩ := tb_and st
        exact pe_imp (pe_attrS po hcl hme F pa (star_cons s1) (back_any s2) ml) fun σ H Q q => methU q
    · cases h
  | .tup es, k, X, o, tk, e, h => by
    unfold chE at h
    split at h
    · exact r_tup (chXr_ok o tk h)
    · cases h
  | .frz a, k, X, o, tk, e, h => by
    have h0 := h
    unfold chE at h
    exact r_frz (chEr_ok o tk h) (chE_ok o h0)
  | .ife t a b, k, X, o, tk, e, h => by
    unfold chE at h
    split at h
    · obtain ⟨h1, h2⟩ := tb_and h
      obtain ⟨h1, h3⟩ := tb_and h1
      exact r_ife (chT_ok o h1) (chEr_ok o tk h3) (chEr_ok o tk h2)
    · cases h
  | .k _, k, X, o, tk, e, h => er_no (chE_ok o h) fun p τ => by unfold rsE; rfl
  | .s _, k, X, o, tk, e, h => er_no (chE_ok o h) fun p τ => by unfold rsE; rfl
  | .g _, k, X, o, tk, e, h => er_no (chE_ok o h) fun p τ => by unfold rsE; rfl
  | .bin _ _ _, k, X, o, tk, e, h => er_no (chE_ok o h) fun p τ => by unfold rsE; rfl
  | .un _ _, k, X, o, tk, e, h => er_no (chE_ok o h) fun p τ => by unfold rsE; rfl
  | .cmp _ _ _, k, X, o, tk, e, h => er_no (chE_ok o h) fun p τ => by unfold rsE; rfl
  | .chain _ _ _ _ _, k, X, o, tk, e, h => er_no (chE_ok o h) fun p τ => by unfold rsE; rfl
  | .and _ _, k, X, o, tk, e, h => er_no (chE_ok o h) fun p τ => by unfold rsE; rfl
  | .or _ _, k, X, o, tk, e, h => er_no (chE_ok o h) fun p τ => by unfold rsE; rfl
  | .not _, k, X, o, tk, e, h => er_no (chE_ok o h) fun p τ => by unfold rsE; rfl
  | .lst _, k, X, o, tk, e, h => er_no (chE_ok o h) fun p τ => by unfold rsE; rfl
  | .blt _ _, k, X, o, tk, e, h => er_no (chE_ok o h) fun p τ => by unfold rsE; rfl
  | .bm _ _ _, k, X, o, tk, e, h => er_no (chE_ok o h) fun p τ => by unfold rsE; rfl
  | .idx _ _, k, X, o, tk, e, h => er_no (chE_ok o h) fun p τ => by unfold rsE; rfl
  | .slc _ _ _, k, X, o, tk, e, h => er_no (chE_ok o h) fun p τ => by unfold rsE; rfl
  | .fld _ _, k, X, o, tk, e, h => er_no (chE_ok o h) fun p τ => by unfold rsE; rfl
  | .lc _ _ _ _ _, k, X, o, tk, e, h => er_no (chE_ok o h) fun p τ => by unfold rsE; rfl
  | .lrng _, k, X, o, tk, e, h => er_no (chE_ok o h) fun p τ => by unfold rsE; rfl
  | .rev _, k, X, o, tk, e, h => er_no (chE_ok o h) fun p τ => by unfold rsE; rfl
  | .dct _, k, X, o, tk, e, h => er_no (chE_ok o h) fun p τ => by unfold rsE; rfl
  | .isE _ _, k, X, o, tk, e, h => er_no (chE_ok o h) fun p τ => by unfold rsE; rfl
  | .eF _ _, k, X, o, tk, e, h => er_no (chE_ok o h) fun p τ => by unfold rsE; rfl
termination_by structural x => x
theorem chXr_ok : ∀ {es : CEs} {k : Bk} {X : Cx} (o : OkX c tb cl cur k X) (tk : Takes X W) {xs : List Expr}, chX tb k es xs = true → PA X xs (tXr c (tb.G.at cur) cl W es)
  | .nil, k, X, o, tk, xs, h => by
    unfold chX at h
    cases xs with
    | nil => exact rx_nil
    | cons _ _ => cases h
  | .cons e r, k, X, o, tk, xs, h => by
    unfold chX at h
    cases xs with
    | nil => cases h
    | cons x xs =>
      obtain ⟨h1, h2⟩ := tb_and h
      obtain ⟨h1, h3⟩ := tb_and h1
      exact rx_cons (chEr_ok o tk h3) (chXr_ok o tk h2) (star_cons h1)
termination_by structural x => x
end
theorem OkX.tr {k : Bk} {X : Cx} (o : OkX c tb cl cur k X) (pn : List (Addr × Obj)) (xe : Value → Shared → Prop) (hc : k.calm = true) : OkX c tb cl cur k (X.tr pn xe) :=
  { K := o.K, full := o.full, calm := o.calm, hu := o.hu, N := o.N, nd := o.nd, nm := o.nm, kind := o.kind, top := o.top, raw := o.raw, call := o.call, make := o.make, meth := o.meth, blt := o.blt, eqs := o.eqs, glob := o.glob, attrs := o.attrs, fld := o.fld, fok := o.fok, exc := o.exc, ex0 := o.ex0, rm := o.rm
    cur := fun N x z => by
      obtain ⟨h, _⟩ := o.cur N x z
      rw [hc] at h; cases h }
/-- what is known within a clause -/
theorem OkX.suite {k : Bk} {X : Cx} (o : OkX c tb cl cur k X) {a C : Addr} {oe : Obj} {d : Option Addr} {pn : List (Addr × Obj)} {N : Nat} {x : XD} {q : Option (Addr × List (Str × V) × List (Nat × D))} (hz : Zc (.ref C) d oe) (hr : ∃ vs, oe.data = .fields vs) (hC : c.exc.lookup x.1 = some C)
    (hq : DQ x.2 q d) : OkX (c.at (some (N, a, q))) tb cl (some (N, x)) { k with full := false, calm := false } (X.suite a ((a, oe) :: pn)) where
  K := o.K
  full := fun h => by cases h
  calm := fun h => by cases h
  hu := o.hu
  N := o.N
  nd := o.nd
  nm := o.nm
  kind := o.kind
  top := o.top
  raw := o.raw
  call := fun h => by cases h
  make := fun h => by cases h
  meth := fun h => by cases h
  blt := o.blt
  eqs := fun h => by cases h
  glob := o.glob
  attrs := o.attrs
  fld := o.fld
  fok := o.fok
  exc := ⟨o.exc.xcl, o.exc.xno, o.exc.name, o.exc.noVE, o.exc.rais⟩
  ex0 := fun h => by cases h
  rm := fun h => by cases h
  cur := fun N' x' z => by
    cases z
    exact ⟨rfl, a, C, oe, d, ⟨List.mem_cons_self, hz, hr, hC, q, rfl, hq⟩⟩
/-- an error is raised -/
theorem r_rse0 {G : GS} {X : Cx} {kk : Nat} {C : Addr} {ec : EC} {st : Stmt} (hC : c.exc.lookup kk = some C) (he : G.exc.lookup kk = some ec) (hf : ec.fld = none) (h : PS X st (fun _ σ H => W (.ref C) none σ H)) : PS X st (tSr c G cl W io (.rse kk .nil)) := ps_imp h fun D σ H q => by
  rcases q with ⟨F, Z, τ, A, fl, s, e, g⟩ | ⟨F, Z, τ, A, x, τ', s, e, k⟩
  · unfold evS at e; cases e
  · unfold rsS evX at e
    simp only [he] at e
    split at e
    · simp only [hf] at e
      cases e
      exact k σ (.ref C) none H Z A (Same.refl _) (Kp.refl _ _) s ⟨C, hC, rfl, rfl⟩
    · cases e
theorem r_rse1 {G : GS} {X : Cx} {kk f : Nat} {C : Addr} {ec : EC} {es : CEs} {n : Str} {st : Stmt} (hC : c.exc.lookup kk = some C) (he : G.exc.lookup kk = some ec) (hf : ec.fld = some f) (hn : c.attrs[f]? = some n)
    (h : PS X st (fun _ σ H => tX c G cl es σ H fun vs H1 => ∃ y, vs = [y] ∧ ∀ dd, H1 dd = none → W (.ref C) (some dd) σ (upd H1 dd (.xd [(n, y)])))) : PS X st (tSr c G cl W io (.rse kk es)) := ps_imp h fun D σ H q => by
  rcases q with ⟨F, Z, τ, A, fl, s, e, g⟩ | ⟨F, Z, τ, A, x, τ', s, e, k⟩
  · unfold evS at e; cases e
  · unfold rsS at e
    split at e
    · cases e
    · rename_i ds τ1 e1
      simp only [he] at e
      split at e
      · rw [hf] at e
        cases ds with
        | nil => cases e
        | cons d ds =>
          cases ds with
          | cons _ _ => cases e
          | nil =>
          cases e
          refine ⟨false, F, Z, τ, A, [d], _, s, e1, fun xs H1 Z1 A1 po rl => ?_⟩
          obtain ⟨v, r, rfl, rv, rr⟩ := rl
          cases (show r = [] from rr)
          refine ⟨v, rfl, fun dd hd => ?_⟩
          have zd : Z1 dd = none := po.st.zh.free hd
          have fd : F dd = none := po.st.fh.free hd
          have zz : Same Z1 (upd Z1 dd (.xd [(n, v)])) := Same.upd zd
          have tu : TupsIn (upd Z1 dd (.xd [(n, v)])) (upd H1 dd (.xd [(n, v)])) := (po.st.tz.mono zz).upd fun _ z => by cases z
          have po2 := Post.grow (p := false) po.st (Same.upd (o := .xd [(n, v)]) hd) zz (fun b o e => by
            by_cases z : b = dd
            · subst z; rw [upd_same] at e ⊢; exact e
            · rw [upd_ne z] at e ⊢; exact po.st.zh _ _ e) (fun b o e => by
            by_cases z : b = dd
            · subst z; exact fd
            · rw [upd_ne z] at e; exact po.st.fz _ _ e) (fun i b hb => by
            have : b ≠ dd := fun z => by subst z; exact (po.st.fr i b hb).2.2 hd
            rw [upd_ne this]
            exact (po.st.fr i b hb).2.1) tu
          exact k σ (.ref C) (some dd) _ _ A1 (po.zz.trans po2.zz) (Kp.refl _ _) po2.st ⟨C, hC, rfl, [(n, v)], upd_same, n, v, [], rfl, hn, Rep.mono zz _ _ rv, rfl⟩
      · cases e
noncomputable def CHs.cls : CHs → List Nat
  | .nil => []
  | .cons cc _ _ r => cc :: r.cls
/-- the clauses -/
noncomputable def hdL (c : Cn) (G : GS) (cl : Caller) (io : List Nat) : CHs → List Hd
  | .nil => []
  | .cons cc i b r => ⟨.ref ((c.exc.lookup cc).getD 0), i, fun a cls d De σ H => ∃ (N : Nat) (x : XD) (C : Addr) (q : Option (Addr × List (Str × V) × List (Nat × D))), cls = .ref C ∧ c.exc.lookup x.1 = some C ∧
      DQ x.2 q d ∧ tSs (c.at (some (N, a, q))) (G.at (some (N, x))) cl io b De σ H⟩ :: hdL c G cl io r
theorem goes_clr {F Z : Hp} {y : XI} {i : Option Nat} {a : Addr} {σ : L2.St} {D : Ends} {fl : Fl} (hc : c.ex = none) (hi : ¬ (i.any fun j => io.contains j) = true) (g : Goes c F Z io σ D (clrF i fl)) : Goes (c.at y) F Z io (putI i a σ) (endI i D) fl := by
  cases i with
  | none =>
    cases fl with
    | nx τ' => exact fun σ' H' Z' A' zz s kp => g σ' H' Z' A' zz (s.leave hc) kp
    | bk τ' => exact fun σ' H' Z' A' zz s kp => g σ' H' Z' A' zz (s.leave hc) kp
    | ct τ' => exact fun σ' H' Z' A' zz s kp => g σ' H' Z' A' zz (s.leave hc) kp
    | ret m τ' => exact fun x σ' H' Z' A' B zz s kp re => g x σ' H' Z' A' B zz (s.leave hc) kp (re.leave hc)
  | some i =>
    have ni : ¬ io.contains i = true := hi
    have kk : ∀ {σ' : L2.St}, Kp io (σ.set i (some (.ref a))) σ' → Kp io σ (σ'.set i none) := fun {σ'} kp => ((kp_set ni).trans kp).trans (kp_set ni)
    cases fl with
    | nx τ' => exact fun σ' H' Z' A' zz s kp => g _ H' Z' _ zz (clear_slot (s.leave hc) i) (kk kp)
    | bk τ' => exact fun σ' H' Z' A' zz s kp => g _ H' Z' _ zz (clear_slot (s.leave hc) i) (kk kp)
    | ct τ' => exact fun σ' H' Z' A' zz s kp => g _ H' Z' _ zz (clear_slot (s.leave hc) i) (kk kp)
    | ret m τ' =>
      intro x σ' H' Z' A' B zz s kp re
      have re' := re.leave hc
      refine g x _ H' Z' _ B zz (clear_slot (s.leave hc) i) (kk kp) ⟨re'.rr, re'.nd, fun j b hb => ?_, re'.fr⟩
      by_cases z : j = i
      · subst z; rw [put1_same] at hb; cases hb
      · rw [put1_ne z] at hb; exact re'.dj j b hb
theorem hd_ok {G : GS} {K : PySem.W.Frag} {P : Program} {mg : Str → Option Value} (hG : ∀ k, G.exc.lookup k = tb.G.exc.lookup k) (E : ExcOk K P mg c tb) (hc : c.ex = none) {x : XD} {F Z H : Hp} {σ : L2.St} {τ : T} {A : Nat → List Addr} {D : Ends} {fl : Fl} {cls : Value} {d : Option Addr} (s : Sta c F Z H σ τ A) (rx : RepX c Z x cls d) (g : Goes c F Z io σ D fl) :
    ∀ (hs : CHs), (∀ cc ∈ hs.cls, ∃ D, c.exc.lookup cc = some D) → evH G cl io hs x τ = some fl → wHds K (fun _ _ _ _ => False) D (hdL c G cl io hs) cls d σ H
  | .nil, _, e => by unfold evH at e; cases e
  | .cons cc i b r, hk, e => by
    obtain ⟨C, hC, rfl, hd⟩ := id rx
    obtain ⟨D', hD⟩ := hk cc (by simp [CHs.cls])
    obtain ⟨ec, e1, T, kV, kO⟩ := E.xcl _ _ hC
    have e2 := (kO cc D' hD).2
    unfold evH at e
    have ix : isX G x.1 (some cc) = some (ec.up.contains cc) := by unfold isX; rw [hG, e1]; rfl
    rw [ix] at e
    refine ⟨ec.up.contains cc, by rw [show (c.exc.lookup cc).getD 0 = D' by rw [hD]; rfl]; exact e2, fun hy a na => ?_, fun hn => ?_⟩
    · rw [hy] at e
      simp only at e
      split at e
      · cases e
      · rename_i hi
        cases e3 : evSs (G.at (some (max (mxT τ) (mxF x.2), x))) cl io b (bindX i (max (mxT τ) (mxF x.2)) τ) with
        | none => rw [e3] at e; cases e
        | some fl' =>
          rw [e3] at e
          cases e
          obtain ⟨q, hq, hq2⟩ : ∃ q : Option (Addr × List (Str × V) × List (Nat × Ev.D)), DQ x.2 q d ∧ ∀ p, q = some p → Z p.1 = some (.xd p.2.1) ∧ RepF c Z p.2.2 p.2.1 ∧ mxF p.2.2 ≤ max (mxT τ) (mxF x.2) := by
            cases d with
            | none => exact ⟨none, ⟨rfl, hd⟩, fun p z => by cases z⟩
            | some dd =>
              obtain ⟨gs, z1, z2⟩ := hd
              exact ⟨some (dd, gs, x.2), ⟨gs, rfl⟩, fun p z => by cases z; exact ⟨z1, z2, Nat.le_max_right _ _⟩⟩
          refine ⟨max (mxT τ) (mxF x.2), x, C, q, rfl, hC, hq, ?_⟩
          have se := s.enter (a := a) (Nat.le_max_left _ (mxF x.2)) hq2
          cases i with
          | none => exact ⟨F, Z, _, A, fl', se, e3, goes_clr hc hi g⟩
          | some i =>
            obtain ⟨A', sb⟩ := bind_slot se rfl i
            exact ⟨F, Z, _, A', fl', sb, e3, goes_clr hc hi g⟩
    · rw [hn] at e
      exact hd_ok hG E hc s rx g r (fun cc' h' => hk cc' (by simp [CHs.cls, h'])) e
theorem hds_n {k : Bk} {X : Cx} (o : OkX c tb cl cur k X) (hcur : cur = none) : ∀ {hs : CHs} {hds : List ExceptHandler}, chHs tb k hs hds = true → HdsN X hds (hdL c (tb.G.at cur) cl io hs) ∧ ∀ cc ∈ hs.cls, ∃ D, c.exc.lookup cc = some D
  | .nil, hds, h => by
    unfold chHs at h
    cases hds with
    | nil => exact ⟨.nil, fun cc z => by cases z⟩
    | cons _ _ => cases h
  | .cons cc i b r, hds, h => by
    unfold chHs at h
    split at h
    · rename_i x np nm b0 suite pos rest
      obtain ⟨h, h7⟩ := tb_and h
      obtain ⟨h, h6⟩ := tb_and h
      obtain ⟨h, h5⟩ := tb_and h
      obtain ⟨h, h4⟩ := tb_and h
      obtain ⟨h, h3⟩ := tb_and h
      obtain ⟨h1, h2⟩ := tb_and h
      obtain ⟨D, hD, hm⟩ := o.exc.name cc x (of_decide_eq_true h1)
      obtain ⟨r1, r2⟩ := hds_n o hcur h7
      refine ⟨?_, fun c' hc' => ?_⟩
      · have := HdsN.cons (X := X) (x := x) (c := .ref ((c.exc.lookup cc).getD 0)) (i := i) (nm := nm) (b₀ := b0) (suite := suite) (np := np) (pos' := pos)
          (ts := fun a cls d D σ H => ∃ (N : Nat) (x : XD) (C : Addr) (q : Option (Addr × List (Str × V) × List (Nat × Ev.D))), cls = .ref C ∧ c.exc.lookup x.1 = some C ∧
      DQ x.2 q d ∧ tSs (c.at (some (N, a, q))) ((tb.G.at cur).at (some (N, x))) cl io b D σ H)
          ⟨o.gn h2, ok_debug h3, .inl (by rw [hD]; exact hm)⟩ ?_ (fun a oe cls d pn hz hr => ⟨fun pins s σ H D I q => ?_⟩) r1
        · exact this
        · cases i with
          | none =>
            cases nm with
            | none => rfl
            | some n => cases h4
          | some j =>
            cases nm with
            | none => cases h4
            | some n =>
              obtain ⟨g1, g2⟩ := tb_and h4
              exact ⟨n, rfl, by rw [o.N]; exact of_decide_eq_true g1, by show X.env.scope.names.lookup n = _; rw [o.nm]; exact beq_iff_eq.mp g2⟩
        · obtain ⟨N, x', C, q', rfl, hC, hq, h⟩ := q
          exact (chSs_ok (o.suite (pn := pn) hz hr hC hq) PassesOwn.never h5 h6).run pins s σ H D I h
      · rcases List.mem_cons.mp (show c' ∈ cc :: r.cls from hc') with z | z
        · rw [z]; exact ⟨D, hD⟩
        · exact r2 c' z
    · cases h
end
section
variable {c : Cn} {tb : Tb} {cl : Caller} {cur : Option (Nat × XD)} {io : List Nat}
mutual
theorem chSr_ok : ∀ {s : CS} {k : Bk} {X : Cx} {W : WX} (o : OkX c tb cl cur k X) (np : PassesOwn (model X.prog X.w) X.A X.env X.xe) (sf : X.stack = X.env :: X.outer ∧ X.env.frame = some X.env.locals) (tk : Takes X W) {st : Stmt}, chS tb k s st = true → PS X st (tSr c (tb.G.at cur) cl W io s)
  | .set i e, k, X, W, o, np, sf, tk, st, h => by
    have h0 := h
    unfold chS at h
    split at h
    · rename_i x py v pos
      obtain ⟨h, h4⟩ := tb_and h
      obtain ⟨h, h3⟩ := tb_and h
      obtain ⟨h1, h2⟩ := tb_and h
      have h1 := of_decide_eq_true h1
      obtain ⟨l1, l2⟩ := o.loc h2
      split at h4
      · obtain ⟨_, hn⟩ := tb_and h4
        exact sr_no (chS_ok o np rfl h0) fun τ => by unfold rsS; rw [nrE_ok hn]; split <;> rfl
      · exact r_set (ps_set (by rw [o.N]; exact o.nd) (by rw [o.N]; exact h1) l1 (chEr_ok o tk h3) (swaps_no h4) l2)
    · cases h
  | .setT tg e, k, X, W, o, np, sf, tk, st, h => by
    unfold chS at h
    split at h
    · rename_i t v pos
      obtain ⟨h, h5⟩ := tb_and h
      obtain ⟨h, h4⟩ := tb_and h
      obtain ⟨h1, h2⟩ := tb_and h
      have ns : noStar t = true := by cases t <;> first | rfl | (cases h1)
      exact r_setT (ps_asg (chEr_ok o tk h5) (tgE_ok o h4) (sole_tup h1) (stores_in o h2) (one_asg ns))
    · cases h
  | .ex e, k, X, W, o, np, sf, tk, st, h => by
    unfold chS at h
    split at h
    · obtain ⟨h1, h2⟩ := tb_and h
      exact r_ex (ps_expr (chEr_ok o tk h2) (swaps_no h1))
    · cases h
  | .ret e, k, X, W, o, np, sf, tk, st, h => by
    have h0 := h
    unfold chS at h
    split at h
    · rcases Bool.or_eq_true_iff.mp h with h | h
      · exact r_ret (ps_ret (chEr_ok o tk h))
      · refine sr_no (chS_ok o np rfl h0) fun τ => ?_
        unfold chSrt at h
        split at h
        · unfold rsS rsE; rfl
        · cases h
    · cases h
  | .ite t a b, k, X, W, o, np, sf, tk, st, h => by
    unfold chS at h
    split at h
    · obtain ⟨h, h3⟩ := tb_and h
      obtain ⟨h1, h2⟩ := tb_and h
      exact r_ite (ps_if (chT_ok o h1) (chSsr_ok o np sf tk h2) (chSsr_ok o np sf tk h3))
    · cases h
  | .whl t b, k, X, W, o, np, sf, tk, st, h => by
    unfold chS at h
    split at h
    · obtain ⟨h1, h2⟩ := tb_and h
      exact r_whl (ps_while np (chT_ok o h1) (chSsr_ok o np sf tk h2))
    · cases h
  | .loop tg it b, k, X, W, o, np, sf, tk, st, h => by
    unfold chS at h
    split at h
    · obtain ⟨h, h4⟩ := tb_and h
      obtain ⟨h, h3⟩ := tb_and h
      obtain ⟨h1, h2⟩ := tb_and h
      obtain ⟨hcm, h1⟩ := tb_and h1
      exact r_loop (ps_for np (o.calm hcm) (chI_ok o h3) (tgE_ok o h2) (chSsr_ok o np sf tk h4) (folded_ok h1))
    · cases h
  | .rse kk es, k, X, W, o, np, sf, tk, st, h => by
    unfold chS at h
    rcases Bool.or_eq_true_iff.mp h with h | h
    · have e1 : (tb.G.at cur).exc.lookup kk = none := by simpa using h
      refine ⟨fun pins s σ H D I q => ?_⟩
      rcases q with ⟨F, Z, τ, A, fl, s, e, g⟩ | ⟨F, Z, τ, A, y, τ', s, e, _⟩
      · unfold evS at e; cases e
      · unfold rsS at e
        split at e
        · cases e
        · simp only [e1] at e
          cases e
    split at h
    · rename_i x p xs pos pos2 _
      obtain ⟨h, h7⟩ := tb_and h
      obtain ⟨h, h6⟩ := tb_and h
      obtain ⟨h, h5⟩ := tb_and h
      obtain ⟨h, h4⟩ := tb_and h
      obtain ⟨h, h3⟩ := tb_and h
      obtain ⟨h1, h2⟩ := tb_and h
      have h7 := of_decide_eq_true h7
      obtain ⟨C, hC, hm⟩ := o.exc.name kk x (of_decide_eq_true h3)
      obtain ⟨ec, e1, _⟩ := o.exc.xcl kk C hC
      by_cases hrs : ec.rs = true
      · obtain ⟨R0, R1⟩ := o.exc.rais kk C ec hC e1 hrs
        rw [e1] at h7
        cases hf : ec.fld with
        | none =>
          obtain ⟨fI, sc, m1, p0, p1, p2, ap, ps, pos', j, hline, S⟩ := R0 hf
          rw [Option.bind_some, hf] at h7
          cases xs with
          | cons _ _ => cases h7
          | nil =>
            cases es with
            | cons _ _ => unfold chX at h6; cases h6
            | nil => exact r_rse0 (ec := ec) hC e1 hf (ps_raise (o.calm h2) tk (pmk_sup0 hline S (o.rm h1) (o.gn h4) hm (ok_debug h5)))
        | some f =>
          obtain ⟨n, hn, fI, sc, m1, p0, p1, p2, ap, ps, pos', q0, q1, q2, q3, j, hline, S, hno, hdb⟩ := R1 f hf
          rw [Option.bind_some, hf] at h7
          cases xs with
          | nil => cases h7
          | cons y ys =>
            cases ys with
            | cons _ _ => cases h7
            | nil =>
              have st := chX_star h6
              rw [List.all_cons] at st
              obtain ⟨s1, _⟩ := tb_and st
              exact r_rse1 (ec := ec) hC e1 hf (by rw [o.attrs]; exact hn) (ps_raise (o.calm h2) tk (pmk_sup1 hline S hno hdb (o.rm h1) (o.gn h4) hm (ok_debug h5) (chX_ok o h6) (star_cons s1)))
      · refine ⟨fun pins s σ H D I q => ?_⟩
        rcases q with ⟨F, Z, τ, A, fl, s, e, g⟩ | ⟨F, Z, τ, A, y, τ', s, e, _⟩
        · unfold evS at e; cases e
        · unfold rsS at e
          split at e
          · cases e
          · have e1' : (tb.G.at cur).exc.lookup kk = some ec := e1
            simp only [e1'] at e
            rw [if_neg hrs] at e
            cases e
    · cases h
  | .tryx b hs, k, X, W, o, np, sf, tk, st, h => by
    unfold chS at h
    split at h
    · rename_i body h0 hds pos
      obtain ⟨h, h3⟩ := tb_and h
      obtain ⟨h1, h2⟩ := tb_and h
      have hcur : cur = none := by
        cases z : cur with
        | none => rfl
        | some nx =>
          obtain ⟨w, _⟩ := o.cur nx.1 nx.2 (by rw [z])
          rw [h1] at w; cases w
      obtain ⟨r1, r2⟩ := hds_n (io := io) o hcur h3
      refine ps_imp (ps_tryN sf.1 sf.2 (by rw [o.N]; exact o.nd) takes0 (tb := fun W' => tSsr c (tb.G.at cur) cl W' io b) (fun W' pn xe tk' np' => chSsr_ok (o.tr pn xe h1) np' sf tk' h2) r1) fun D σ H q => ?_
      rcases q with ⟨F, Z, τ, A, fl, s, e, g⟩ | ⟨F, Z, τ, A, y, τ', s, e, _⟩
      · unfold evS at e
        split at e
        · rename_i fl' e1
          cases e
          exact .inl ⟨F, Z, τ, A, _, s, e1, g⟩
        · split at e
          · rename_i x τ1 e1
            refine .inr ⟨F, Z, τ, A, x, τ1, s, e1, fun σ' cls d H' Z' A' zz kp st rx => ?_⟩
            exact hd_ok (tb := tb) (G := tb.G.at cur) (fun _ => rfl) o.exc (o.ex0 h1) st rx (g.mono zz kp) hs r2 e
          · cases e
      · unfold rsS at e; cases e
    · cases h
  | .par i j a b, k, X, W, o, np, sf, tk, st, h => sr_no (chS_ok o np rfl h) fun τ => by unfold rsS; rfl
  | .aug i op e, k, X, W, o, np, sf, tk, st, h => sr_no (chS_ok o np rfl h) fun τ => by unfold rsS; rfl
  | .fset i f e, k, X, W, o, np, sf, tk, st, h => sr_no (chS_ok o np rfl h) fun τ => by unfold rsS; rfl
  | .iset i kx e, k, X, W, o, np, sf, tk, st, h => sr_no (chS_ok o np rfl h) fun τ => by unfold rsS; rfl
  | .fiset i f kx e, k, X, W, o, np, sf, tk, st, h => sr_no (chS_ok o np rfl h) fun τ => by unfold rsS; rfl
  | .bad, k, X, W, o, np, sf, tk, st, h => sr_no (chS_ok o np rfl h) fun τ => by unfold rsS; rfl
  | .retN, k, X, W, o, np, sf, tk, st, h => sr_no (chS_ok o np rfl h) fun τ => by unfold rsS; rfl
  | .pass, k, X, W, o, np, sf, tk, st, h => sr_no (chS_ok o np rfl h) fun τ => by unfold rsS; rfl
  | .brk, k, X, W, o, np, sf, tk, st, h => sr_no (chS_ok o np rfl h) fun τ => by unfold rsS; rfl
  | .cont, k, X, W, o, np, sf, tk, st, h => sr_no (chS_ok o np rfl h) fun τ => by unfold rsS; rfl
theorem chSsr_ok : ∀ {s : CSs} {k : Bk} {X : Cx} {W : WX} (o : OkX c tb cl cur k X) (np : PassesOwn (model X.prog X.w) X.A X.env X.xe) (sf : X.stack = X.env :: X.outer ∧ X.env.frame = some X.env.locals) (tk : Takes X W) {ss : List Stmt}, chSs tb k s ss = true → PSs X ss (tSsr c (tb.G.at cur) cl W io s)
  | .nil, k, X, W, o, np, sf, tk, ss, h => by
    unfold chSs at h
    cases ss with
    | nil => exact r_nil
    | cons _ _ => cases h
  | .cons s r, k, X, W, o, np, sf, tk, ss, h => by
    unfold chSs at h
    cases ss with
    | nil => cases h
    | cons x xs =>
      obtain ⟨h1, h2⟩ := tb_and h
      exact r_cons (chSr_ok o np sf tk h1) (chSsr_ok o np sf tk h2)
end
end
end Ev

/-! Ev, part O: defs, by induction on how deep they call. -/
namespace Ev
open PySem L2 PyProof.Rows
theorem bt_false (t : Ty) (C : Addr) : (PySem.fastBuiltinMro t.nm).map (·.contains (Value.ref C)) = some false := by
  have go : ∀ {T : String} {l : List Value}, PySem.fastBuiltinMro T = some l → (l.all fun v => match v with | .type _ => true | _ => false) = true → (PySem.fastBuiltinMro T).map (·.contains (Value.ref C)) = some false := fun {T l} e h => by
    rw [e, Option.map_some]
    congr 1
    rw [Bool.eq_false_iff]
    intro hc
    have hm := List.contains_iff_mem.mp hc
    have := List.all_eq_true.mp h _ hm
    cases this
  cases t
  · exact go (l := [.type "NoneType", .type "object"]) (by decide +kernel) rfl
  · exact go (l := [.type "bool", .type "int", .type "object"]) (by decide +kernel) rfl
  · exact go (l := [.type "int", .type "object"]) (by decide +kernel) rfl
  · exact go (l := [.type "str", .type "object"]) (by decide +kernel) rfl
  · exact go (l := [.type "list", .type "object"]) (by decide +kernel) rfl
  · exact go (l := [.type "tuple", .type "object"]) (by decide +kernel) rfl
  · exact go (l := [.type "dict", .type "object"]) (by decide +kernel) rfl
theorem kit_ref {K : PySem.W.Frag} {C : Addr} {t : Value} {r b : Bool} (ht : PySem.W.typeIn K (.ref C) = some (.type "type")) (hm : PySem.W.mroIn K C (.type "object") = some b) (hne : (t == Value.ref C) = false) (hs : PySem.W.subIn K t (.ref C) = some r) : PySem.W.kitOne K t (.ref C) = some r := by
  have hc : (PySem.W.clsIn K C).isSome = true := by
    obtain ⟨cd, a, _⟩ := Option.bind_eq_some_iff.mp hm
    rw [a]; rfl
  unfold PySem.W.kitOne
  rw [hne]
  simp only [Bool.false_eq_true, if_false]
  unfold PySem.W.kitCls
  simp only
  rw [hc, ht]
  simp only [Bool.true_and, beq_self_eq_true, if_true]
  exact hs
theorem isC_mk {K : PySem.W.Frag} {cls : List (Nat × Addr)} {ci : Nat} {C : Addr} (cl : Cls K C) (at_ : PySem.W.findIn K (.ref C) "__class__" = some (some (.builtin "object.__class__"))) (gt : PySem.W.specialIn K (.builtin "object.__class__") "__get__" = some (some (.builtin "getset_descriptor.__get__")))
    (tk : PySem.W.takesIn K (.builtin "object.__class__") = some true) (mr : PySem.W.mroIn K C (.type "object") = some true) (ty : PySem.W.typeIn K (.ref C) = some (.type "type")) (tb : ∀ t : Ty, PySem.W.mroIn K C (.type t.nm) = some false) (self : PySem.W.mroIn K C (.ref C) = some true)
    (cc : ∀ q ∈ cls, (q.1 = ci ∧ q.2 = C) ∨ ((q.1 == ci) = false ∧ PySem.W.mroIn K C (.ref q.2) = some false ∧ PySem.W.typeIn K (.ref q.2) = some (.type "type") ∧ PySem.W.mroIn K q.2 (.type "object") = some true)) : IsC K cls ci C where
  cl := cl
  at_ := at_
  gt := gt
  tk := tk
  mr := mr
  bt := fun t => kit_ref ty mr rfl (bt_false t C)
  tb := fun t => by
    unfold PySem.W.kitOne
    have e : (Value.ref C == Value.type t.nm) = false := rfl
    rw [e]
    simp only [Bool.false_eq_true, if_false]
    have m : PySem.W.kitMeta t.nm = true := by cases t <;> decide +kernel
    unfold PySem.W.kitCls
    simp only
    rw [m]
    simp only [if_true]
    exact tb t
  cc := fun q hq => by
    rcases cc q hq with ⟨h1, h2⟩ | ⟨h1, h2, h3, h4⟩
    · rw [h1, h2]
      have e : (ci == ci) = true := by simp
      rw [e]
      unfold PySem.W.kitOne
      rw [beq_self_eq_true]
      simp only [if_true]
    · rw [h1]
      refine kit_ref h3 h4 ?_ h2
      by_cases z : C = q.2
      · rw [← z, self] at h2; cases h2
      · simpa using z
theorem outs_spec {io : List Nat} : ∀ {k : Nat} {as : List M} {τ : T} {os : List M}, outs io k as τ = some os → os.length = as.length ∧ ∀ (j : Nat) (a : M), as[j]? = some a → (∃ d, a = .v d ∧ os[j]? = some (.v d)) ∨ (isV a = false ∧ io.contains (k + j) = true ∧ ∃ m, τ[j]? = some (some m) ∧ os[j]? = some m)
  | k, [], τ, os, h => by
    simp only [outs] at h
    cases h
    exact ⟨rfl, fun j a e => by simp at e⟩
  | k, a :: as, [], os, h => by
    cases a <;> simp [outs] at h
  | k, a :: as, t :: τ, os, h => by
    have tail : ∀ {x : M} {os' : List M}, outs io (k + 1) as τ = some os' → os = x :: os' → ((∃ d, a = .v d ∧ x = .v d) ∨ (isV a = false ∧ io.contains k = true ∧ t = some x)) → os.length = (a :: as).length ∧ ∀ (j : Nat) (b : M), (a :: as)[j]? = some b → (∃ d, b = .v d ∧ os[j]? = some (.v d)) ∨ (isV b = false ∧ io.contains (k + j) = true ∧ ∃ m, (t :: τ)[j]? = some (some m) ∧ os[j]? = some m) := by
      intro x os' e1 e2 e3
      subst e2
      obtain ⟨l, sp⟩ := outs_spec e1
      refine ⟨by simp [l], fun j b e => ?_⟩
      cases j with
      | zero =>
        have : a = b := by simpa using e
        subst this
        rcases e3 with ⟨d, q1, q2⟩ | ⟨q1, q2, q3⟩
        · exact .inl ⟨d, q1, by rw [q2]; rfl⟩
        · exact .inr ⟨q1, q2, x, by rw [q3]; rfl, rfl⟩
      | succ j =>
        rcases sp j b (by simpa using e) with ⟨d, q1, q2⟩ | ⟨q1, q2, m, q3, q4⟩
        · exact .inl ⟨d, q1, by simpa using q2⟩
        · exact .inr ⟨q1, by rw [show k + (j + 1) = k + 1 + j by omega]; exact q2, m, by simpa using q3, by simpa using q4⟩
    cases a with
    | v d =>
      simp only [outs] at h
      cases e1 : outs io (k + 1) as τ with
      | none => rw [e1] at h; cases h
      | some os' =>
        rw [e1] at h
        cases h
        exact tail e1 rfl (.inl ⟨d, rfl, rfl⟩)
    | lst xs =>
      cases t with
      | none => simp [outs] at h
      | some m =>
        simp only [outs] at h
        split at h
        · rename_i hc
          cases e1 : outs io (k + 1) as τ with
          | none => rw [e1] at h; cases h
          | some os' =>
            rw [e1] at h
            cases h
            exact tail e1 rfl (.inr ⟨rfl, hc, rfl⟩)
        · cases h
    | dK ks xs =>
      cases t with
      | none => simp [outs] at h
      | some m =>
        simp only [outs] at h
        split at h
        · rename_i hc
          cases e1 : outs io (k + 1) as τ with
          | none => rw [e1] at h; cases h
          | some os' =>
            rw [e1] at h
            cases h
            exact tail e1 rfl (.inr ⟨rfl, hc, rfl⟩)
        · cases h
    | dT ks xs =>
      cases t with
      | none => simp [outs] at h
      | some m =>
        simp only [outs] at h
        split at h
        · rename_i hc
          cases e1 : outs io (k + 1) as τ with
          | none => rw [e1] at h; cases h
          | some os' =>
            rw [e1] at h
            cases h
            exact tail e1 rfl (.inr ⟨rfl, hc, rfl⟩)
        · cases h
    | ins cc fs =>
      cases t with
      | none => simp [outs] at h
      | some m =>
        simp only [outs] at h
        split at h
        · rename_i hc
          cases e1 : outs io (k + 1) as τ with
          | none => rw [e1] at h; cases h
          | some os' =>
            rw [e1] at h
            cases h
            exact tail e1 rfl (.inr ⟨rfl, hc, rfl⟩)
        · cases h
section
variable {c : Cn} {F Z H : Hp} {σ : L2.St} {τ : T} {A : Nat → List Addr}
theorem Sta.ext (s : Sta c F Z H σ τ A) (n : Nat) : Sta c F Z H (σ ++ List.replicate n none) (τ ++ List.replicate n none) A := by
  refine ⟨s.fh, s.zh, s.fz, by simp [s.len], fun i m e => ?_, s.nd, s.dj, s.fr, s.tz, s.xx⟩
  by_cases l : i < τ.length
  · rw [List.getElem?_append_left l] at e
    obtain ⟨v, e1, q⟩ := s.own i m e
    exact ⟨v, by rw [List.getElem?_append_left (by rw [← s.len]; exact l)]; exact e1, q⟩
  · rw [List.getElem?_append_right (by omega), List.getElem?_replicate] at e
    split at e <;> cases e
/-- what is given back -/
theorem outs_sta {io : List Nat} {N : List Str} {vs : List V} {args os : List M} {Z' H' : Hp} {σ' : L2.St} {τ' : T} {A' : Nat → List Addr} (s : Sta c F Z H (vs.map some) (args.map some) A) (zz : Same Z Z') (s' : Sta c F Z' H' σ' τ' A') (kp : Kp io (L2.start N vs) σ') (eo : outs io 0 args τ' = some os) (la : args.length = vs.length) :
    ∃ A2, Sta c F Z' H' (vs.map some) (os.map some) A2 ∧ ∀ i a, a ∈ A2 i → a ∈ A' i := by
  obtain ⟨lo, sp⟩ := outs_spec eo
  let A2 : Nat → List Addr := fun j => if (args[j]?).any (fun a => !isV a) = true then A' j else []
  have sub : ∀ j a, a ∈ A2 j → a ∈ A' j := fun j a ha => by
    have ha' : a ∈ (if (args[j]?).any (fun a => !isV a) = true then A' j else []) := ha
    by_cases z : (args[j]?).any (fun a => !isV a) = true
    · rw [if_pos z] at ha'; exact ha'
    · rw [if_neg z] at ha'; cases ha'
  refine ⟨A2, ⟨s'.fh, s'.zh, s'.fz, by simp [lo, la], fun j m' e => ?_, fun j => ?_, fun i j a h1 h2 => s'.dj i j a (sub i a h1) (sub j a h2), fun j a ha => s'.fr j a (sub j a ha), s'.tz, s'.xx⟩, sub⟩
  · obtain ⟨mo, e1, e2⟩ := getMap e
    cases e2
    have lj : j < args.length := by rw [← lo]; exact (List.getElem?_eq_some_iff.mp e1).1
    obtain ⟨a, ea⟩ : ∃ a, args[j]? = some a := ⟨args[j], by simp⟩
    obtain ⟨v, hv, o⟩ := s.own j a (by rw [List.getElem?_map, ea]; rfl)
    rcases sp j a ea with ⟨d, rfl, q2⟩ | ⟨q1, q2, m2, q3, q4⟩
    · rw [e1] at q2
      cases q2
      refine ⟨v, hv, ?_⟩
      have : A2 j = [] := by show (if _ then _ else _) = _; rw [ea]; rfl
      rw [this]
      exact ⟨rfl, Rep.mono zz _ _ o.2⟩
    · rw [e1] at q4
      cases q4
      obtain ⟨v', hv', o'⟩ := s'.own j _ q3
      have : σ'[j]? = (L2.start N vs)[j]? := kp j (by simpa using q2)
      rw [this] at hv'
      have hst : (L2.start N vs)[j]? = (vs.map some)[j]? := by
        unfold L2.start
        rw [List.getElem?_append_left (by rw [List.length_map, ← la]; exact lj)]
      rw [hst, hv] at hv'
      cases hv'
      refine ⟨v, hv, ?_⟩
      have : A2 j = A' j := by show (if _ then _ else _) = _; rw [ea]; simp [q1]
      rw [this]
      exact o'
  · show (if (args[j]?).any (fun a => !isV a) = true then A' j else []).Nodup
    by_cases z : (args[j]?).any (fun a => !isV a) = true
    · rw [if_pos z]; exact s'.nd j
    · rw [if_neg z]; exact List.nodup_nil
/-- the body's way, from what the def promises -/
theorem spN_body {G : GS} {n f : Nat} {fn : Fn} {N : List Str} {vs : List V} {Q : VK} {E : XK} (hf : G.fns.lookup f = some fn) (hn : fn.ns = N.length) (h : spN c (callN G (n + 1)) f vs H Q E) :
    tSs c G (callN G n) fn.io fn.body { nx := fun _ H' => Q .non H', rt := Q } (L2.start N vs) H := by
  obtain ⟨F, Z, args, A, out, os, s, e, k⟩ := h
  rw [callN_run, hf] at e
  simp only at e
  split at e
  · rename_i hl
    have la : args.length = vs.length := by have := s.len; simpa using this
    have s0 := s.ext (fn.ns - fn.np)
    have es : (vs.map some ++ List.replicate (fn.ns - fn.np) none : L2.St) = L2.start N vs := by
      unfold L2.start
      rw [hn, ← hl.1, la]
    rw [es] at s0
    have fin : ∀ {x : V} {σ' : L2.St} {H' Z' : Hp} {A' : Nat → List Addr} {B : List Addr} {τ' : T} {m : M}, Same Z Z' → Sta c F Z' H' σ' τ' A' → Kp fn.io (L2.start N vs) σ' → Res c F Z' H' σ' τ' A' (.m m) x B → outs fn.io 0 args τ' = some os → m = out → Q x H' := by
      intro x σ' H' Z' A' B τ' m zz s' kp re eo em
      subst em
      obtain ⟨A2, st, sub⟩ := outs_sta s zz s' kp eo la
      exact k x H' Z' A2 B zz st ⟨re.rr, re.nd, fun i a ha => re.dj i a (sub i a ha), re.fr⟩
    split at e
    · rename_i m τ' e1
      cases eo : outs fn.io 0 args τ' with
      | none => rw [eo] at e; cases e
      | some os' =>
        rw [eo] at e
        cases e
        exact ⟨F, Z, _, A, .ret _ τ', s0, e1, fun x σ' H' Z' A' B zz s' kp re => fin zz s' kp re eo rfl⟩
    · rename_i τ' e1
      cases eo : outs fn.io 0 args τ' with
      | none => rw [eo] at e; cases e
      | some os' =>
        rw [eo] at e
        cases e
        exact ⟨F, Z, _, A, .nx τ', s0, e1, fun σ' H' Z' A' zz s' kp => fin (B := []) (m := .v .non) zz s' kp ⟨⟨rfl, rfl⟩, List.nodup_nil, fun _ _ _ h => (by cases h), fun _ h => by cases h⟩ eo rfl⟩
    · cases e
  · cases e
end
theorem spC_body {c : Cn} {H : Hp} {G : GS} {n f : Nat} {fn : Fn} {N : List Str} {vs : List V} {Q : VK} {E : XK} (hf : G.fns.lookup f = some fn) (hn : fn.ns = N.length) (h : spC c (callN G (n + 1)) f vs H Q E) :
    tSsr c G (callN G n) (fun cls d _ H => E cls d H) fn.io fn.body { nx := fun _ H' => Q .non H', rt := Q } (L2.start N vs) H := by
  rcases h with h | ⟨F, Z, args, A, x, os, s, e, k⟩
  · exact .inl (spN_body hf hn h)
  · rw [callN_exc, hf] at e
    simp only at e
    split at e
    · rename_i hl
      have la : args.length = vs.length := by have := s.len; simpa using this
      have s0 := s.ext (fn.ns - fn.np)
      have es : (vs.map some ++ List.replicate (fn.ns - fn.np) none : L2.St) = L2.start N vs := by
        unfold L2.start
        rw [hn, ← hl.1, la]
      rw [es] at s0
      split at e
      · cases e
      · split at e
        · rename_i y τ' e1
          cases eo : outs fn.io 0 args τ' with
          | none => rw [eo] at e; cases e
          | some os' =>
            rw [eo] at e
            cases e
            refine .inr ⟨F, Z, _, A, _, τ', s0, e1, fun σ' cls d H' Z' A' zz kp s' rx => ?_⟩
            obtain ⟨A2, st, _⟩ := outs_sta s zz s' kp eo la
            exact k cls d H' Z' A2 zz st rx
        · cases e
    · cases e
/-- whether a def may call and tell a repr: all but the classes' own == -/
noncomputable def Tb.full (tb : Tb) (f : Nat) : Bool := !(tb.G.cls.any fun p => p.2.eq == some f)
theorem Tb.leaf (tb : Tb) {ci : Nat} {kk : Cl} {f : Nat} (h : tb.G.cls.lookup ci = some kk) (e : kk.eq = some f) : tb.full f = false := by
  unfold Tb.full
  rw [Bool.not_eq_false', List.any_eq_true]
  exact ⟨(ci, kk), mem_of_lookup h, by rw [e]; exact beq_self_eq_true _⟩
/-- what the written part says of the text's defs and classes -/
structure Txt (P : Program) (K : PySem.W.Frag) (mg : Str → Option Value) (c : Cn) (tb : Tb) (fa : Nat → Addr) (fd : Nat → FuncData) (ps : Nat → List Str) : Prop where
  cK : c.K = K
  attrs : c.attrs = tb.attrs
  call : ∀ (f : Nat) (x : Str), tb.fn.lookup f = some x → (tb.G.fns.lookup f).isSome = true ∧ mg x = some (.ref (fa f))
  bind : ∀ (f : Nat) (fn : Fn), tb.G.fns.lookup f = some fn → PySem.W.keepIn K (.ref (fa f)) = true ∧ Binds K (fd f) (ps f) []
  make : ∀ (ci : Nat) (x : Str) (kk : Cl), tb.cls.lookup ci = some x → tb.G.cls.lookup ci = some kk → ∃ C, c.cls.lookup ci = some C ∧ Mk K C (fa kk.init) ∧ mg x = some (.ref C) ∧ (tb.G.fns.lookup kk.init).isSome = true
  meth : ∀ (ci : Nat) (kk : Cl) (m : Nat) (x : Str) (f : Nat), tb.G.cls.lookup ci = some kk → kk.ms.lookup m = some f → tb.attrs[m]? = some x → ∃ C, c.cls.lookup ci = some C ∧ Cls K C ∧ Meth K C x (fa f) ∧ (tb.G.fns.lookup f).isSome = true
  blt : ∀ x ∈ bltNames, mg x = none
  eqs : ∀ (ci : Nat) (kk : Cl) (f : Nat), tb.G.cls.lookup ci = some kk → kk.eq = some f → ∃ C, c.cls.lookup ci = some C ∧ OwnE K C (fa f) ∧ (tb.G.fns.lookup f).isSome = true
  glob : ∀ p ∈ tb.cons, ∃ d u v, tb.G.consts[p.2]? = some d ∧ mg p.1 = some u ∧ RelV v u ∧ ∀ y Z, Rep (c.at y) Z d v
  fld : ∀ (f : Nat) (x : Str), tb.attrs[f]? = some x → ∀ (ci : Nat) (C : Addr), c.cls.lookup ci = some C → Cls K C ∧ (c.fok ci f = true → NoAttr K C x)
  fok : ∀ (f ci : Nat) (kk : Cl), tb.G.cls.lookup ci = some kk → kk.fl.contains f = true → c.fok ci f = true
  exc : ExcOk K P mg c tb
  ex0 : c.ex = none
  cur0 : tb.G.cur = none
/-- a def of the text -/
structure DefAt (K : PySem.W.Frag) (tb : Tb) (full : Bool) (fn : Fn) (fa : Addr) (fd : FuncData) (ps : List Str) : Prop where
  ex : ∃ (name qual : Str) (st : Stmt) (N : List Str), Fun K name qual st fa fd ∧ FnScope N ps (defScope st) ∧ fn.ns = N.length ∧ fn.np = ps.length ∧ chSs tb ⟨N, (defScope st).names, true, [], full, true⟩ fn.body (defBody st) = true
theorem fns_ok {P : Program} {w : World} {K : PySem.W.Frag} {mg : Str → Option Value} {base : Heap} {c : Cn} {tb : Tb} {fa : Nat → Addr} {fd : Nat → FuncData} {ps : Nat → List Str} (T : Txt P K mg c tb fa fd ps)
    (D : ∀ (f : Nat) (fn : Fn), tb.G.fns.lookup f = some fn → DefAt K tb (tb.full f) fn (fa f) (fd f) (ps f)) :
    ∀ (n f : Nat) (fn : Fn), tb.G.fns.lookup f = some fn → FnR (tb.full f) P w K mg base (L2.CX P w) (2 * n + 1) (fa f) (fd f) (ps f) (spC c (callN tb.G n) f)
  | 0, f, fn, hf => by
    refine ⟨fun vs H Q E h => ?_, fun A outer s H args us vs Q E hg hr he hb hv h => ?_⟩
    · rcases h with ⟨_, _, _, _, _, _, _, e, _⟩ | ⟨_, _, _, _, _, _, _, e, _⟩
      · rw [callN_zero] at e; cases e
      · rw [callN_zeroX] at e; cases e
    · rcases h with ⟨_, _, _, _, _, _, _, e, _⟩ | ⟨_, _, _, _, _, _, _, e, _⟩
      · rw [callN_zero] at e; cases e
      · rw [callN_zeroX] at e; cases e
  | n + 1, f, fn, hf => by
    have ih := fns_ok (P := P) (w := w) (base := base) T D n
    obtain ⟨name, qual, st, N, Fu, S, hns, hnp, hch⟩ := (D f fn hf).ex
    refine funRX Fu S (fun vs H Q E h => ?_) (k := 2 * n + 2) (fun cdv A outer s H vs Q E hg hr h => ?_)
    · rcases h with ⟨F, Z, args, A, out, os, s, e, k⟩ | ⟨F, Z, args, A, out, os, s, e, k⟩
      · rw [callN_run, hf] at e
        simp only at e
        split at e
        · rename_i hl
          have := s.len
          simp only [List.length_map] at this
          omega
        · cases e
      · rw [callN_exc, hf] at e
        simp only at e
        split at e
        · rename_i hl
          have := s.len
          simp only [List.length_map] at this
          omega
        · cases e
    · have room : ∀ {j : Nat}, j ≤ 2 * n + 2 → Room j (A.deeper (envOfC qual (defScope st) s.heap.objs.size (fa f) cdv)) := fun hj => hr.mono hj
      have code : ∀ {f' : Nat}, (tb.G.fns.lookup f').isSome = true → ∃ fn', tb.G.fns.lookup f' = some fn' := fun h => Option.isSome_iff_exists.mp h
      have o : OkX c tb (callN tb.G n) none ⟨N, (defScope st).names, true, [], tb.full f, true⟩ (cxOf (L2.CX P w) P w K mg base N qual (defScope st) (fa f) cdv A outer s H E) :=
        { K := T.cK.symm, full := hg, calm := fun _ => rfl, hu := by
            have := hr.un
            show (A.deeper _).units + 65 < cLine
            omega
          N := rfl, nd := S.nd, nm := rfl, kind := S.kind, top := fun _ _ => rfl, raw := fun _ h => (by cases h)
          call := fun hfu f' x hx => by
            obtain ⟨h1, h2⟩ := T.call f' x hx
            obtain ⟨fn', h3⟩ := code h1
            obtain ⟨h4, h5⟩ := T.bind f' fn' h3
            exact ⟨fa f', fd f', ps f', 2 * n + 1, (ih f' fn' h3).weak, room (by omega), h2, h4, h5⟩
          make := fun _ ci x kk h1 h2 => by
            obtain ⟨C, h3, h4, h5, h6⟩ := T.make ci x kk h1 h2
            obtain ⟨fn', h7⟩ := code h6
            exact ⟨C, fa kk.init, fd kk.init, ps kk.init, 2 * n + 1, h3, h4, fun _ => (ih _ fn' h7).weak, room (by omega), h5, (T.bind _ fn' h7).2⟩
          meth := fun hfu ci kk m x f' h1 h2 h3 => by
            obtain ⟨C, h4, h5, h6, h7⟩ := T.meth ci kk m x f' h1 h2 h3
            obtain ⟨fn', h8⟩ := code h7
            exact ⟨C, fa f', fd f', ps f', 2 * n + 1, h4, h5, h6, (ih _ fn' h8).weak, room (by omega), (T.bind _ fn' h8).2⟩
          eqs := fun _ ci kk f' h1 h2 => by
            obtain ⟨C, h3, h4, h5⟩ := T.eqs ci kk f' h1 h2
            obtain ⟨fn', h6⟩ := code h5
            have F := ih _ fn' h6
            rw [tb.leaf h1 h2] at F
            exact ⟨C, fa f', fd f', ps f', 2 * n + 1, h3, h4, F.ok, room (by omega), (T.bind _ fn' h6).2⟩
          blt := T.blt, glob := T.glob, attrs := T.attrs, fld := T.fld, fok := T.fok, exc := T.exc, ex0 := fun _ => T.ex0, rm := fun _ => room (by omega), cur := fun _ _ z => by cases z }
      have eG : tb.G.at none = tb.G := by
        have := T.cur0
        cases hG : tb.G
        rw [hG] at this
        cases this
        rfl
      have key := chSsr_ok (io := fn.io) (W := fun cls d _ H => E cls d H) o (passes_of rfl) ⟨rfl, rfl⟩ (takes_of rfl rfl rfl rfl) hch
      rw [eG] at key
      exact ⟨_, key, spC_body hf hns h⟩
end Ev

/-! Ev, part P: the end: a law's call over every script. -/
namespace Ev
open PySem L2 PyProof.Rows
/-- law's promise: a list of at most 63 ints is handed in, True comes out -/
noncomputable def spLaw (K : PySem.W.Frag) : Sp := fun vs H Q _ => ∃ (a : Addr) (ns : List Int), vs = [.ref a] ∧ SqL K H a (ns.map V.int) ∧ ns.length ≤ 63 ∧ ∀ H', Q (.bl true) H'
theorem spLaw_of {K : PySem.W.Frag} {c : Cn} {G : GS} {n f : Nat} (hK : c.K = K) (hx : c.ex = none) (L : ∀ ns : List Int, ns.length ≤ 63 → callN G n f [.v (.scr ns)] = some (.v (.bl true), [.v (.scr ns)])) : ∀ vs H Q E, spLaw K vs H Q E → spC c (callN G n) f vs H Q E := by
  intro vs H Q E h
  obtain ⟨a, ns, rfl, hs, hl, k⟩ := h
  refine .inl ⟨fun _ => none, H, [.v (.scr ns)], fun _ => [], .v (.bl true), [.v (.scr ns)], ⟨fun _ _ e => (by cases e), Same.refl _, fun _ _ _ => rfl, rfl, fun i m e => ?_, fun _ => List.nodup_nil, fun _ _ _ h _ => (by cases h), fun _ _ h => (by cases h), fun _ _ e => e, fun _ _ _ e => (by rw [hx] at e; cases e)⟩, L ns hl, fun x H' Z' A' B zz s re => ?_⟩
  · cases i with
    | zero =>
      cases (show some (M.v (.scr ns)) = some m from by simpa using e)
      exact ⟨.ref a, rfl, rfl, a, rfl, by rw [hK]; exact hs⟩
    | succ i => simp at e
  · rw [show x = .bl true from re.rr.2]
    exact k H'
theorem walk {l : PySem.W.OpenLaw} {q : Program} {loose : List Str} {XP : (Str → Option Value) → Heap → Prop} {YP : World → Heap → Prop} {d : DefRec} {K : Params → PySem.W.Frag} {G : GS} {n f : Nat} {x : Str} (hn : l.most = some 63) (hdf : d.params.defaults = [])
    (hY : ∀ (w : World) (h : Heap), YP w h → (K w.params).In h) (room : L2.Room (2 * n + 1) callerA)
    (L : ∀ ns : List Int, ns.length ≤ 63 → callN G n f [.v (.scr ns)] = some (.v (.bl true), [.v (.scr ns)]))
    (F : ∀ (w : World) (mg : Str → Option Value) (fa : Addr) (h : Heap), (K w.params).In h → h.Ns mainGlobals mg → mg d.name = some (.ref fa) →
      ∃ fd : FuncData, (∀ (s : Shared) (u : Value), BindsTo s fd ⟨[u], []⟩ [(x, u)]) ∧ ∃ c : Cn, c.K = K w.params ∧ c.ex = none ∧ ∀ base : Heap, ∀ n : Nat, FnR true l.prog w (K w.params) mg base (L2.CX l.prog w) (2 * n + 1) fa fd [x] (spC c (callN G n) f)) :
    PySem.W.WalkO q loose XP YP l.row.toRowW d [] (fun f vs => PySem.call f vs) := by
  refine Att.attach_call (n := 63) hn hdf fun w s₀ s₁ mg mb fa o pm cd doc a vs ns g Y ho hd hcd hmg hobj hints hlen hg => ?_
  obtain ⟨fd, hb, c, hc, hx, hF⟩ := F w mg fa _ (hY w _ Y) g.T.g hmg
  exact lawR (hY w _ Y) g.T.g g.T.b g.T.builtins g.T.nolimit hg hobj hints (Nat.le_trans hlen (by decide)) room (fun base _ _ => (hF base n).imp (spLaw_of hc hx L)) hb (fun H _ hS => ⟨a, ns, rfl, hS, hlen, fun _ => rfl⟩) fun _ _ _ z => by
    obtain ⟨_, _, _, _, _, _, _, _, _, _, _, _, h⟩ := z
    exact h
end Ev

/-! Ev, part Hx: what a head tells of the classes of errors. -/
namespace Ev
open PySem PySem.Spec L2 PyProof.Rows PySem.W
theorem kit_VE {K : PySem.W.Frag} {C : Addr} (h : mroIn K C (.type "ValueError") = some true) : kitOne K (.ref C) (.type "ValueError") = some true := by
  unfold kitOne
  have e : (Value.ref C == Value.type "ValueError") = false := rfl
  rw [e]
  simp only [Bool.false_eq_true, if_false]
  have m : kitMeta "ValueError" = true := by decide +kernel
  unfold kitCls
  simp only
  rw [m]
  simp only [if_true]
  exact h
theorem pair_ok {K : PySem.W.Frag} {C D : Addr} {b : Bool} (self : mroIn K C (.ref C) = some true) (ht : typeIn K (.ref D) = some (.type "type")) (hm : mroIn K D (.type "object") = some true) (hb : subIn K (.ref D) (.type "BaseException") = some true) (hd : hasDictIn K D = true) (h : mroIn K C (.ref D) = some b) :
    kitOne K (.ref C) (.ref D) = some b ∧ exmOne K (.ref C) (.ref D) = some b := by
  refine ⟨?_, exm_ref hb hd ht h⟩
  by_cases z : C = D
  · subst z
    rw [self] at h
    cases h
    unfold kitOne
    rw [beq_self_eq_true]
    simp only [if_true]
  · exact kit_ref ht hm (by simpa using z) h
theorem sup_of {K : PySem.W.Frag} {C C0 : Addr} {nm q nm0 q0 : Str} {N N0 : Addr} {bs bs0 bm : List Value} {sn sn0 : List Str} {sub sub0 : List Value} {hd hd0 ab ab0 : Bool} {col col0 : Option Bool} {dd dd0 : Option Addr} {k0 k1 k2 k3 k5 j0 j1 j2 j3 j5 : Option Value} {n n0 : String}
    (xL : K.lookup C = some (excClassObj nm q C N bs (.ref C0 :: bm) hd sn sub ab col dd k0 k1 k2 k3 k5 n)) (xL0 : K.lookup C0 = some (excClassObj nm0 q0 C0 N0 bs0 bm hd0 sn0 sub0 ab0 col0 dd0 j0 j1 j2 j3 j5 n0)) (f0 : findIn K (.ref C0) "__init__" = some (some (.builtin veI))) :
    ks_superIn K C C "__init__" = some (some (.builtin veI)) := by
  unfold findIn at f0
  simp only [xL0] at f0
  unfold ks_superIn clsIn
  simp only [xL, Option.bind_some]
  have e : (((Value.ref C :: .ref C0 :: bm).dropWhile (· != .ref C)).drop 1) = .ref C0 :: bm := by simp [List.dropWhile_cons]
  rw [e]
  exact f0
noncomputable def InitB (f : Str) (b : List Stmt) : Prop := ∃ (m1 : Str) (p0 p1 p2 ap ps pos' q0 q1 q2 q3 : Pos) (j : Nat), b = [.Expr (.Call (.Attribute (.Call (.Name "super" p0) [] [] p1) "__init__" ap) [.Constant (.str m1) j p2] [] ps) pos', .Assign [.Attribute (.Name "self" q0) f q1] (.Name f q2) q3] ∧ (ap.endLine == ps.line) = true
theorem raise_B {K : PySem.W.Frag} {P : Program} {mg : Str → Option Value} {C g : Addr} {f : Str} {body : List Stmt} {sc : Scope} (hb : InitB f body) (S : SupI K P mg C g body sc [("self" : Str), f]) (h1 : findIn K (.ref C) f = some none) (h2 : (f == ("__debug__" : Str)) = false) : RaiseF K P mg C (some f) := by
  obtain ⟨m1, p0, p1, p2, ap, ps, pos', q0, q1, q2, q3, j, rfl, hl⟩ := hb
  exact ⟨g, sc, m1, p0, p1, p2, ap, ps, pos', q0, q1, q2, q3, j, hl, S, h1, h2⟩
theorem excOk_mk {K : PySem.W.Frag} {P : Program} {mg : Str → Option Value} {c : Cn} {tb : Tb}
    (q1 : ∀ q ∈ c.exc, ∃ ec, tb.G.exc.lookup q.1 = some ec ∧ ExcC K q.2 ∧ kitOne K (.ref q.2) (.type "ValueError") = some true ∧ ∀ r ∈ c.exc, kitOne K (.ref q.2) (.ref r.2) = some (ec.up.contains r.1) ∧ exmOne K (.ref q.2) (.ref r.2) = some (ec.up.contains r.1))
    (q2 : ∀ q ∈ c.exc, ∀ p ∈ tb.G.exc, ∀ f, p.2.fld = some f → ∀ n, tb.attrs[f]? = some n → findIn K (.ref q.2) n = some none)
    (q3 : ∀ q ∈ tb.xn, ∃ C, c.exc.lookup q.1 = some C ∧ mg q.2 = some (.ref C)) (q4 : mg "ValueError" = none)
    (q5 : ∀ q ∈ c.exc, ∀ ec, tb.G.exc.lookup q.1 = some ec → ec.rs = true → (ec.fld = none → RaiseF K P mg q.2 none) ∧ ∀ f, ec.fld = some f → ∃ n, tb.attrs[f]? = some n ∧ RaiseF K P mg q.2 (some n)) : ExcOk K P mg c tb where
  xcl := fun k C h => by
    obtain ⟨ec, h1, h2, h3, h4⟩ := q1 (k, C) (mem_of_lookup h)
    exact ⟨ec, h1, h2, h3, fun j D hD => h4 (j, D) (mem_of_lookup hD)⟩
  xno := fun k C f n h h1 h2 => by
    obtain ⟨p, hp, e⟩ := List.any_eq_true.mp h1
    exact q2 (k, C) (mem_of_lookup h) p hp f (by simpa using e) n h2
  name := fun k x h => q3 (k, x) (mem_of_lookup h)
  noVE := q4
  rais := fun k C ec h h1 h2 => q5 (k, C) (mem_of_lookup h) ec h1 h2
end Ev

/-! Ev, part V: evaluations read from the outside in, as wishes (wp): what must hold so that an evaluation ends and Q holds behind it. -/
namespace Ev
open PySem L2
class HasF (G : GS) (i : Nat) (F : outParam Fn) : Prop where
  ok : G.fns.lookup i = some F
class HasC (G : GS) (i : Nat) (C : outParam Cl) : Prop where
  ok : G.cls.lookup i = some C
noncomputable def WO {α : Type} (o : Option α) (Q : α → Prop) : Prop := match o with
  | some a => Q a
  | none => False
theorem WO.use {α : Type} {o : Option α} {Q : α → Prop} (h : WO o Q) : ∃ a, o = some a ∧ Q a := by
  cases o with
  | none => exact h.elim
  | some a => exact ⟨a, rfl, h⟩
theorem WO.mk {α : Type} {o : Option α} {Q : α → Prop} {a : α} (e : o = some a) (h : Q a) : WO o Q := by rw [e]; exact h
theorem WO.mono {α : Type} {o : Option α} {Q R : α → Prop} (h : WO o Q) (k : ∀ a, Q a → R a) : WO o R := by
  cases o with
  | none => exact h
  | some a => exact k a h
theorem wo_some {α : Type} {a : α} {Q : α → Prop} : WO (some a) Q = Q a := rfl
theorem wo_none {α : Type} {Q : α → Prop} : WO (none : Option α) Q = False := rfl
theorem wo_ite {α : Type} {c : Prop} [Decidable c] {a : α} {Q : α → Prop} : WO (if c then some a else none) Q = (c ∧ Q a) := by
  by_cases h : c
  · rw [if_pos h, wo_some]; simp [h]
  · rw [if_neg h, wo_none]; simp [h]
theorem wo_map {α β : Type} {o : Option α} {f : α → β} {Q : β → Prop} : WO (o.map f) Q = WO o fun a => Q (f a) := by cases o <;> rfl
/-- an own equality, or none -/
noncomputable def oeqW (o : Option Nat) (A : Nat → Prop) (B : Prop) : Prop := match o with
  | some f => A f
  | none => B
/-- a call -/
noncomputable def WC (o : Option (M × List M)) (Q : M → List M → Prop) : Prop := match o with
  | some (m, os) => Q m os
  | none => False
theorem wc_some {m : M} {os : List M} {Q : M → List M → Prop} : WC (some (m, os)) Q = Q m os := rfl
theorem WC.use {o : Option (M × List M)} {Q : M → List M → Prop} (h : WC o Q) : ∃ m os, o = some (m, os) ∧ Q m os := by
  cases o with
  | none => exact h.elim
  | some a => exact ⟨a.1, a.2, rfl, h⟩
theorem WC.mono {o : Option (M × List M)} {Q R : M → List M → Prop} (h : WC o Q) (k : ∀ m os, Q m os → R m os) : WC o R := by
  cases o with
  | none => exact h
  | some a => exact k _ _ h
theorem WC.of {o : Option (M × List M)} {Q : M → List M → Prop} {m : M} {os : List M} (e : o = some (m, os)) (h : Q m os) : WC o Q := by rw [e]; exact h
theorem wc_eq {o : Option (M × List M)} {m : M} {os : List M} (h : WC o fun m' os' => m' = m ∧ os' = os) : o = some (m, os) := by
  obtain ⟨_, _, e, rfl, rfl⟩ := h.use
  exact e
/-- a statement: what is wanted behind it, of what is returned, of a break, of a continue -/
structure Wh where
  nx : T → Prop
  rt : M → T → Prop
  bk : T → Prop := fun _ => False
  ct : T → Prop := fun _ => False
noncomputable def Wh.of (w : Wh) : Fl → Prop
  | .nx τ => w.nx τ
  | .bk τ => w.bk τ
  | .ct τ => w.ct τ
  | .ret m τ => w.rt m τ
noncomputable def slR (i : Nat) : Option M → Option R
  | some (.v d) => some (.d d)
  | some _ => some (.pl i none)
  | none => none
noncomputable def asB : R → Option Bool
  | .d (.bl b) => some b
  | _ => none
noncomputable def asI : R → Option Int
  | .d (.int b) => some b
  | _ => none
noncomputable def asD : R → Option D
  | .d d => some d
  | _ => none
noncomputable def asX : R → Option Nat
  | .d (.exc n) => some n
  | _ => none
noncomputable def asM : R → Option M
  | .m m => some m
  | _ => none
noncomputable def asSeq : D → Option (List D)
  | .lst xs => some xs
  | .tup xs => some xs
  | .scr ns => some (ns.map .int)
  | _ => none
noncomputable def asMB : M → Option Bool
  | .v (.bl b) => some b
  | _ => none
noncomputable def revD : D → Option R
  | .lst xs => some (.m (.lst xs.reverse))
  | .tup xs => some (.d (.tup xs.reverse))
  | _ => none
noncomputable def setR (b : Bool) (xs : List D) : Option R := if b = true then (ssetD xs).map fun ys => .m (.lst ys) else (nsetD xs).map fun (n : Nat) => .d (.int (n : Int))
noncomputable def asLT : D → Option (List D)
  | .lst xs => some xs
  | .tup xs => some xs
  | _ => none
noncomputable def isDK : D → Option Unit
  | .dK _ _ => some ()
  | _ => none
noncomputable def lstD : D → Option (List D)
  | .lst xs => some xs
  | _ => none
noncomputable def zipLT : D → D → Option (List D)
  | .lst xs, .lst ys => some (zipD xs ys)
  | .tup xs, .tup ys => some (zipD xs ys)
  | _, _ => none
noncomputable def fldR (f : Nat) (τ : T) : R → Option R
  | .d (.ins _ fs) => (getD' f fs).map .d
  | .pl i none => (match getP τ i (some f) with
    | some (.v d) => some (.d d)
    | some _ => some (.pl i (some f))
    | none => none)
  | _ => none
noncomputable def WLc (g : D → T → Option T) (t : T → (Bool → T → Prop) → Prop) (e : T → (D → T → Prop) → Prop) (own : List Nat) : List D → List D → T → (List D → T → Prop) → Prop
  | [], acc, τ, Q => Q acc τ
  | x :: xs, acc, τ, Q => WO (g x τ) fun τ1 => t τ1 fun b τ2 => if b = true then e τ2 fun d τ3 => acc.length < SL ∧ WO (hideO own τ3) fun τ4 => WLc g t e own xs (acc ++ [d]) τ4 Q else WO (hideO own τ2) fun τ3 => WLc g t e own xs acc τ3 Q
section
variable (G : GS) (cl : Caller)
mutual
noncomputable def wpE (p : Bool) : CE → T → (R → T → Prop) → Prop
  | .k d, τ, Q => Q (.d d) τ
  | .s i, τ, Q => WO (slR i (slotM τ i)) fun r => Q r τ
  | .g i, τ, Q => WO (G.consts[i]?) fun d => Q (.d d) τ
  | .bin op a b, τ, Q => wpE p a τ fun ra τ1 => wpE (p || ra.isF) b τ1 fun rb τ2 => WO (look τ2 (setl ra)) fun x => WO (look τ2 (setl rb)) fun y => WO (binD op x y) fun r => Q r τ2
  | .un op a, τ, Q => wpE p a τ fun ra τ1 => WO (look τ1 (setl ra)) fun x => WO (unD op x) fun d => Q (.d d) τ1
  | .cmp op a b, τ, Q => wpE p a τ fun ra τ1 => wpE (p || ra.isF) b τ1 fun rb τ2 => WO (look τ2 (setl ra)) fun x => WO (look τ2 (setl rb)) fun y => WO (cmpD op x y) fun k => Q (.d (.bl k)) τ2
  | .chain o1 o2 a b c, τ, Q => wpE p a τ fun ra τ1 => WO (asD ra) fun x => wpE p b τ1 fun rb τ2 => WO (asD rb) fun y => WO (cmpD o1 x y) fun k => if k = true then wpE p c τ2 fun rc τ3 => WO (asD rc) fun z => WO (cmpD o2 y z) fun k => Q (.d (.bl k)) τ3 else Q (.d (.bl false)) τ2
  | .and a b, τ, Q => wpE p a τ fun ra τ1 => WO (asB ra) fun k => if k = true then wpE p b τ1 Q else Q (.d (.bl false)) τ1
  | .or a b, τ, Q => wpE p a τ fun ra τ1 => WO (asB ra) fun k => if k = true then Q (.d (.bl true)) τ1 else wpE p b τ1 Q
  | .not a, τ, Q => wpE p a τ fun ra τ1 => WO (asB ra) fun k => Q (.d (.bl (!k))) τ1
  | .ife t a b, τ, Q => wpT p t τ fun k τ1 => if k = true then wpE p a τ1 Q else wpE p b τ1 Q
  | .tup es, τ, Q => wpX p es τ fun ds τ1 => ds.length ≤ SL ∧ Q (.d (.tup ds)) τ1
  | .lst es, τ, Q => wpX p es τ fun ds τ1 => ds.length ≤ SL ∧ Q (.m (.lst ds)) τ1
  | .call f es, τ, Q => wpL p es τ fun rs τ1 => WO (G.fns.lookup f) fun fn => WO (takeA p fn.io 0 rs τ1) fun t => WC (cl f t.1) fun m os => Q (resR m) (giveA t.2.1 os t.2.2)
  | .mk c es, τ, Q => wpL p es τ fun rs τ1 => WO (G.cls.lookup c) fun k => WO (G.fns.lookup k.init) fun fn => WO (takeA p fn.io 1 rs τ1) fun t => WC (cl k.init (.ins c [] :: t.1)) fun m os => (∃ s r, m = .v .non ∧ os = s :: r ∧ Q (.m s) (giveA t.2.1 r t.2.2))
  | .blt f es, τ, Q => wpL p es τ fun rs τ1 => WO (rs.mapM (look τ1)) fun vs => WO (bltD f vs) fun r => Q r τ1
  | .um m o es, τ, Q => wpE p o τ fun ro τ1 => WO (recvC τ1 m ro) fun c => WO (G.cls.lookup c) fun k => WO (k.ms.lookup m) fun f => WO (G.fns.lookup f) fun fn => wpL p es τ1 fun rs τ2 => match ro with
    | .d d => WO (takeA p fn.io 1 rs τ2) fun t => WC (cl f (.v d :: t.1)) fun r os => ∃ s os', os = s :: os' ∧ Q (resR r) (giveA t.2.1 os' t.2.2)
    | .m m' => p = false ∧ WO (takeA p fn.io 1 rs τ2) fun t => WC (cl f (m' :: t.1)) fun r os => ∃ s os', os = s :: os' ∧ Q (resR r) (giveA t.2.1 os' t.2.2)
    | .pl i none => WO (takeA p fn.io 0 (.pl i none :: rs) τ2) fun t => WC (cl f t.1) fun r os => Q (resR r) (giveA t.2.1 os t.2.2)
    | .pl _ (some _) => False
  | .bm m o es, τ, Q => wpE p o τ fun ro τ1 => match ro with
    | .pl i f => p = false ∧ (∃ ys, getP τ1 i f = some (.lst ys)) ∧ wpX f.isSome es τ1 fun ds τ2 => ∃ xs, getP τ2 i f = some (.lst xs) ∧ WO (bmD m xs ds) fun t => Q (.d t.1) (setP τ2 i (.lst t.2) f)
    | _ => False
  | .idx a b, τ, Q => wpE p a τ fun ra τ1 => wpE (p || ra.isF) b τ1 fun rb τ2 => WO (look τ2 (setl ra)) fun x => WO (look τ2 (setl rb)) fun y => WO (idxD x y) fun d => Q (.d d) τ2
  | .slc a lo hi, τ, Q => wpE p a τ fun ra τ1 => (fun (K : Option Int → T → Prop) => if isNonK lo = true then K none τ1 else wpE (p || ra.isF) lo τ1 fun rl τ2 => WO (asI rl) fun l => K (some l) τ2) fun l τ2 =>
      (fun (K : Option Int → T → Prop) => if isNonK hi = true then K none τ2 else wpE (p || ra.isF) hi τ2 fun rl τ3 => WO (asI rl) fun h => K (some h) τ3) fun h τ3 => WO (look τ3 (setl ra)) fun x => WO (slcP x l h) fun r => Q r τ3
  | .fld a f, τ, Q => wpE p a τ fun ra τ1 => WO (fldR f τ1 ra) fun r => Q r τ1
  | .lc own tg it t elt, τ, Q => p = false ∧ wpI p it τ fun xs τ1 => WO (hideO own τ1) fun τ2 => WLc (bindTg [] tg) (wpT p t) (fun τ K => wpE p elt τ fun r τ' => WO (esc p τ' r) fun u => K u.1 u.2) own xs [] τ2 fun ds τ3 => Q (.m (.lst ds)) (backO τ1 own τ3)
  | .lrng it, τ, Q => wpI p it τ fun xs τ1 => xs.length ≤ SL ∧ Q (.m (.lst xs)) τ1
  | .rev a, τ, Q => wpE p a τ fun ra τ1 => WO (look τ1 (setl ra)) fun x => WO (revD x) fun r => Q r τ1
  | .dct t, τ, Q => Q (.m (if t then .dT [] [] else .dK [] [])) τ
  | .frz a, τ, Q => wpE p a τ fun r τ1 => Q (setl r) τ1
  | .isE c a, τ, Q => wpE p a τ fun ra τ1 => WO (asX ra) fun n => WO (curX G n) fun x => WO (isX G x.1 c) fun b => Q (.d (.bl b)) τ1
  | .eF a f, τ, Q => wpE p a τ fun ra τ1 => WO (asX ra) fun n => WO (curX G n) fun x => WO (getD' f x.2) fun d => Q (.d d) τ1
noncomputable def wpX (p : Bool) : CEs → T → (List D → T → Prop) → Prop
  | .nil, τ, Q => Q [] τ
  | .cons e r, τ, Q => wpE p e τ fun x τ1 => WO (esc p τ1 x) fun u => wpX p r u.2 fun ds τ3 => Q (u.1 :: ds) τ3
noncomputable def wpL (p : Bool) : CEs → T → (List R → T → Prop) → Prop
  | .nil, τ, Q => Q [] τ
  | .cons e r, τ, Q => wpE p e τ fun x τ1 => wpL (p || x.isF) r τ1 fun xs τ2 => Q (setl x :: xs) τ2
noncomputable def wpT (p : Bool) : CT → T → (Bool → T → Prop) → Prop
  | .yes, τ, Q => Q true τ
  | .and a b, τ, Q => wpT p a τ fun k τ1 => if k = true then wpT p b τ1 Q else Q false τ1
  | .or a b, τ, Q => wpT p a τ fun k τ1 => if k = true then Q true τ1 else wpT p b τ1 Q
  | .not a, τ, Q => wpT p a τ fun k τ1 => Q (!k) τ1
  | .e e, τ, Q => wpE p e τ fun r τ1 => WO (asB r) fun k => Q k τ1
noncomputable def wpI (p : Bool) : CI → T → (List D → T → Prop) → Prop
  | .e e, τ, Q => wpE p e τ fun r τ1 => WO (esc p τ1 r) fun u => WO (asSeq u.1) fun xs => Q xs u.2
  | .rng1 a, τ, Q => wpE p a τ fun r τ1 => WO (asI r) fun i => rngOk 0 i = true ∧ Q (rngD 0 i) τ1
  | .rng2 a b, τ, Q => wpE p a τ fun r τ1 => WO (asI r) fun i => wpE p b τ1 fun r2 τ2 => WO (asI r2) fun j => rngOk i j = true ∧ Q (rngD i j) τ2
  | .enum a, τ, Q => wpE p a τ fun r τ1 => WO (esc p τ1 r) fun u => WO (asLT u.1) fun xs => Q (enumD 0 xs) u.2
  | .zip a b, τ, Q => wpE p a τ fun ra τ1 => WO (esc p τ1 ra) fun u => wpE p b u.2 fun rb τ3 => WO (esc p τ3 rb) fun v => WO (zipLT u.1 v.1) fun zs => Q zs v.2
end
noncomputable def WFor (g : D → T → Option T) (b : T → Wh → Prop) : List D → T → Wh → Prop
  | [], τ, w => w.nx τ
  | x :: xs, τ, w => WO (g x τ) fun τ1 => b τ1 { nx := fun τ2 => WFor g b xs τ2 w, ct := fun τ2 => WFor g b xs τ2 w, bk := w.nx, rt := w.rt }
noncomputable def WWhl (t : T → (Bool → T → Prop) → Prop) (b : T → Wh → Prop) : Nat → T → Wh → Prop
  | 0, _, _ => False
  | n + 1, τ, w => t τ fun k τ1 => if k = true then b τ1 { nx := fun τ2 => WWhl t b n τ2 w, ct := fun τ2 => WWhl t b n τ2 w, bk := w.nx, rt := w.rt } else w.nx τ1
noncomputable def wpM : CEs → T → (List M → T → Prop) → Prop
  | .nil, τ, Q => Q [] τ
  | .cons e r, τ, Q => wpE G cl false e τ fun x τ1 => WO (give τ1 x) fun u => wpM r u.2 fun ms τ3 => Q (u.1 :: ms) τ3
mutual
noncomputable def wpS (io : List Nat) : CS → T → Wh → Prop
  | .set i e, τ, w => io.contains i = false ∧ wpE G cl false e τ fun r τ1 => WO (give τ1 r) fun u => w.nx (u.2.set i (some u.1))
  | .setT tg e, τ, w => wpE G cl false e τ fun r τ1 => WO (esc false τ1 r) fun u => WO (bindTg io tg u.1 u.2) w.nx
  | .par i j a b, τ, w => (io.contains i || io.contains j) = false ∧ wpX G cl false (.cons a (.cons b .nil)) τ fun ds τ1 => ∃ x y, ds = [x, y] ∧ w.nx ((τ1.set i (some (.v x))).set j (some (.v y)))
  | .aug i op e, τ, w => io.contains i = false ∧ ∃ x, slotM τ i = some (.v (.int x)) ∧ wpE G cl false e τ fun r τ1 => WO (asI r) fun y => WO (augD op x y) fun z => w.nx (τ1.set i (some (.v (.int z))))
  | .fset i f e, τ, w => wpE G cl false e τ fun r τ1 => WO (give τ1 r) fun u => ∃ c fs, slotM u.2 i = some (.ins c fs) ∧ fs.length < 900 ∧ ((G.cls.lookup c).map fun k => k.fl.contains f) = some true ∧ w.nx (u.2.set i (some (.ins c (putA f u.1 fs))))
  | .iset i k e, τ, w => wpE G cl false e τ fun r τ1 => WO (esc false τ1 r) fun u => wpE G cl true k u.2 fun rk _ => WO (asD rk) fun kd => WO (slotM u.2 i) fun m => WO (setIx m kd u.1) fun m' => w.nx (u.2.set i (some m'))
  | .fiset i f k e, τ, w => wpE G cl false e τ fun r τ1 => WO (esc false τ1 r) fun u => wpE G cl true k u.2 fun rk _ => WO (asD rk) fun kd => WO (getP u.2 i (some f)) fun m => WO (setIx m kd u.1) fun m' => w.nx (setP u.2 i m' (some f))
  | .bad, _, _ => False
  | .rse _ _, _, _ => False
  | .tryx b hs, τ, w => WO (evS G cl io (.tryx b hs) τ) w.of
  | .ex e, τ, w => wpE G cl false e τ fun _ τ1 => w.nx τ1
  | .ret e, τ, w => wpE G cl false e τ fun r τ1 => match r with
    | .m m => w.rt m τ1
    | .pl i none => if io.contains i = true then WO (esc false τ1 r) fun u => w.rt (.v u.1) u.2 else WO (slotM τ1 i) fun m => w.rt m (τ1.set i none)
    | r => WO (esc false τ1 r) fun u => w.rt (.v u.1) u.2
  | .retN, τ, w => w.rt (.v .non) τ
  | .pass, τ, w => w.nx τ
  | .brk, τ, w => w.bk τ
  | .cont, τ, w => w.ct τ
  | .ite t a b, τ, w => wpT G cl false t τ fun k τ1 => if k = true then wpSs io a τ1 w else wpSs io b τ1 w
  | .whl t b, τ, w => WWhl (wpT G cl false t) (wpSs io b) WF τ w
  | .loop tg it b, τ, w => wpI G cl false it τ fun xs τ1 => WFor (bindTg io tg) (wpSs io b) xs τ1 w
noncomputable def wpSs (io : List Nat) : CSs → T → Wh → Prop
  | .nil, τ, w => w.nx τ
  | .cons s r, τ, w => wpS io s τ { w with nx := fun τ1 => wpSs io r τ1 w }
end
end
end Ev

/-! Ev, part W: the wishes are right. -/
namespace Ev
open PySem L2
section
variable {G : GS} {cl : Caller}
theorem wlc_eq {g : D → T → Option T} {t : T → (Bool → T → Prop) → Prop} {t' : T → Option (Bool × T)} {e : T → (D → T → Prop) → Prop} {e' : T → Option (D × T)} {own : List Nat}
    (ht : ∀ τ Q, t τ Q = WO (t' τ) fun u => Q u.1 u.2) (he : ∀ τ Q, e τ Q = WO (e' τ) fun u => Q u.1 u.2) :
    ∀ xs acc τ Q, WLc g t e own xs acc τ Q = WO (compL g t' e' own xs acc τ) fun u => Q u.1 u.2 := by
  intro xs
  induction xs with
  | nil => intro acc τ Q; rfl
  | cons x xs ih =>
    intro acc τ Q
    rw [WLc, compL]
    cases g x τ with
    | none => rfl
    | some τ1 =>
      simp only [wo_some, ht]
      rcases t' τ1 with _ | ⟨_ | _, τ2⟩
      · rfl
      · simp only [wo_some, Bool.false_eq_true, if_false]
        cases hideO own τ2 with
        | none => rfl
        | some τ3 => simp only [wo_some, ih]
      · simp only [wo_some, if_true, he]
        rcases e' τ2 with _ | ⟨d, τ3⟩
        · rfl
        · simp only [wo_some]
          by_cases hl : acc.length < SL
          · simp only [hl, true_and, if_true]
            cases hideO own τ3 with
            | none => rfl
            | some τ4 => simp only [wo_some, ih]
          · simp only [hl, false_and, if_false, wo_none]
mutual
theorem we_eq (p : Bool) : ∀ (e : CE) (τ : T) (Q : R → T → Prop), wpE G cl p e τ Q = WO (evE G cl p e τ) fun u => Q u.1 u.2
  | .k d, τ, Q => rfl
  | .s i, τ, Q => by
    rw [wpE, evE]
    rcases slotM τ i with _ | m
    · rfl
    · cases m <;> rfl
  | .g i, τ, Q => by
    rw [wpE, evE]
    cases G.consts[i]? <;> rfl
  | .bin op a b, τ, Q => by
    rw [wpE, evE, we_eq p a]
    rcases evE G cl p a τ with _ | ⟨ra, τ1⟩
    · rfl
    simp only [wo_some, we_eq (p || ra.isF) b]
    rcases evE G cl (p || ra.isF) b τ1 with _ | ⟨rb, τ2⟩
    · rfl
    simp only [wo_some]
    rcases look τ2 (setl ra) with _ | x
    · rfl
    rcases look τ2 (setl rb) with _ | y
    · rfl
    simp only [wo_some, wo_map]
  | .un op a, τ, Q => by
    rw [wpE, evE, we_eq p a]
    rcases evE G cl p a τ with _ | ⟨ra, τ1⟩
    · rfl
    simp only [wo_some]
    rcases look τ1 (setl ra) with _ | x
    · rfl
    simp only [wo_some, wo_map]
  | .cmp op a b, τ, Q => by
    rw [wpE, evE, we_eq p a]
    rcases evE G cl p a τ with _ | ⟨ra, τ1⟩
    · rfl
    simp only [wo_some, we_eq (p || ra.isF) b]
    rcases evE G cl (p || ra.isF) b τ1 with _ | ⟨rb, τ2⟩
    · rfl
    simp only [wo_some]
    rcases look τ2 (setl ra) with _ | x
    · rfl
    rcases look τ2 (setl rb) with _ | y
    · rfl
    simp only [wo_some, wo_map]
  | .chain o1 o2 a b c, τ, Q => by
    rw [wpE, evE, we_eq p a]
    rcases evE G cl p a τ with _ | ⟨_ | _ | _, τ1⟩ <;> try rfl
    rename_i x
    simp only [wo_some, asD, we_eq p b]
    rcases evE G cl p b τ1 with _ | ⟨_ | _ | _, τ2⟩ <;> try rfl
    rename_i y
    simp only [wo_some]
    rcases cmpD o1 x y with _ | _ | _ <;> try rfl
    simp only [wo_some, if_true, we_eq p c]
    rcases evE G cl p c τ2 with _ | ⟨_ | _ | _, τ3⟩ <;> try rfl
    simp only [wo_some, wo_map]
  | .and a b, τ, Q => by
    rw [wpE, evE, we_eq p a]
    rcases evE G cl p a τ with _ | ⟨ra, τ1⟩
    · rfl
    rcases ra with d | _ | _ <;> try rfl
    cases d <;> try rfl
    rename_i k
    cases k <;> simp only [wo_some, asB, we_eq p b, Bool.false_eq_true, if_false, if_true]
  | .or a b, τ, Q => by
    rw [wpE, evE, we_eq p a]
    rcases evE G cl p a τ with _ | ⟨ra, τ1⟩
    · rfl
    rcases ra with d | _ | _ <;> try rfl
    cases d <;> try rfl
    rename_i k
    cases k <;> simp only [wo_some, asB, we_eq p b, Bool.false_eq_true, if_false, if_true]
  | .not a, τ, Q => by
    rw [wpE, evE, we_eq p a]
    rcases evE G cl p a τ with _ | ⟨ra, τ1⟩
    · rfl
    rcases ra with d | _ | _ <;> try rfl
    cases d <;> rfl
  | .ife t a b, τ, Q => by
    rw [wpE, evE, wt_eq p t]
    rcases evT G cl p t τ with _ | ⟨_ | _, τ1⟩
    · rfl
    · simp only [wo_some, we_eq p b, Bool.false_eq_true, if_false]
    · simp only [wo_some, we_eq p a, if_true]
  | .tup es, τ, Q => by
    rw [wpE, evE, wx_eq p es]
    rcases evX G cl p es τ with _ | ⟨ds, τ1⟩
    · rfl
    simp only [wo_some, wo_ite]
  | .lst es, τ, Q => by
    rw [wpE, evE, wx_eq p es]
    rcases evX G cl p es τ with _ | ⟨ds, τ1⟩
    · rfl
    simp only [wo_some, wo_ite]
  | .call f es, τ, Q => by
    rw [wpE, evE, wl_eq p es]
    rcases evL G cl p es τ with _ | ⟨rs, τ1⟩
    · rfl
    simp only [wo_some]
    rcases G.fns.lookup f with _ | fn
    · rfl
    simp only [wo_some]
    rcases takeA p fn.io 0 rs τ1 with _ | ⟨ms, is, τ2⟩
    · rfl
    simp only [wo_some]
    rcases cl f ms with _ | ⟨m, os⟩ <;> rfl
  | .frz a, τ, Q => by
    rw [wpE, evE, we_eq p a]
    rcases evE G cl p a τ with _ | ⟨r, τ1⟩ <;> rfl
  | .mk c es, τ, Q => by
    rw [wpE, evE, wl_eq p es]
    rcases evL G cl p es τ with _ | ⟨rs, τ1⟩
    · rfl
    simp only [wo_some]
    rcases G.cls.lookup c with _ | k
    · rfl
    simp only [wo_some]
    rcases G.fns.lookup k.init with _ | fn
    · rfl
    simp only [wo_some]
    rcases takeA p fn.io 1 rs τ1 with _ | ⟨ms, is, τ2⟩
    · rfl
    simp only [wo_some]
    rcases cl k.init (.ins c [] :: ms) with _ | ⟨m, os⟩
    · rfl
    refine propext ⟨?_, ?_⟩
    · rintro ⟨s, r, rfl, rfl, h⟩
      exact h
    · intro h
      split at h
      · rename_i e; cases e; exact ⟨_, _, rfl, rfl, h⟩
      · exact h.elim
  | .blt f es, τ, Q => by
    rw [wpE, evE, wl_eq p es]
    rcases evL G cl p es τ with _ | ⟨rs, τ1⟩
    · rfl
    simp only [wo_some]
    rcases rs.mapM (look τ1) with _ | vs
    · rfl
    simp only [wo_some, wo_map]
  | .um m o es, τ, Q => by
    rw [wpE, evE, we_eq p o]
    rcases evE G cl p o τ with _ | ⟨ro, τ1⟩
    · rfl
    simp only [wo_some]
    rcases recvC τ1 m ro with _ | c
    · rfl
    simp only [wo_some]
    rcases G.cls.lookup c with _ | k
    · rfl
    simp only [wo_some]
    rcases k.ms.lookup m with _ | f
    · rfl
    simp only [wo_some]
    rcases G.fns.lookup f with _ | fn
    · rfl
    simp only [wo_some, wl_eq p es]
    rcases evL G cl p es τ1 with _ | ⟨rs, τ2⟩
    · rfl
    simp only [wo_some]
    rcases ro with d | m' | ⟨i, _ | f'⟩
    · simp only
      rcases takeA p fn.io 1 rs τ2 with _ | ⟨ms, is, τ3⟩
      · rfl
      simp only [wo_some]
      rcases cl f (.v d :: ms) with _ | ⟨r, _ | ⟨s, os⟩⟩
      · rfl
      · exact propext ⟨fun ⟨_, _, e, _⟩ => (nomatch e), fun h => h.elim⟩
      · exact propext ⟨fun ⟨_, _, e, h⟩ => by cases e; exact h, fun h => ⟨_, _, rfl, h⟩⟩
    · cases p with
      | true => exact propext ⟨fun h => (nomatch h.1), fun h => h.elim⟩
      | false =>
        simp only [true_and, Bool.false_eq_true, if_false]
        rcases takeA false fn.io 1 rs τ2 with _ | ⟨ms, is, τ3⟩
        · rfl
        simp only [wo_some]
        rcases cl f (m' :: ms) with _ | ⟨r, _ | ⟨s, os⟩⟩
        · rfl
        · exact propext ⟨fun ⟨_, _, e, _⟩ => (nomatch e), fun h => h.elim⟩
        · exact propext ⟨fun ⟨_, _, e, h⟩ => by cases e; exact h, fun h => ⟨_, _, rfl, h⟩⟩
    · simp only
      rcases takeA p fn.io 0 (.pl i none :: rs) τ2 with _ | ⟨ms, is, τ3⟩
      · rfl
      simp only [wo_some]
      rcases cl f ms with _ | ⟨r, os⟩ <;> rfl
    · rfl
  | .bm m o es, τ, Q => by
    rw [wpE, evE, we_eq p o]
    rcases evE G cl p o τ with _ | ⟨ro, τ1⟩
    · rfl
    simp only [wo_some]
    rcases ro with d | m' | ⟨i, f⟩
    · rfl
    · rfl
    cases p with
    | true => exact propext ⟨fun h => (nomatch h.1), fun h => h.elim⟩
    | false =>
      simp only [true_and, Bool.false_eq_true, if_false]
      rcases hg : getP τ1 i f with _ | m1
      · exact propext ⟨fun h => (by obtain ⟨⟨_, e⟩, _⟩ := h; cases e), fun h => h.elim⟩
      rcases m1 with _ | ys | _ | _ | _
      · exact propext ⟨fun h => (by obtain ⟨⟨_, e⟩, _⟩ := h; cases e), fun h => h.elim⟩
      · have : (∃ zs, some (M.lst ys) = some (M.lst zs)) = True := eq_true ⟨_, rfl⟩
        simp only [this, true_and, wx_eq f.isSome es]
        rcases evX G cl f.isSome es τ1 with _ | ⟨ds, τ2⟩
        · rfl
        simp only [wo_some]
        rcases hh : getP τ2 i f with _ | m2
        · exact propext ⟨fun h => (by obtain ⟨_, e, _⟩ := h; cases e), fun h => h.elim⟩
        rcases m2 with _ | zs | _ | _ | _
        · exact propext ⟨fun h => (by obtain ⟨_, e, _⟩ := h; cases e), fun h => h.elim⟩
        · simp only
          rcases hb : bmD m zs ds with _ | ⟨d, us⟩
          · exact propext ⟨fun h => (by obtain ⟨_, e, h⟩ := h; cases e; rw [hb] at h; exact h), fun h => h.elim⟩
          · exact propext ⟨fun h => (by obtain ⟨_, e, h⟩ := h; cases e; rw [hb] at h; exact h), fun h => ⟨_, rfl, by rw [hb]; exact h⟩⟩
        · exact propext ⟨fun h => (by obtain ⟨_, e, _⟩ := h; cases e), fun h => h.elim⟩
        · exact propext ⟨fun h => (by obtain ⟨_, e, _⟩ := h; cases e), fun h => h.elim⟩
        · exact propext ⟨fun h => (by obtain ⟨_, e, _⟩ := h; cases e), fun h => h.elim⟩
      · exact propext ⟨fun h => (by obtain ⟨⟨_, e⟩, _⟩ := h; cases e), fun h => h.elim⟩
      · exact propext ⟨fun h => (by obtain ⟨⟨_, e⟩, _⟩ := h; cases e), fun h => h.elim⟩
      · exact propext ⟨fun h => (by obtain ⟨⟨_, e⟩, _⟩ := h; cases e), fun h => h.elim⟩
  | .isE c a, τ, Q => by
    rw [wpE, evE, we_eq p a]
    rcases evE G cl p a τ with _ | ⟨ra, τ1⟩
    · rfl
    rcases ra with d | m | ⟨i, f⟩
    · rcases d with _ | _ | _ | _ | _ | _ | _ | _ | _ | _ | _ | _ | n <;> try rfl
      simp only [wo_some, asX]
      rcases curX G n with _ | x
      · rfl
      simp only [wo_some, wo_map]
    · rfl
    · rfl
  | .eF a f, τ, Q => by
    rw [wpE, evE, we_eq p a]
    rcases evE G cl p a τ with _ | ⟨ra, τ1⟩
    · rfl
    rcases ra with d | m | ⟨i, f⟩
    · rcases d with _ | _ | _ | _ | _ | _ | _ | _ | _ | _ | _ | _ | n <;> try rfl
      simp only [wo_some, asX]
      rcases curX G n with _ | x
      · rfl
      simp only [wo_some, wo_map]
    · rfl
    · rfl
  | .idx a b, τ, Q => by
    rw [wpE, evE, we_eq p a]
    rcases evE G cl p a τ with _ | ⟨ra, τ1⟩
    · rfl
    simp only [wo_some, we_eq (p || ra.isF) b]
    rcases evE G cl (p || ra.isF) b τ1 with _ | ⟨rb, τ2⟩
    · rfl
    simp only [wo_some]
    rcases look τ2 (setl ra) with _ | x
    · rfl
    rcases look τ2 (setl rb) with _ | y
    · rfl
    simp only [wo_some, wo_map]
  | .slc a lo hi, τ, Q => by
    rw [wpE, evE, we_eq p a]
    rcases evE G cl p a τ with _ | ⟨ra, τ1⟩
    · rfl
    simp only [wo_some]
    have hh : ∀ (l : Option Int) (τ2 : T), (if isNonK hi = true then WO (look τ2 (setl ra)) fun x => WO (slcP x l none) fun r => Q r τ2 else wpE G cl (p || ra.isF) hi τ2 fun rl τ3 => WO (asI rl) fun h => WO (look τ3 (setl ra)) fun x => WO (slcP x l (some h)) fun r => Q r τ3) =
        WO (match (if isNonK hi then some (none, τ2) else (match evE G cl (p || ra.isF) hi τ2 with
          | some (.d (.int h), τ3) => some (some h, τ3)
          | _ => none)) with
        | none => none
        | some (h, τ3) => match look τ3 (setl ra) with
          | some x => (slcP x l h).map fun r => (r, τ3)
          | none => none) fun u => Q u.1 u.2 := by
      intro l τ2
      by_cases hk : isNonK hi = true
      · simp only [hk, if_true]
        rcases look τ2 (setl ra) with _ | x
        · rfl
        simp only [wo_some, wo_map]
      · simp only [hk, Bool.false_eq_true, if_false, we_eq (p || ra.isF) hi]
        rcases evE G cl (p || ra.isF) hi τ2 with _ | ⟨rh, τ3⟩
        · rfl
        rcases rh with d | _ | _ <;> try rfl
        cases d <;> try rfl
        simp only [wo_some, asI]
        rcases look τ3 (setl ra) with _ | x
        · rfl
        simp only [wo_some, wo_map]
    by_cases hk : isNonK lo = true
    · simp only [hk, if_true]
      exact hh none τ1
    · simp only [hk, Bool.false_eq_true, if_false, we_eq (p || ra.isF) lo]
      rcases evE G cl (p || ra.isF) lo τ1 with _ | ⟨rl, τ2⟩
      · rfl
      rcases rl with d | _ | _ <;> try rfl
      cases d <;> try rfl
      simp only [wo_some, asI]
      exact hh _ τ2
  | .fld a f, τ, Q => by
    rw [wpE, evE, we_eq p a]
    rcases evE G cl p a τ with _ | ⟨ra, τ1⟩
    · rfl
    simp only [wo_some]
    rcases ra with d | _ | ⟨i, _ | _⟩ <;> try rfl
    · cases d <;> try rfl
      simp only [fldR, wo_map]
    · simp only [fldR]
      rcases getP τ1 i (some f) with _ | m
      · rfl
      cases m <;> rfl
  | .lc own tg it t elt, τ, Q => by
    rw [wpE, evE]
    cases p with
    | true => exact propext ⟨fun h => (nomatch h.1), fun h => h.elim⟩
    | false =>
      simp only [true_and, Bool.false_eq_true, if_false, wi_eq false it]
      rcases evI G cl false it τ with _ | ⟨xs, τ1⟩
      · rfl
      simp only [wo_some]
      rcases hideO own τ1 with _ | τ2
      · rfl
      simp only [wo_some]
      rw [wlc_eq (t' := evT G cl false t) (e' := fun t => match evE G cl false elt t with
          | some (r, t') => esc false t' r
          | none => none) (fun τ Q => wt_eq false t τ Q) fun τ Q => by
        rw [we_eq false elt]
        rcases evE G cl false elt τ with _ | ⟨r, τ'⟩ <;> rfl]
      rcases compL (bindTg [] tg) (evT G cl false t) (fun t => match evE G cl false elt t with
          | some (r, t') => esc false t' r
          | none => none) own xs [] τ2 with _ | ⟨ds, τ3⟩ <;> rfl
  | .lrng it, τ, Q => by
    rw [wpE, evE, wi_eq p it]
    rcases evI G cl p it τ with _ | ⟨xs, τ1⟩
    · rfl
    simp only [wo_some, wo_ite]
  | .rev a, τ, Q => by
    rw [wpE, evE, we_eq p a]
    rcases evE G cl p a τ with _ | ⟨ra, τ1⟩
    · rfl
    simp only [wo_some]
    rcases look τ1 (setl ra) with _ | x
    · rfl
    cases x <;> rfl
  | .dct t, τ, Q => rfl
theorem wx_eq (p : Bool) : ∀ (es : CEs) (τ : T) (Q : List D → T → Prop), wpX G cl p es τ Q = WO (evX G cl p es τ) fun u => Q u.1 u.2
  | .nil, τ, Q => rfl
  | .cons e r, τ, Q => by
    rw [wpX, evX, we_eq p e]
    rcases evE G cl p e τ with _ | ⟨x, τ1⟩
    · rfl
    simp only [wo_some]
    rcases esc p τ1 x with _ | ⟨d, τ2⟩
    · rfl
    simp only [wo_some, wx_eq p r, wo_map]
theorem wl_eq (p : Bool) : ∀ (es : CEs) (τ : T) (Q : List R → T → Prop), wpL G cl p es τ Q = WO (evL G cl p es τ) fun u => Q u.1 u.2
  | .nil, τ, Q => rfl
  | .cons e r, τ, Q => by
    rw [wpL, evL, we_eq p e]
    rcases evE G cl p e τ with _ | ⟨x, τ1⟩
    · rfl
    simp only [wo_some, wl_eq (p || x.isF) r, wo_map]
theorem wt_eq (p : Bool) : ∀ (e : CT) (τ : T) (Q : Bool → T → Prop), wpT G cl p e τ Q = WO (evT G cl p e τ) fun u => Q u.1 u.2
  | .yes, τ, Q => rfl
  | .e e, τ, Q => by
    rw [wpT, evT, we_eq p e]
    rcases evE G cl p e τ with _ | ⟨ra, τ1⟩
    · rfl
    rcases ra with d | _ | _ <;> try rfl
    cases d <;> rfl
  | .not a, τ, Q => by
    rw [wpT, evT, wt_eq p a]
    rcases evT G cl p a τ with _ | ⟨_, τ1⟩ <;> rfl
  | .and a b, τ, Q => by
    rw [wpT, evT, wt_eq p a]
    rcases evT G cl p a τ with _ | ⟨_ | _, τ1⟩
    · rfl
    · rfl
    · simp only [wo_some, wt_eq p b, if_true]
  | .or a b, τ, Q => by
    rw [wpT, evT, wt_eq p a]
    rcases evT G cl p a τ with _ | ⟨_ | _, τ1⟩
    · rfl
    · simp only [wo_some, wt_eq p b, Bool.false_eq_true, if_false]
    · rfl
theorem wi_eq (p : Bool) : ∀ (e : CI) (τ : T) (Q : List D → T → Prop), wpI G cl p e τ Q = WO (evI G cl p e τ) fun u => Q u.1 u.2
  | .e e, τ, Q => by
    rw [wpI, evI, we_eq p e]
    rcases evE G cl p e τ with _ | ⟨r, τ1⟩
    · rfl
    simp only [wo_some]
    rcases esc p τ1 r with _ | ⟨d, τ2⟩
    · rfl
    cases d <;> rfl
  | .rng1 a, τ, Q => by
    rw [wpI, evI, we_eq p a]
    rcases evE G cl p a τ with _ | ⟨ra, τ1⟩
    · rfl
    rcases ra with d | _ | _ <;> try rfl
    cases d <;> try rfl
    simp only [wo_some, asI, wo_ite]
  | .rng2 a b, τ, Q => by
    rw [wpI, evI, we_eq p a]
    rcases evE G cl p a τ with _ | ⟨ra, τ1⟩
    · rfl
    rcases ra with d | _ | _ <;> try rfl
    cases d <;> try rfl
    simp only [wo_some, asI, we_eq p b]
    rcases evE G cl p b τ1 with _ | ⟨rb, τ2⟩
    · rfl
    rcases rb with d | _ | _ <;> try rfl
    cases d <;> try rfl
    simp only [wo_some, wo_ite]
  | .enum a, τ, Q => by
    rw [wpI, evI, we_eq p a]
    rcases evE G cl p a τ with _ | ⟨r, τ1⟩
    · rfl
    simp only [wo_some]
    rcases esc p τ1 r with _ | ⟨d, τ2⟩
    · rfl
    cases d <;> rfl
  | .zip a b, τ, Q => by
    rw [wpI, evI, we_eq p a]
    rcases evE G cl p a τ with _ | ⟨ra, τ1⟩
    · rfl
    simp only [wo_some]
    rcases esc p τ1 ra with _ | ⟨x, τ2⟩
    · rfl
    simp only [wo_some, we_eq p b]
    rcases evE G cl p b τ2 with _ | ⟨rb, τ3⟩
    · rfl
    simp only [wo_some]
    rcases esc p τ3 rb with _ | ⟨y, τ4⟩
    · rfl
    cases x <;> cases y <;> rfl
end
end
end Ev

/-! Ev, part X: statements, loops, calls. -/
namespace Ev
open PySem L2
theorem wfor_eq {g : D → T → Option T} {b : T → Wh → Prop} {b' : T → Option Fl} (hb : ∀ τ w, b τ w = WO (b' τ) w.of) : ∀ xs τ w, WFor g b xs τ w = WO (forL g b' xs τ) w.of := by
  intro xs
  induction xs with
  | nil => intro τ w; rfl
  | cons x xs ih =>
    intro τ w
    rw [WFor, forL]
    rcases g x τ with _ | τ1
    · rfl
    simp only [wo_some, hb]
    rcases b' τ1 with _ | fl
    · rfl
    cases fl <;> simp only [wo_some, Wh.of, ih]
theorem wwhl_eq {t : T → (Bool → T → Prop) → Prop} {t' : T → Option (Bool × T)} {b : T → Wh → Prop} {b' : T → Option Fl} (ht : ∀ τ Q, t τ Q = WO (t' τ) fun u => Q u.1 u.2) (hb : ∀ τ w, b τ w = WO (b' τ) w.of) : ∀ n τ w, WWhl t b n τ w = WO (whileL t' b' n τ) w.of := by
  intro n
  induction n with
  | zero => intro τ w; rfl
  | succ n ih =>
    intro τ w
    rw [WWhl, whileL, ht]
    rcases t' τ with _ | ⟨_ | _, τ1⟩
    · rfl
    · rfl
    simp only [wo_some, if_true, hb]
    rcases b' τ1 with _ | fl
    · rfl
    cases fl <;> simp only [wo_some, Wh.of, ih]
section
variable {G : GS} {cl : Caller}
mutual
theorem ws_eq (io : List Nat) : ∀ (s : CS) (τ : T) (w : Wh), wpS G cl io s τ w = WO (evS G cl io s τ) w.of
  | .set i e, τ, w => by
    rw [wpS, evS]
    by_cases hi : io.contains i = true
    · rw [if_pos hi]; exact propext ⟨fun h => (by rw [hi] at h; exact nomatch h.1), fun h => h.elim⟩
    · rw [if_neg hi]
      have hf : (io.contains i = false) = True := eq_true (by simpa using hi)
      simp only [hf, true_and, we_eq false e]
      rcases evE G cl false e τ with _ | ⟨r, τ1⟩
      · rfl
      simp only [wo_some]
      rcases give τ1 r with _ | ⟨m, τ2⟩ <;> rfl
  | .setT tg e, τ, w => by
    rw [wpS, evS, we_eq false e]
    rcases evE G cl false e τ with _ | ⟨r, τ1⟩
    · rfl
    simp only [wo_some]
    rcases esc false τ1 r with _ | ⟨d, τ2⟩
    · rfl
    simp only [wo_some, wo_map]
    rfl
  | .par i j a b, τ, w => by
    rw [wpS, evS]
    by_cases hi : (io.contains i || io.contains j) = true
    · rw [if_pos hi]; exact propext ⟨fun h => (by rw [hi] at h; exact nomatch h.1), fun h => h.elim⟩
    · rw [if_neg hi]
      have hf : ((io.contains i || io.contains j) = false) = True := eq_true (Bool.eq_false_iff.mpr hi)
      simp only [hf, true_and, wx_eq false (.cons a (.cons b .nil))]
      rcases evX G cl false (.cons a (.cons b .nil)) τ with _ | ⟨_ | ⟨x, _ | ⟨y, _ | _⟩⟩, τ1⟩
      · rfl
      · exact propext ⟨fun ⟨_, _, e, _⟩ => (nomatch e), fun h => h.elim⟩
      · exact propext ⟨fun ⟨_, _, e, _⟩ => (nomatch e), fun h => h.elim⟩
      · exact propext ⟨fun ⟨_, _, e, h⟩ => by cases e; exact h, fun h => ⟨_, _, rfl, h⟩⟩
      · exact propext ⟨fun ⟨_, _, e, _⟩ => (nomatch e), fun h => h.elim⟩
  | .aug i op e, τ, w => by
    rw [wpS, evS]
    by_cases hi : io.contains i = true
    · rw [if_pos hi]; exact propext ⟨fun h => (by rw [hi] at h; exact nomatch h.1), fun h => h.elim⟩
    · rw [if_neg hi]
      have hf : (io.contains i = false) = True := eq_true (by simpa using hi)
      simp only [hf, true_and]
      rcases slotM τ i with _ | m
      · exact propext ⟨fun ⟨_, e, _⟩ => (nomatch e), fun h => h.elim⟩
      rcases m with d | _ | _ | _ | _ <;> try exact propext ⟨fun ⟨_, e, _⟩ => (nomatch e), fun h => h.elim⟩
      cases d <;> try exact propext ⟨fun ⟨_, e, _⟩ => (nomatch e), fun h => h.elim⟩
      rename_i x
      have : ∀ P : Int → Prop, (∃ x', some (M.v (.int x)) = some (M.v (.int x')) ∧ P x') = P x := fun P => propext ⟨fun ⟨_, e, h⟩ => by cases e; exact h, fun h => ⟨_, rfl, h⟩⟩
      rw [this]
      simp only [we_eq false e]
      rcases evE G cl false e τ with _ | ⟨r, τ1⟩
      · rfl
      rcases r with d | _ | _ <;> try rfl
      cases d <;> try rfl
      simp only [wo_some, asI]
      rcases augD op x _ with _ | z <;> rfl
  | .fset i f e, τ, w => by
    rw [wpS, evS, we_eq false e]
    rcases evE G cl false e τ with _ | ⟨r, τ1⟩
    · rfl
    simp only [wo_some]
    rcases give τ1 r with _ | ⟨m, τ2⟩
    · rfl
    simp only [wo_some]
    rcases slotM τ2 i with _ | m1
    · exact propext ⟨fun ⟨_, _, e, _⟩ => (nomatch e), fun h => h.elim⟩
    rcases m1 with _ | _ | _ | _ | _ <;> try exact propext ⟨fun ⟨_, _, e, _⟩ => (nomatch e), fun h => h.elim⟩
    simp only [wo_ite]
    exact propext ⟨fun ⟨_, _, e, h1, h2, h⟩ => by cases e; exact ⟨⟨h1, h2⟩, h⟩, fun h => ⟨_, _, rfl, h.1.1, h.1.2, h.2⟩⟩
  | .iset i k e, τ, w => by
    rw [wpS, evS, we_eq false e]
    rcases evE G cl false e τ with _ | ⟨r, τ1⟩
    · rfl
    simp only [wo_some]
    rcases esc false τ1 r with _ | ⟨d, τ2⟩
    · rfl
    simp only [wo_some, we_eq true k]
    rcases evE G cl true k τ2 with _ | ⟨rk, τ3⟩
    · rfl
    rcases rk with kd | _ | _ <;> try rfl
    simp only [wo_some, asD]
    rcases slotM τ2 i with _ | m
    · rfl
    simp only [wo_some]
    rcases setIx m kd d with _ | m' <;> rfl
  | .fiset i f k e, τ, w => by
    rw [wpS, evS, we_eq false e]
    rcases evE G cl false e τ with _ | ⟨r, τ1⟩
    · rfl
    simp only [wo_some]
    rcases esc false τ1 r with _ | ⟨d, τ2⟩
    · rfl
    simp only [wo_some, we_eq true k]
    rcases evE G cl true k τ2 with _ | ⟨rk, τ3⟩
    · rfl
    rcases rk with kd | _ | _ <;> try rfl
    simp only [wo_some, asD]
    rcases getP τ2 i (some f) with _ | m
    · rfl
    simp only [wo_some]
    rcases setIx m kd d with _ | m' <;> rfl
  | .bad, τ, w => rfl
  | .rse _ _, τ, w => rfl
  | .tryx _ _, τ, w => rfl
  | .ex e, τ, w => by
    rw [wpS, evS, we_eq false e]
    rcases evE G cl false e τ with _ | ⟨r, τ1⟩ <;> rfl
  | .ret e, τ, w => by
    rw [wpS, evS, we_eq false e]
    rcases evE G cl false e τ with _ | ⟨r, τ1⟩
    · rfl
    simp only [wo_some]
    rcases r with d | m | ⟨i, _ | f⟩
    · rfl
    · rfl
    · simp only
      by_cases hi : io.contains i = true
      · simp only [hi, if_true]
        rcases esc false τ1 (.pl i none) with _ | ⟨d, τ2⟩ <;> rfl
      · simp only [hi, if_false]
        rcases slotM τ1 i with _ | m <;> rfl
    · simp only
      rcases esc false τ1 (.pl i (some f)) with _ | ⟨d, τ2⟩ <;> rfl
  | .retN, τ, w => rfl
  | .pass, τ, w => rfl
  | .brk, τ, w => rfl
  | .cont, τ, w => rfl
  | .ite t a b, τ, w => by
    rw [wpS, evS, wt_eq false t]
    rcases evT G cl false t τ with _ | ⟨_ | _, τ1⟩
    · rfl
    · simp only [wo_some, Bool.false_eq_true, if_false, wss_eq io b]
    · simp only [wo_some, if_true, wss_eq io a]
  | .whl t b, τ, w => by
    rw [wpS, evS]
    exact wwhl_eq (fun τ Q => wt_eq false t τ Q) (fun τ w => wss_eq io b τ w) WF τ w
  | .loop tg it b, τ, w => by
    rw [wpS, evS, wi_eq false it]
    rcases evI G cl false it τ with _ | ⟨xs, τ1⟩
    · rfl
    simp only [wo_some]
    exact wfor_eq (fun τ w => wss_eq io b τ w) xs τ1 w
theorem wss_eq (io : List Nat) : ∀ (s : CSs) (τ : T) (w : Wh), wpSs G cl io s τ w = WO (evSs G cl io s τ) w.of
  | .nil, τ, w => rfl
  | .cons s r, τ, w => by
    rw [wpSs, evSs, ws_eq io s]
    rcases evS G cl io s τ with _ | fl
    · rfl
    cases fl
    · simp only [wo_some, Wh.of, wss_eq io r]
    · rfl
    · rfl
    · rfl
end
end
structure Wh.le (w v : Wh) : Prop where
  nx : ∀ τ, w.nx τ → v.nx τ
  rt : ∀ m τ, w.rt m τ → v.rt m τ
  bk : ∀ τ, w.bk τ → v.bk τ
  ct : ∀ τ, w.ct τ → v.ct τ
theorem Wh.le.of {w v : Wh} (h : w.le v) : ∀ fl, w.of fl → v.of fl
  | .nx τ => h.nx τ
  | .bk τ => h.bk τ
  | .ct τ => h.ct τ
  | .ret m τ => h.rt m τ
section
variable {G : GS} {cl : Caller}
theorem wpSs.mono {io : List Nat} {s : CSs} {τ : T} {w v : Wh} (h : wpSs G cl io s τ w) (k : w.le v) : wpSs G cl io s τ v := by
  rw [wss_eq] at h ⊢
  exact h.mono k.of
theorem wpE.mono {p : Bool} {e : CE} {τ : T} {Q R : R → T → Prop} (h : wpE G cl p e τ Q) (k : ∀ r τ, Q r τ → R r τ) : wpE G cl p e τ R := by
  rw [we_eq] at h ⊢
  exact h.mono fun u => k _ _
theorem wpT.mono {p : Bool} {e : CT} {τ : T} {Q R : Bool → T → Prop} (h : wpT G cl p e τ Q) (k : ∀ r τ, Q r τ → R r τ) : wpT G cl p e τ R := by
  rw [wt_eq] at h ⊢
  exact h.mono fun u => k _ _
/-- a for loop, by what holds ahead of each turn: done items, items to come -/
theorem for_inv {io : List Nat} {tg : Tg} {s : CSs} {w : Wh} (I : List D → List D → T → Prop) {xs : List D} {τ : T} (h0 : I [] xs τ)
    (h1 : ∀ ds x rs τ, xs = ds ++ x :: rs → I ds (x :: rs) τ → WO (bindTg io tg x τ) fun τ1 => wpSs G cl io s τ1 { nx := I (ds ++ [x]) rs, ct := I (ds ++ [x]) rs, bk := w.nx, rt := w.rt })
    (h2 : ∀ τ, I xs [] τ → w.nx τ) : WFor (bindTg io tg) (wpSs G cl io s) xs τ w := by
  have H : ∀ rs ds τ, xs = ds ++ rs → I ds rs τ → WFor (bindTg io tg) (wpSs G cl io s) rs τ w := by
    intro rs
    induction rs with
    | nil =>
      intro ds τ e h
      rw [List.append_nil] at e
      cases e
      exact h2 _ h
    | cons x rs ih =>
      intro ds τ e h
      rw [WFor]
      refine (h1 ds x rs τ e h).mono fun τ1 h => h.mono ⟨?_, fun _ _ => id, fun _ => id, ?_⟩
      · intro τ2 h; exact ih _ _ (by simp [e]) h
      · intro τ2 h; exact ih _ _ (by simp [e]) h
  exact H xs [] τ rfl h0
/-- the same, by a count -/
theorem for_nat {io : List Nat} {tg : Tg} {s : CSs} {w : Wh} (I : Nat → T → Prop) {xs : List D} {τ : T} (h0 : I 0 τ)
    (h1 : ∀ k x τ, xs[k]? = some x → I k τ → WO (bindTg io tg x τ) fun τ1 => wpSs G cl io s τ1 { nx := I (k + 1), ct := I (k + 1), bk := w.nx, rt := w.rt })
    (h2 : ∀ τ, I xs.length τ → w.nx τ) : WFor (bindTg io tg) (wpSs G cl io s) xs τ w := by
  refine for_inv (fun ds _ τ => I ds.length τ) h0 ?_ h2
  intro ds x rs τ e h
  refine (h1 ds.length x τ (by simp [e]) h).mono fun τ1 h => h.mono ⟨?_, fun _ _ => id, fun _ => id, ?_⟩
  · intro τ2 h; simpa using h
  · intro τ2 h; simpa using h
/-- a while loop, by a measure -/
theorem whl_inv {io : List Nat} {t : CT} {s : CSs} {w : Wh} (I : Nat → T → Prop) {n : Nat} {τ : T} (hn : n < WF) (h0 : I n τ)
    (h1 : ∀ k τ, I k τ → wpT G cl false t τ fun b τ1 => if b = true then wpSs G cl io s τ1 { nx := fun τ => ∃ j < k, I j τ, ct := fun τ => ∃ j < k, I j τ, bk := w.nx, rt := w.rt } else w.nx τ1) :
    WWhl (wpT G cl false t) (wpSs G cl io s) WF τ w := by
  have H : ∀ m k τ, k < m → I k τ → WWhl (wpT G cl false t) (wpSs G cl io s) m τ w := by
    intro m
    induction m with
    | zero => intro k τ h; exact absurd h (Nat.not_lt_zero _)
    | succ m ih =>
      intro k τ hk h
      rw [WWhl]
      refine (h1 k τ h).mono fun b τ1 h => ?_
      split at h
      · rw [if_pos ‹_›]
        refine h.mono ⟨?_, fun _ _ => id, fun _ => id, ?_⟩
        · rintro τ2 ⟨j, hj, h⟩; exact ih j _ (by omega) h
        · rintro τ2 ⟨j, hj, h⟩; exact ih j _ (by omega) h
      · rw [if_neg ‹_›]; exact h
  exact H WF n τ hn h0
/-- a comprehension, by what holds ahead of each turn -/
theorem lc_inv {own : List Nat} {g : D → T → Option T} {t : T → (Bool → T → Prop) → Prop} {e : T → (D → T → Prop) → Prop}
    {t' : T → Option (Bool × T)} {e' : T → Option (D × T)} (ht : ∀ τ Q, t τ Q = WO (t' τ) fun u => Q u.1 u.2) (he : ∀ τ Q, e τ Q = WO (e' τ) fun u => Q u.1 u.2)
    {Q : List D → T → Prop} (I : List D → List D → T → Prop) {xs : List D} {τ : T} (h0 : I xs [] τ)
    (h1 : ∀ x rs acc τ, I (x :: rs) acc τ → WO (g x τ) fun τ1 => t τ1 fun b τ2 => if b = true then e τ2 fun d τ3 => acc.length < SL ∧ WO (hideO own τ3) fun τ4 => I rs (acc ++ [d]) τ4 else WO (hideO own τ2) fun τ3 => I rs acc τ3)
    (h2 : ∀ acc τ, I [] acc τ → Q acc τ) : WLc g t e own xs [] τ Q := by
  have H : ∀ xs acc τ, I xs acc τ → WLc g t e own xs acc τ Q := by
    intro xs
    induction xs with
    | nil => intro acc τ h; exact h2 _ _ h
    | cons x xs ih =>
      intro acc τ h
      rw [WLc]
      refine (h1 x xs acc τ h).mono fun τ1 h => ?_
      rw [ht] at h ⊢
      refine h.mono fun u h => ?_
      split at h
      · rw [if_pos ‹_›, he]
        rw [he] at h
        exact h.mono fun u h => ⟨h.1, h.2.mono fun τ4 h => ih _ _ h⟩
      · rw [if_neg ‹_›]
        exact h.mono fun τ4 h => ih _ _ h
  exact H xs [] τ h0
end
theorem call_wp {G : GS} {n f : Nat} {F : Fn} [hF : HasF G f F] {args : List M} {Q : M → List M → Prop} (hl : args.length = F.np ∧ F.np ≤ F.ns)
    (h : wpSs G (callN G n) F.io F.body (args.map some ++ List.replicate (F.ns - F.np) none)
      { nx := fun τ => WO (outs F.io 0 args τ) fun os => Q (.v .non) os, rt := fun m τ => WO (outs F.io 0 args τ) fun os => Q m os }) : WC (callN G (n + 1) f args) Q := by
  rw [wss_eq] at h
  obtain ⟨fl, e, h⟩ := h.use
  rw [callN_run, hF.ok]
  simp only [hl.1, hl.2, and_self, if_true, e]
  cases fl with
  | nx τ => obtain ⟨os, eo, h⟩ := WO.use h; simp only [eo]; exact h
  | bk τ => exact h.elim
  | ct τ => exact h.elim
  | ret m τ => obtain ⟨os, eo, h⟩ := WO.use h; simp only [eo]; exact h
theorem wo_lookF {G : GS} {f : Nat} {F : Fn} [hF : HasF G f F] {Q : Fn → Prop} : WO (G.fns.lookup f) Q = Q F := by rw [hF.ok]; rfl
theorem wo_lookC {G : GS} {f : Nat} {F : Cl} [hF : HasC G f F] {Q : Cl → Prop} : WO (G.cls.lookup f) Q = Q F := by rw [hF.ok]; rfl
end Ev

/-! Ev, part Y: the small steps of an evaluation, each by its shape. -/
namespace Ev
open PySem L2
class HasG (G : GS) (i : Nat) (d : outParam D) : Prop where
  ok : G.consts[i]? = some d
theorem wo_getG {G : GS} {i : Nat} {d : D} [h : HasG G i d] {Q : D → Prop} : WO (G.consts[i]?) Q = Q d := by rw [h.ok]; rfl
theorem slot0 {m : Option M} {τ : T} : slotM (m :: τ) 0 = m := by cases m <;> rfl
theorem slotS {m : Option M} {τ : T} {n : Nat} : slotM (m :: τ) (n + 1) = slotM τ n := by simp only [slotM, List.getElem?_cons_succ]
theorem slR_n : slR i none = none := rfl
theorem slR_v {d : D} : slR i (some (.v d)) = some (.d d) := rfl
theorem slR_l {xs : List D} : slR i (some (.lst xs)) = some (.pl i none) := rfl
theorem slR_k {ks : List L2.Key} {xs : List D} : slR i (some (.dK ks xs)) = some (.pl i none) := rfl
theorem slR_t {ks : List (List L2.Key)} {xs : List D} : slR i (some (.dT ks xs)) = some (.pl i none) := rfl
theorem slR_i {c : Nat} {fs : List (Nat × M)} : slR i (some (.ins c fs)) = some (.pl i none) := rfl
theorem get_n {τ : T} {i : Nat} : getP τ i none = slotM τ i := rfl
theorem look_d {τ : T} {d : D} : look τ (.d d) = some d := rfl
theorem look_m {τ : T} {m : M} : look τ (.m m) = some (frz m) := rfl
theorem look_p {τ : T} {i : Nat} {f : Option Nat} : look τ (.pl i f) = (getP τ i f).bind viewM := by simp only [look]; cases getP τ i f <;> rfl
theorem esc_d {p : Bool} {τ : T} {d : D} : esc p τ (.d d) = some (d, τ) := rfl
theorem esc_m {p : Bool} {τ : T} {m : M} : esc p τ (.m m) = some (frz m, τ) := rfl
theorem esc_p {τ : T} {i : Nat} {f : Option Nat} : esc false τ (.pl i f) = (getP τ i f).map fun m => (frz m, setP τ i (.v (frz m)) f) := by unfold esc; simp only [Bool.false_eq_true, if_false]; cases getP τ i f <;> rfl
theorem give_d {τ : T} {d : D} : give τ (.d d) = some (.v d, τ) := rfl
theorem give_m {τ : T} {m : M} : give τ (.m m) = some (m, τ) := rfl
theorem give_p {τ : T} {i : Nat} {f : Option Nat} : give τ (.pl i f) = (getP τ i f).map fun m => (.v (frz m), setP τ i (.v (frz m)) f) := by simp only [give, esc_p]; cases getP τ i f <;> rfl
theorem isF_d {d : D} : (R.d d).isF = false := rfl
theorem isF_m {m : M} : (R.m m).isF = false := rfl
theorem isF_p {i : Nat} : (R.pl i none).isF = false := rfl
theorem isF_f {i f : Nat} : (R.pl i (some f)).isF = true := rfl
theorem setl_d {d : D} : setl (.d d) = .d d := rfl
theorem setl_m {m : M} : setl (.m m) = .d (frz m) := rfl
theorem setl_p {i : Nat} {f : Option Nat} : setl (.pl i f) = .pl i f := rfl
theorem asB_b {b : Bool} : asB (.d (.bl b)) = some b := rfl
theorem asI_i {b : Int} : asI (.d (.int b)) = some b := rfl
theorem asD_d {d : D} : asD (.d d) = some d := rfl
theorem seq_l {xs : List D} : asSeq (.lst xs) = some xs := rfl
theorem seq_t {xs : List D} : asSeq (.tup xs) = some xs := rfl
theorem seq_s {ns : List Int} : asSeq (.scr ns) = some (ns.map .int) := rfl
theorem lt_l {xs : List D} : asLT (.lst xs) = some xs := rfl
theorem lt_t {xs : List D} : asLT (.tup xs) = some xs := rfl
theorem zip_l {xs ys : List D} : zipLT (.lst xs) (.lst ys) = some (zipD xs ys) := rfl
theorem zip_t {xs ys : List D} : zipLT (.tup xs) (.tup ys) = some (zipD xs ys) := rfl
theorem frz_v {d : D} : frz (.v d) = d := by simp only [frz]
theorem frz_l {xs : List D} : frz (.lst xs) = .lst xs := by simp only [frz]
theorem frz_k {ks : List L2.Key} {xs : List D} : frz (.dK ks xs) = .dK ks xs := by simp only [frz]
theorem frz_t {ks : List (List L2.Key)} {xs : List D} : frz (.dT ks xs) = .dT ks xs := by simp only [frz]
theorem frz_i {c : Nat} {fs : List (Nat × M)} : frz (.ins c fs) = .ins c (frzF fs) := by simp only [frz]
theorem frzF_n : frzF [] = [] := by simp only [frzF]
theorem frzF_c {f : Nat} {m : M} {r : List (Nat × M)} : frzF ((f, m) :: r) = (f, frz m) :: frzF r := by simp only [frzF]
theorem take_n {p : Bool} {io : List Nat} {k : Nat} {τ : T} : takeA p io k [] τ = some ([], [], τ) := rfl
theorem take_d {p : Bool} {io : List Nat} {k : Nat} {d : D} {rs : List R} {τ : T} : takeA p io k (.d d :: rs) τ = (takeA p io (k + 1) rs τ).map fun t => (.v d :: t.1, none :: t.2.1, t.2.2) := by simp only [takeA, esc]
theorem take_p {io : List Nat} {k i : Nat} {rs : List R} {τ : T} : takeA false io k (.pl i none :: rs) τ = if io.contains k = true then (slotM τ i).bind fun m => (takeA false io (k + 1) rs (τ.set i none)).map fun t => (m :: t.1, some i :: t.2.1, t.2.2)
    else (slotM τ i).bind fun m => (takeA false io (k + 1) rs (setP τ i (.v (frz m)) none)).map fun t => (.v (frz m) :: t.1, none :: t.2.1, t.2.2) := by
  simp only [takeA, Bool.false_eq_true, if_false, esc_p, get_n]
  split
  · cases slotM τ i <;> rfl
  · cases slotM τ i <;> rfl
theorem take_f {io : List Nat} {k i f : Nat} {rs : List R} {τ : T} : takeA false io k (.pl i (some f) :: rs) τ = (getP τ i (some f)).bind fun m => (takeA false io (k + 1) rs (setP τ i (.v (frz m)) (some f))).map fun t => (.v (frz m) :: t.1, none :: t.2.1, t.2.2) := by
  simp only [takeA, esc_p]
  cases getP τ i (some f) <;> rfl
theorem give0 {ms : List M} {τ : T} : giveA [] ms τ = τ := by cases ms <;> rfl
theorem giveS {i : Nat} {is : List (Option Nat)} {m : M} {ms : List M} {τ : T} : giveA (some i :: is) (m :: ms) τ = giveA is ms (τ.set i (some m)) := rfl
theorem giveN {is : List (Option Nat)} {m : M} {ms : List M} {τ : T} : giveA (none :: is) (m :: ms) τ = giveA is ms τ := rfl
theorem resR_v {d : D} : resR (.v d) = .d d := rfl
theorem resR_l {xs : List D} : resR (.lst xs) = .m (.lst xs) := rfl
theorem resR_k {ks : List L2.Key} {xs : List D} : resR (.dK ks xs) = .m (.dK ks xs) := rfl
theorem resR_t {ks : List (List L2.Key)} {xs : List D} : resR (.dT ks xs) = .m (.dT ks xs) := rfl
theorem resR_i {c : Nat} {fs : List (Nat × M)} : resR (.ins c fs) = .m (.ins c fs) := rfl
theorem outs_n {io : List Nat} {k : Nat} {τ : T} : outs io k [] τ = some [] := by simp only [outs]
theorem outs_v {io : List Nat} {k : Nat} {d : D} {as : List M} {m : Option M} {τ : T} : outs io k (.v d :: as) (m :: τ) = (outs io (k + 1) as τ).map (.v d :: ·) := by simp only [outs]
theorem outs_l {io : List Nat} {k : Nat} {xs : List D} {as : List M} {m : M} {τ : T} : outs io k (.lst xs :: as) (some m :: τ) = if io.contains k = true then (outs io (k + 1) as τ).map (m :: ·) else none := by simp only [outs]
theorem outs_k {io : List Nat} {k : Nat} {ks : List L2.Key} {xs : List D} {as : List M} {m : M} {τ : T} : outs io k (.dK ks xs :: as) (some m :: τ) = if io.contains k = true then (outs io (k + 1) as τ).map (m :: ·) else none := by simp only [outs]
theorem outs_t {io : List Nat} {k : Nat} {ks : List (List L2.Key)} {xs : List D} {as : List M} {m : M} {τ : T} : outs io k (.dT ks xs :: as) (some m :: τ) = if io.contains k = true then (outs io (k + 1) as τ).map (m :: ·) else none := by simp only [outs]
theorem outs_i {io : List Nat} {k : Nat} {c : Nat} {fs : List (Nat × M)} {as : List M} {m : M} {τ : T} : outs io k (.ins c fs :: as) (some m :: τ) = if io.contains k = true then (outs io (k + 1) as τ).map (m :: ·) else none := by simp only [outs]
theorem setP_n {τ : T} {i : Nat} {m : M} : setP τ i m none = τ.set i (some m) := rfl
theorem wo_bind {α β : Type} {o : Option α} {f : α → Option β} {Q : β → Prop} : WO (o.bind f) Q = WO o fun a => WO (f a) Q := by cases o <;> rfl
theorem wo_ites {α : Type} {c : Prop} [Decidable c] {a b : Option α} {Q : α → Prop} : WO (if c then a else b) Q = if c then WO a Q else WO b Q := by
  by_cases h : c
  · rw [if_pos h, if_pos h]
  · rw [if_neg h, if_neg h]
theorem eqD_i {a b : Int} : eqD (.int a) (.int b) = some (decide (a = b)) := by
  simp only [eqD, toPy]
  rw [if_pos (show (SeqAt.shaped (.int a) && SeqAt.shaped (.int b)) = true from rfl)]
  simp only [PyData.eqv]
  by_cases h : a = b
  · simp [h]
  · simp [h]
theorem eqD_b {a b : Bool} : eqD (.bl a) (.bl b) = some (decide (a = b)) := by
  simp only [eqD, toPy]
  rw [if_pos (show (SeqAt.shaped (.bool a) && SeqAt.shaped (.bool b)) = true from rfl)]
  cases a <;> cases b <;> rfl
theorem bin_add {i j : Int} : binD .Add (.int i) (.int j) = some (.d (.int (i + j))) := rfl
theorem bin_sub {i j : Int} : binD .Sub (.int i) (.int j) = some (.d (.int (i - j))) := rfl
theorem bin_mul {i j : Int} : binD .Mult (.int i) (.int j) = if (-(2 ^ 64) < i ∧ i < 2 ^ 64) ∨ (-(2 ^ 64) < j ∧ j < 2 ^ 64) then some (.d (.int (i * j))) else none := rfl
theorem bin_div {i j : Int} : binD .FloorDiv (.int i) (.int j) = if 0 < j ∧ j < 1073741824 then some (.d (.int (i / j))) else none := rfl
theorem bin_mod {i j : Int} : binD .Mod (.int i) (.int j) = if 0 < j then some (.d (.int (i % j))) else none := rfl
theorem bin_pow {i j : Int} : binD .Pow (.int i) (.int j) = if 0 ≤ j ∧ j ≤ 1000000 ∧ i.natAbs < 2 ^ 64 then some (.d (.int (i ^ j.toNat))) else none := rfl
theorem bin_shl {i j : Int} : binD .LShift (.int i) (.int j) = if 0 ≤ j ∧ j ≤ 1000000 ∧ i.natAbs < 2 ^ 64 then some (.d (.int (i * 2 ^ j.toNat))) else none := rfl
theorem bin_shr {i j : Int} : binD .RShift (.int i) (.int j) = if 0 ≤ j then some (.d (.int (i / 2 ^ j.toNat))) else none := rfl
theorem bin_and {i j : Int} : binD .BitAnd (.int i) (.int j) = some (.d (.int (Builtin.bitAnd i j))) := rfl
theorem bin_or {i j : Int} : binD .BitOr (.int i) (.int j) = some (.d (.int (Builtin.bitOr i j))) := rfl
theorem bin_xor {i j : Int} : binD .BitXor (.int i) (.int j) = some (.d (.int (Builtin.bitXor i j))) := rfl
theorem bin_adl {xs ys : List D} : binD .Add (.lst xs) (.lst ys) = if xs.length + ys.length ≤ SL then some (.m (.lst (xs ++ ys))) else none := rfl
theorem bin_adt {xs ys : List D} : binD .Add (.tup xs) (.tup ys) = if xs.length + ys.length ≤ SL then some (.d (.tup (xs ++ ys))) else none := rfl
theorem bin_mll {xs : List D} {k : Int} : binD .Mult (.lst xs) (.int k) = if -(2 ^ 63) ≤ k ∧ k < 2 ^ 63 ∧ xs.length * k.toNat ≤ SL then some (.m (.lst (List.replicate k.toNat xs).flatten)) else none := rfl
theorem un_neg {i : Int} : unD .USub (.int i) = some (.int (-i)) := rfl
theorem un_inv {i : Int} : unD .Invert (.int i) = some (.int (Builtin.bitNot i)) := rfl
theorem cmp_lt {i j : Int} : cmpD .Lt (.int i) (.int j) = some (decide (i < j)) := rfl
theorem cmp_le {i j : Int} : cmpD .LtE (.int i) (.int j) = some (decide (i ≤ j)) := rfl
theorem cmp_gt {i j : Int} : cmpD .Gt (.int i) (.int j) = some (decide (j < i)) := rfl
theorem cmp_ge {i j : Int} : cmpD .GtE (.int i) (.int j) = some (decide (j ≤ i)) := rfl
theorem cmp_eq {i j : Int} : cmpD .Eq (.int i) (.int j) = some (decide (i = j)) := eqD_i
theorem cmp_ne {i j : Int} : cmpD .NotEq (.int i) (.int j) = some (!decide (i = j)) := by simp only [cmpD, eqD_i, Option.map_some]
theorem cmp_eqb {i j : Bool} : cmpD .Eq (.bl i) (.bl j) = some (decide (i = j)) := eqD_b
theorem cmp_neb {i j : Bool} : cmpD .NotEq (.bl i) (.bl j) = some (!decide (i = j)) := by simp only [cmpD, eqD_b, Option.map_some]
theorem ixN_here {n j : Nat} (h : j < n) : L2.ixN n (j : Int) = some j := by unfold L2.ixN; rw [if_pos (by omega), if_pos (by omega)]; rfl
theorem cmp_nex {i j : D} : cmpD .NotEq i j = (eqD i j).map (!·) := rfl
theorem cmp_is {a : D} : cmpD .Is a .non = some (isNon a) := rfl
theorem cmp_isn {a : D} : cmpD .IsNot a .non = some (!isNon a) := rfl
theorem cmp_inl {a : D} {xs : List D} : cmpD .In a (.lst xs) = inD a xs := rfl
theorem cmp_int {a : D} {xs : List D} : cmpD .In a (.tup xs) = inD a xs := rfl
theorem cmp_ninl {a : D} {xs : List D} : cmpD .NotIn a (.lst xs) = (inD a xs).map (!·) := rfl
theorem cmp_nint {a : D} {xs : List D} : cmpD .NotIn a (.tup xs) = (inD a xs).map (!·) := rfl
theorem isN_non  : isNon .non = true := rfl
theorem isi_non_none  : isiD .non (.ty .none) = some true := rfl
theorem isi_non_bool  : isiD .non (.ty .bool) = some false := rfl
theorem isi_non_int  : isiD .non (.ty .int) = some false := rfl
theorem isi_non_str  : isiD .non (.ty .str) = some false := rfl
theorem isi_non_list  : isiD .non (.ty .list) = some false := rfl
theorem isi_non_tuple  : isiD .non (.ty .tuple) = some false := rfl
theorem isi_non_dict  : isiD .non (.ty .dict) = some false := rfl
theorem isi_non_lt  : isiD .non (.tup [.ty .list, .ty .tuple]) = some false := rfl
theorem isN_bl {b : Bool} : isNon (.bl b) = false := rfl
theorem isi_bl_none {b : Bool} : isiD (.bl b) (.ty .none) = some false := rfl
theorem isi_bl_bool {b : Bool} : isiD (.bl b) (.ty .bool) = some true := rfl
theorem isi_bl_int {b : Bool} : isiD (.bl b) (.ty .int) = some true := rfl
theorem isi_bl_str {b : Bool} : isiD (.bl b) (.ty .str) = some false := rfl
theorem isi_bl_list {b : Bool} : isiD (.bl b) (.ty .list) = some false := rfl
theorem isi_bl_tuple {b : Bool} : isiD (.bl b) (.ty .tuple) = some false := rfl
theorem isi_bl_dict {b : Bool} : isiD (.bl b) (.ty .dict) = some false := rfl
theorem isi_bl_lt {b : Bool} : isiD (.bl b) (.tup [.ty .list, .ty .tuple]) = some false := rfl
theorem isN_int {i : Int} : isNon (.int i) = false := rfl
theorem isi_int_none {i : Int} : isiD (.int i) (.ty .none) = some false := rfl
theorem isi_int_bool {i : Int} : isiD (.int i) (.ty .bool) = some false := rfl
theorem isi_int_int {i : Int} : isiD (.int i) (.ty .int) = some true := rfl
theorem isi_int_str {i : Int} : isiD (.int i) (.ty .str) = some false := rfl
theorem isi_int_list {i : Int} : isiD (.int i) (.ty .list) = some false := rfl
theorem isi_int_tuple {i : Int} : isiD (.int i) (.ty .tuple) = some false := rfl
theorem isi_int_dict {i : Int} : isiD (.int i) (.ty .dict) = some false := rfl
theorem isi_int_lt {i : Int} : isiD (.int i) (.tup [.ty .list, .ty .tuple]) = some false := rfl
theorem isN_str {x : Str} : isNon (.str x) = false := rfl
theorem isi_str_none {x : Str} : isiD (.str x) (.ty .none) = some false := rfl
theorem isi_str_bool {x : Str} : isiD (.str x) (.ty .bool) = some false := rfl
theorem isi_str_int {x : Str} : isiD (.str x) (.ty .int) = some false := rfl
theorem isi_str_str {x : Str} : isiD (.str x) (.ty .str) = some true := rfl
theorem isi_str_list {x : Str} : isiD (.str x) (.ty .list) = some false := rfl
theorem isi_str_tuple {x : Str} : isiD (.str x) (.ty .tuple) = some false := rfl
theorem isi_str_dict {x : Str} : isiD (.str x) (.ty .dict) = some false := rfl
theorem isi_str_lt {x : Str} : isiD (.str x) (.tup [.ty .list, .ty .tuple]) = some false := rfl
theorem isN_tup {xs : List D} : isNon (.tup xs) = false := rfl
theorem isi_tup_none {xs : List D} : isiD (.tup xs) (.ty .none) = some false := rfl
theorem isi_tup_bool {xs : List D} : isiD (.tup xs) (.ty .bool) = some false := rfl
theorem isi_tup_int {xs : List D} : isiD (.tup xs) (.ty .int) = some false := rfl
theorem isi_tup_str {xs : List D} : isiD (.tup xs) (.ty .str) = some false := rfl
theorem isi_tup_list {xs : List D} : isiD (.tup xs) (.ty .list) = some false := rfl
theorem isi_tup_tuple {xs : List D} : isiD (.tup xs) (.ty .tuple) = some true := rfl
theorem isi_tup_dict {xs : List D} : isiD (.tup xs) (.ty .dict) = some false := rfl
theorem isi_tup_lt {xs : List D} : isiD (.tup xs) (.tup [.ty .list, .ty .tuple]) = some true := rfl
theorem isN_lst {xs : List D} : isNon (.lst xs) = false := rfl
theorem isi_lst_none {xs : List D} : isiD (.lst xs) (.ty .none) = some false := rfl
theorem isi_lst_bool {xs : List D} : isiD (.lst xs) (.ty .bool) = some false := rfl
theorem isi_lst_int {xs : List D} : isiD (.lst xs) (.ty .int) = some false := rfl
theorem isi_lst_str {xs : List D} : isiD (.lst xs) (.ty .str) = some false := rfl
theorem isi_lst_list {xs : List D} : isiD (.lst xs) (.ty .list) = some true := rfl
theorem isi_lst_tuple {xs : List D} : isiD (.lst xs) (.ty .tuple) = some false := rfl
theorem isi_lst_dict {xs : List D} : isiD (.lst xs) (.ty .dict) = some false := rfl
theorem isi_lst_lt {xs : List D} : isiD (.lst xs) (.tup [.ty .list, .ty .tuple]) = some true := rfl
theorem b_isi {x c : D} : bltD .isi [x, c] = (isiD x c).map fun b => .d (.bl b) := rfl
theorem b_lenl {xs : List D} : bltD .len [.lst xs] = some (.d (.int xs.length)) := rfl
theorem b_lent {xs : List D} : bltD .len [.tup xs] = some (.d (.int xs.length)) := rfl
theorem b_lens {ns : List Int} : bltD .len [.scr ns] = some (.d (.int ns.length)) := rfl
theorem b_int {i : Int} : bltD .int [.int i] = some (.d (.int i)) := rfl
theorem b_intb {b : Bool} : bltD .int [.bl b] = some (.d (.int (if b then 1 else 0))) := rfl
theorem b_min {i j : Int} : bltD .min2 [.int i, .int j] = some (.d (.int (if j < i then j else i))) := rfl
theorem b_max {i j : Int} : bltD .max2 [.int i, .int j] = some (.d (.int (if j > i then j else i))) := rfl
theorem b_abs {i : Int} : bltD .abs [.int i] = some (.d (.int (if i < 0 then -i else i))) := rfl
theorem b_tupl {xs : List D} : bltD .tuple [.lst xs] = some (.d (.tup xs)) := rfl
theorem b_tupt {xs : List D} : bltD .tuple [.tup xs] = some (.d (.tup xs)) := rfl
theorem b_lstl {xs : List D} : bltD .list [.lst xs] = some (.m (.lst xs)) := rfl
theorem b_lstt {xs : List D} : bltD .list [.tup xs] = some (.m (.lst xs)) := rfl
theorem b_lsts {ns : List Int} : bltD .list [.scr ns] = some (.m (.lst (ns.map .int))) := rfl
theorem b_srtt {xs : List D} : bltD .sorted [.tup xs] = (sortD xs).map fun ys => .m (.lst ys) := rfl
theorem b_srt {xs : List D} : bltD .sorted [.lst xs] = (sortD xs).map fun ys => .m (.lst ys) := rfl
theorem b_all {xs : List D} : bltD .all [.lst xs] = (boolsOf xs).map fun bs => .d (.bl (bs.all id)) := rfl
theorem b_any {xs : List D} : bltD .any [.lst xs] = (boolsOf xs).map fun bs => .d (.bl (bs.any id)) := rfl
theorem b_sum {xs : List D} : bltD .sum [.lst xs] = (intsOf xs).map fun ns => .d (.int ns.sum) := rfl
theorem bm_app {xs : List D} {d : D} : bmD .append xs [d] = if xs.length < SL then some (.non, xs ++ [d]) else none := rfl
theorem bm_pop {xs : List D} : bmD .pop0 xs [] = (xs[xs.length - 1]?).map fun d => (d, xs.dropLast) := rfl
theorem bm_ext {xs ys : List D} : bmD .extend xs [.lst ys] = if xs.length + ys.length ≤ SL then some (.non, xs ++ ys) else none := rfl
theorem aug_add {i j : Int} : augD .Add i j = some (i + j) := rfl
theorem aug_sub {i j : Int} : augD .Sub i j = some (i - j) := rfl
theorem ix_lst0 {a0 : D} {r : List D} : idxD (.lst (a0 :: r)) (.int 0) = some a0 := L2.atI_nat (j := 0) rfl
theorem ix_tup0 {a0 : D} {r : List D} : idxD (.tup (a0 :: r)) (.int 0) = some a0 := L2.atI_nat (j := 0) rfl
theorem set_0 {a0 b : D} {r : List D} : setIx (.lst (a0 :: r)) (.int 0) b = some (.lst (b :: r)) := by simp only [setIx]; rw [show L2.ixN (a0 :: r).length 0 = some 0 from ixN_here (j := 0) (by simp only [List.length_cons]; omega)]; rfl
theorem ix_lst1 {a0 a1 : D} {r : List D} : idxD (.lst (a0 :: a1 :: r)) (.int 1) = some a1 := L2.atI_nat (j := 1) rfl
theorem ix_tup1 {a0 a1 : D} {r : List D} : idxD (.tup (a0 :: a1 :: r)) (.int 1) = some a1 := L2.atI_nat (j := 1) rfl
theorem set_1 {a0 a1 b : D} {r : List D} : setIx (.lst (a0 :: a1 :: r)) (.int 1) b = some (.lst (a0 :: b :: r)) := by simp only [setIx]; rw [show L2.ixN (a0 :: a1 :: r).length 1 = some 1 from ixN_here (j := 1) (by simp only [List.length_cons]; omega)]; rfl
theorem ix_lst2 {a0 a1 a2 : D} {r : List D} : idxD (.lst (a0 :: a1 :: a2 :: r)) (.int 2) = some a2 := L2.atI_nat (j := 2) rfl
theorem ix_tup2 {a0 a1 a2 : D} {r : List D} : idxD (.tup (a0 :: a1 :: a2 :: r)) (.int 2) = some a2 := L2.atI_nat (j := 2) rfl
theorem set_2 {a0 a1 a2 b : D} {r : List D} : setIx (.lst (a0 :: a1 :: a2 :: r)) (.int 2) b = some (.lst (a0 :: a1 :: b :: r)) := by simp only [setIx]; rw [show L2.ixN (a0 :: a1 :: a2 :: r).length 2 = some 2 from ixN_here (j := 2) (by simp only [List.length_cons]; omega)]; rfl
theorem ix_lst3 {a0 a1 a2 a3 : D} {r : List D} : idxD (.lst (a0 :: a1 :: a2 :: a3 :: r)) (.int 3) = some a3 := L2.atI_nat (j := 3) rfl
theorem ix_tup3 {a0 a1 a2 a3 : D} {r : List D} : idxD (.tup (a0 :: a1 :: a2 :: a3 :: r)) (.int 3) = some a3 := L2.atI_nat (j := 3) rfl
theorem set_3 {a0 a1 a2 a3 b : D} {r : List D} : setIx (.lst (a0 :: a1 :: a2 :: a3 :: r)) (.int 3) b = some (.lst (a0 :: a1 :: a2 :: b :: r)) := by simp only [setIx]; rw [show L2.ixN (a0 :: a1 :: a2 :: a3 :: r).length 3 = some 3 from ixN_here (j := 3) (by simp only [List.length_cons]; omega)]; rfl
theorem ix_lst4 {a0 a1 a2 a3 a4 : D} {r : List D} : idxD (.lst (a0 :: a1 :: a2 :: a3 :: a4 :: r)) (.int 4) = some a4 := L2.atI_nat (j := 4) rfl
theorem ix_tup4 {a0 a1 a2 a3 a4 : D} {r : List D} : idxD (.tup (a0 :: a1 :: a2 :: a3 :: a4 :: r)) (.int 4) = some a4 := L2.atI_nat (j := 4) rfl
theorem set_4 {a0 a1 a2 a3 a4 b : D} {r : List D} : setIx (.lst (a0 :: a1 :: a2 :: a3 :: a4 :: r)) (.int 4) b = some (.lst (a0 :: a1 :: a2 :: a3 :: b :: r)) := by simp only [setIx]; rw [show L2.ixN (a0 :: a1 :: a2 :: a3 :: a4 :: r).length 4 = some 4 from ixN_here (j := 4) (by simp only [List.length_cons]; omega)]; rfl
theorem ix_lst5 {a0 a1 a2 a3 a4 a5 : D} {r : List D} : idxD (.lst (a0 :: a1 :: a2 :: a3 :: a4 :: a5 :: r)) (.int 5) = some a5 := L2.atI_nat (j := 5) rfl
theorem ix_tup5 {a0 a1 a2 a3 a4 a5 : D} {r : List D} : idxD (.tup (a0 :: a1 :: a2 :: a3 :: a4 :: a5 :: r)) (.int 5) = some a5 := L2.atI_nat (j := 5) rfl
theorem set_5 {a0 a1 a2 a3 a4 a5 b : D} {r : List D} : setIx (.lst (a0 :: a1 :: a2 :: a3 :: a4 :: a5 :: r)) (.int 5) b = some (.lst (a0 :: a1 :: a2 :: a3 :: a4 :: b :: r)) := by simp only [setIx]; rw [show L2.ixN (a0 :: a1 :: a2 :: a3 :: a4 :: a5 :: r).length 5 = some 5 from ixN_here (j := 5) (by simp only [List.length_cons]; omega)]; rfl
theorem bt_one {io : List Nat} {i : Nat} {d : D} {τ : T} : bindTg io (.one i) d τ = if io.contains i = true then none else some (τ.set i (some (.v d))) := by simp only [bindTg]
theorem bt_tup {io : List Nat} {ts : Tgs} {ds : List D} {τ : T} : bindTg io (.tup ts) (.tup ds) τ = if ds.length = ts.len then bindTgs io ts ds τ else none := by simp only [bindTg]
theorem bts_n {io : List Nat} {ds : List D} {τ : T} : bindTgs io .nil ds τ = some τ := by simp only [bindTgs]
theorem bts_c {io : List Nat} {t : Tg} {r : Tgs} {d : D} {ds : List D} {τ : T} : bindTgs io (.cons t r) (d :: ds) τ = (bindTg io t d τ).bind fun τ1 => bindTgs io r ds τ1 := by simp only [bindTgs]; cases bindTg io t d τ <;> rfl
theorem tl_n : Tgs.nil.len = 0 := by simp only [Tgs.len]
theorem tl_c {t : Tg} {r : Tgs} : (Tgs.cons t r).len = r.len + 1 := by simp only [Tgs.len]
/-- a for loop over a list of values of one kind -/
theorem for_map {α : Type} {f : α → D} {G : GS} {cl : Caller} {io : List Nat} {tg : Tg} {s : CSs} {w : Wh} {ns : List α} (I : List α → List α → T → Prop) {τ : T} (h0 : I [] ns τ)
    (h1 : ∀ ds x rs τ, ns = ds ++ x :: rs → I ds (x :: rs) τ → WO (bindTg io tg (f x) τ) fun τ1 => wpSs G cl io s τ1 { nx := I (ds ++ [x]) rs, ct := I (ds ++ [x]) rs, bk := w.nx, rt := w.rt })
    (h2 : ∀ τ, I ns [] τ → w.nx τ) : WFor (bindTg io tg) (wpSs G cl io s) (ns.map f) τ w := by
  refine for_inv (fun ds rs τ => ∃ as bs, ds = as.map f ∧ rs = bs.map f ∧ ns = as ++ bs ∧ I as bs τ) ⟨[], ns, rfl, rfl, rfl, h0⟩ ?_ ?_
  · rintro ds x rs τ e ⟨as, bs, rfl, e2, e3, h⟩
    cases bs with
    | nil => cases e2
    | cons b bs =>
      simp only [List.map_cons, List.cons.injEq] at e2
      obtain ⟨rfl, rfl⟩ := e2
      refine (h1 as b bs τ e3 h).mono fun τ1 h => h.mono ⟨?_, fun _ _ => id, fun _ => id, ?_⟩
      · intro τ2 h; exact ⟨as ++ [b], bs, by simp, rfl, by simp [e3], h⟩
      · intro τ2 h; exact ⟨as ++ [b], bs, by simp, rfl, by simp [e3], h⟩
  · rintro τ ⟨as, bs, e1, e2, e3, h⟩
    have : bs = [] := by cases bs with | nil => rfl | cons _ _ => cases e2
    subst this
    rw [List.append_nil] at e3
    subst e3
    exact h2 τ h
/-- a range -/
theorem for_rng {G : GS} {cl : Caller} {io : List Nat} {tg : Tg} {s : CSs} {w : Wh} {n : Nat} (I : Nat → T → Prop) {τ : T} (h0 : I 0 τ)
    (h1 : ∀ k τ, k < n → I k τ → WO (bindTg io tg (.int (k : Int)) τ) fun τ1 => wpSs G cl io s τ1 { nx := I (k + 1), ct := I (k + 1), bk := w.nx, rt := w.rt })
    (h2 : ∀ τ, I n τ → w.nx τ) : WFor (bindTg io tg) (wpSs G cl io s) (rngD 0 (n : Int)) τ w := by
  refine for_nat I h0 ?_ ?_
  · intro k x τ e h
    unfold rngD at e
    rw [List.getElem?_map] at e
    cases hk : (List.range ((n : Int) - 0).toNat)[k]? with
    | none => rw [hk] at e; cases e
    | some j =>
      rw [hk] at e
      obtain ⟨hl, hj⟩ := List.getElem?_eq_some_iff.mp hk
      simp only [List.length_range, List.getElem_range] at hl hj
      subst hj
      have e' : D.int (0 + (k : Int)) = x := Option.some.inj e
      rw [Int.zero_add] at e'
      subst e'
      exact h1 k τ (by omega) h
  · intro τ h
    refine h2 τ ?_
    have : (rngD 0 (n : Int)).length = n := by unfold rngD; rw [List.length_map, List.length_range]; omega
    rwa [this] at h
theorem rng_ok {a b : Int} (h1 : -(2 ^ 62) ≤ a) (h2 : a < 2 ^ 62) (h3 : -(2 ^ 62) ≤ b) (h4 : b < 2 ^ 62) : rngOk a b = true := decide_eq_true ⟨h1, h2, h3, h4⟩
/-- tests and items, kept from being unfolded -/
noncomputable def TT (G : GS) (cl : Caller) (t : CT) : T → (Bool → T → Prop) → Prop := fun τ Q => wpT G cl false t τ Q
noncomputable def EL (G : GS) (cl : Caller) (e : CE) : T → (D → T → Prop) → Prop := fun τ K => wpE G cl false e τ fun r τ' => WO (esc false τ' r) fun u => K u.1 u.2
theorem wpS_whl {G : GS} {cl : Caller} {io : List Nat} {t : CT} {b : CSs} {τ : T} {w : Wh} : wpS G cl io (.whl t b) τ w = WWhl (TT G cl t) (wpSs G cl io b) WF τ w := by rw [wpS]; rfl
theorem wpE_lc {G : GS} {cl : Caller} {own : List Nat} {tg : Tg} {it : CI} {t : CT} {e : CE} {τ : T} {Q : R → T → Prop} : wpE G cl false (.lc own tg it t e) τ Q =
    wpI G cl false it τ fun xs τ1 => WO (hideO own τ1) fun τ2 => WLc (bindTg [] tg) (TT G cl t) (EL G cl e) own xs [] τ2 fun ds τ3 => Q (.m (.lst ds)) (backO τ1 own τ3) := by
  rw [wpE]; simp only [true_and]; rfl
theorem wpE_lcp {G : GS} {cl : Caller} {p : Bool} {own : List Nat} {tg : Tg} {it : CI} {t : CT} {e : CE} {τ : T} {Q : R → T → Prop} : wpE G cl p (.lc own tg it t e) τ Q = (p = false ∧
    wpI G cl false it τ fun xs τ1 => WO (hideO own τ1) fun τ2 => WLc (bindTg [] tg) (TT G cl t) (EL G cl e) own xs [] τ2 fun ds τ3 => Q (.m (.lst ds)) (backO τ1 own τ3)) := by
  cases p
  · rw [wpE_lc]; simp only [true_and]
  · rw [wpE]; simp only [Bool.true_eq_false, false_and]
theorem whl {G : GS} {cl : Caller} {io : List Nat} {t : CT} {s : CSs} {w : Wh} (I : Nat → T → Prop) {n : Nat} {τ : T} (hn : n < WF) (h0 : I n τ)
    (h1 : ∀ k τ, I k τ → wpT G cl false t τ fun b τ1 => if b = true then wpSs G cl io s τ1 { nx := fun τ => ∃ j < k, I j τ, ct := fun τ => ∃ j < k, I j τ, bk := w.nx, rt := w.rt } else w.nx τ1) :
    WWhl (TT G cl t) (wpSs G cl io s) WF τ w := whl_inv I hn h0 h1
theorem lc_by {G : GS} {cl : Caller} {t : CT} {e : CE} {own : List Nat} {g : D → T → Option T} {Q : List D → T → Prop} (I : List D → List D → T → Prop) {xs : List D} {τ : T} (h0 : I xs [] τ)
    (h1 : ∀ x rs acc τ, I (x :: rs) acc τ → WO (g x τ) fun τ1 => wpT G cl false t τ1 fun b τ2 => if b = true then (wpE G cl false e τ2 fun r τ' => WO (esc false τ' r) fun u => acc.length < SL ∧ WO (hideO own u.2) fun τ4 => I rs (acc ++ [u.1]) τ4) else WO (hideO own τ2) fun τ3 => I rs acc τ3)
    (h2 : ∀ acc τ, I [] acc τ → Q acc τ) : WLc g (TT G cl t) (EL G cl e) own xs [] τ Q := by
  refine lc_inv (t' := evT G cl false t) (e' := fun t => match evE G cl false e t with
          | some (r, t') => esc false t' r
          | none => none) (fun τ Q => wt_eq false t τ Q) (fun τ Q => ?_) I h0 h1 h2
  show (wpE G cl false e τ fun r τ' => WO (esc false τ' r) fun u => Q u.1 u.2) = _
  rw [we_eq false e]
  rcases evE G cl false e τ with _ | ⟨r, τ'⟩ <;> rfl
/-- a comprehension over values of one kind: items done, items to come, what is found -/
theorem lc_map {α : Type} {f : α → D} {G : GS} {cl : Caller} {t : CT} {e : CE} {own : List Nat} {g : D → T → Option T} {Q : List D → T → Prop} {ns : List α} (I : List α → List α → List D → T → Prop) {τ : T} (h0 : I [] ns [] τ)
    (h1 : ∀ ds x rs acc τ, ns = ds ++ x :: rs → acc.length ≤ ds.length → I ds (x :: rs) acc τ → WO (g (f x) τ) fun τ1 => wpT G cl false t τ1 fun b τ2 => if b = true then (wpE G cl false e τ2 fun r τ' => WO (esc false τ' r) fun u => acc.length < SL ∧ WO (hideO own u.2) fun τ4 => I (ds ++ [x]) rs (acc ++ [u.1]) τ4) else WO (hideO own τ2) fun τ3 => I (ds ++ [x]) rs acc τ3)
    (h2 : ∀ acc τ, I ns [] acc τ → Q acc τ) : WLc g (TT G cl t) (EL G cl e) own (ns.map f) [] τ Q := by
  refine lc_by (fun rs acc τ => ∃ as bs, rs = bs.map f ∧ ns = as ++ bs ∧ acc.length ≤ as.length ∧ I as bs acc τ) ⟨[], ns, rfl, rfl, Nat.le_refl _, h0⟩ ?_ ?_
  · rintro x rs acc τ ⟨as, bs, e2, e3, e4, h⟩
    cases bs with
    | nil => cases e2
    | cons b bs =>
      simp only [List.map_cons, List.cons.injEq] at e2
      obtain ⟨rfl, rfl⟩ := e2
      refine (h1 as b bs acc τ e3 e4 h).mono fun τ1 h => h.mono fun k τ2 h => ?_
      split at h
      · rw [if_pos ‹_›]
        refine h.mono fun r τ' h => h.mono fun u h => ⟨h.1, h.2.mono fun τ4 h => ⟨as ++ [b], bs, rfl, by simp [e3], by simp; omega, h⟩⟩
      · rw [if_neg ‹_›]
        exact h.mono fun τ4 h => ⟨as ++ [b], bs, rfl, by simp [e3], by simp; omega, h⟩
  · rintro acc τ ⟨as, bs, e2, e3, e4, h⟩
    have : bs = [] := by cases bs with | nil => rfl | cons _ _ => cases e2
    subst this
    rw [List.append_nil] at e3
    subst e3
    exact h2 acc τ h
theorem rng_map (n : Nat) : rngD 0 (n : Int) = (List.range n).map fun k : Nat => .int (k : Int) := by
  unfold rngD
  rw [Int.sub_zero, Int.toNat_natCast]
  exact List.map_congr_left fun k _ => by rw [Int.zero_add]
theorem hide0 {τ : T} : hideO [] τ = some τ := by simp only [hideO]
theorem hideS {i : Nat} {is : List Nat} {τ : T} : hideO (i :: is) τ = (hideO is τ).bind fun τ' => (τ'[i]?).bind fun m => match m with
    | none => some τ'
    | some (.v _) => some (τ'.set i none)
    | _ => none := by
  simp only [hideO]
  cases hideO is τ with
  | none => rfl
  | some τ' =>
    simp only [Option.bind_some]
    rcases τ'[i]? with _ | _ | m <;> try rfl
    cases m <;> rfl
theorem back0 {τ0 τ : T} : backO τ0 [] τ = τ := by simp only [backO]
theorem backS {i : Nat} {is : List Nat} {τ0 τ : T} : backO τ0 (i :: is) τ = (backO τ0 is τ).set i ((τ0[i]?).getD none) := by simp only [backO]
theorem fld_d {f : Nat} {τ : T} {c : Nat} {fs : List (Nat × D)} : fldR f τ (.d (.ins c fs)) = (getD' f fs).map .d := rfl
theorem fld_p {f : Nat} {τ : T} {i : Nat} : fldR f τ (.pl i none) = (getP τ i (some f)).map fun m => match m with
    | .v d => .d d
    | _ => .pl i (some f) := by
  simp only [fldR]
  rcases getP τ i (some f) with _ | m
  · rfl
  cases m <;> rfl
theorem recv_p {m : Nat} {τ : T} {i : Nat} : recvC τ m (.pl i none) = (slotM τ i).bind fun x => match x with
    | .ins c fs => if (getA m fs).isNone then some c else none
    | _ => none := by
  simp only [recvC]
  rcases slotM τ i with _ | m
  · rfl
  cases m <;> rfl
theorem recv_d {m : Nat} {τ : T} {c : Nat} {fs : List (Nat × D)} : recvC τ m (.d (.ins c fs)) = if (getD' m fs).isNone then some c else none := rfl
theorem recv_m {m : Nat} {τ : T} {c : Nat} {fs : List (Nat × M)} : recvC τ m (.m (.ins c fs)) = if (getA m fs).isNone then some c else none := rfl
theorem lexle {a b c d : Int} : lexLe [a, b] [c, d] = decide (a < c ∨ (a = c ∧ b ≤ d)) := by
  simp only [lexLe]
  by_cases h1 : a = c
  · subst h1
    by_cases h2 : b = d
    · subst h2; simp
    · rw [if_pos rfl, if_neg h2]
      exact decide_eq_decide.mpr (by omega)
  · rw [if_neg h1]
    exact decide_eq_decide.mpr (by omega)
theorem cmp_let {a b c d : Int} : cmpD .LtE (.tup [.int a, .int b]) (.tup [.int c, .int d]) = some (decide (a < c ∨ (a = c ∧ b ≤ d))) := by
  simp only [cmpD, intsOf, Option.map_some, lexle]
theorem enum_get {xs : List D} {k : Nat} : ∀ j, (enumD j xs)[k]? = (xs[k]?).map fun x => .tup [.int ((j + k : Nat) : Int), x] := by
  induction xs generalizing k with
  | nil => intro j; simp [enumD]
  | cons x xs ih =>
    intro j
    rw [enumD]
    cases k with
    | zero => simp
    | succ k => rw [List.getElem?_cons_succ, ih, List.getElem?_cons_succ, show j + 1 + k = j + (k + 1) by omega]
theorem enum_len {xs : List D} : ∀ j, (enumD j xs).length = xs.length := by
  induction xs with
  | nil => intro j; simp [enumD]
  | cons x xs ih => intro j; rw [enumD, List.length_cons, ih, List.length_cons]
theorem lookC {G : GS} {f : Nat} {F : Cl} [hF : HasC G f F] : G.cls.lookup f = some F := hF.ok
theorem lookF {G : GS} {f : Nat} {F : Fn} [hF : HasF G f F] : G.fns.lookup f = some F := hF.ok
theorem ex_ins {c : Nat} {fs : List (Nat × M)} {P : Nat → List (Nat × M) → Prop} : (∃ c' fs', some (M.ins c fs) = some (M.ins c' fs') ∧ P c' fs') = P c fs :=
  propext ⟨fun ⟨_, _, e, h⟩ => by cases e; exact h, fun h => ⟨_, _, rfl, h⟩⟩
theorem ex_int {i : Int} {P : Int → Prop} : (∃ x, some (M.v (.int i)) = some (M.v (.int x)) ∧ P x) = P i :=
  propext ⟨fun ⟨_, e, h⟩ => by cases e; exact h, fun h => ⟨_, rfl, h⟩⟩
theorem ex_lst {ys : List D} {P : List D → Prop} : (∃ x, some (M.lst ys) = some (M.lst x) ∧ P x) = P ys :=
  propext ⟨fun ⟨_, e, h⟩ => by cases e; exact h, fun h => ⟨_, rfl, h⟩⟩
theorem ex_lst0 {ys : List D} : (∃ x, some (M.lst ys) = some (M.lst x)) = True := eq_true ⟨_, rfl⟩
theorem ex_two {a b : D} {P : D → D → Prop} : (∃ x y, [a, b] = [x, y] ∧ P x y) = P a b :=
  propext ⟨fun ⟨_, _, e, h⟩ => by cases e; exact h, fun h => ⟨_, _, rfl, h⟩⟩
theorem ex_new {s : M} {r : List M} {P : M → List M → Prop} : (∃ s' r', M.v .non = M.v .non ∧ s :: r = s' :: r' ∧ P s' r') = P s r :=
  propext ⟨fun ⟨_, _, _, e, h⟩ => by cases e; exact h, fun h => ⟨_, _, rfl, rfl, h⟩⟩
theorem ex_cons {s : M} {r : List M} {P : M → List M → Prop} : (∃ s' r', s :: r = s' :: r' ∧ P s' r') = P s r :=
  propext ⟨fun ⟨_, _, e, h⟩ => by cases e; exact h, fun h => ⟨_, _, rfl, h⟩⟩
theorem ex_dT {ks : List (List L2.Key)} {vs : List D} {P : List (List L2.Key) → List D → Prop} : (∃ ks' vs', some (D.dT ks vs) = some (D.dT ks' vs') ∧ P ks' vs') = P ks vs :=
  propext ⟨fun ⟨_, _, e, h⟩ => by cases e; exact h, fun h => ⟨_, _, rfl, h⟩⟩
theorem ex_mdT {ks : List (List L2.Key)} {vs : List D} {P : List (List L2.Key) → List D → Prop} : (∃ ks' vs', some (M.dT ks vs) = some (M.dT ks' vs') ∧ P ks' vs') = P ks vs :=
  propext ⟨fun ⟨_, _, e, h⟩ => by cases e; exact h, fun h => ⟨_, _, rfl, h⟩⟩
theorem wo_mul {i j : Int} {Q : R → Prop} : WO (binD .Mult (.int i) (.int j)) Q = (((-(2 ^ 64) < i ∧ i < 2 ^ 64) ∨ (-(2 ^ 64) < j ∧ j < 2 ^ 64)) ∧ Q (.d (.int (i * j)))) := by rw [bin_mul, wo_ite]
theorem wo_div {i j : Int} {Q : R → Prop} : WO (binD .FloorDiv (.int i) (.int j)) Q = ((0 < j ∧ j < 1073741824) ∧ Q (.d (.int (i / j)))) := by rw [bin_div, wo_ite]
theorem wo_mod {i j : Int} {Q : R → Prop} : WO (binD .Mod (.int i) (.int j)) Q = ((0 < j) ∧ Q (.d (.int (i % j)))) := by rw [bin_mod, wo_ite]
theorem wo_pow {i j : Int} {Q : R → Prop} : WO (binD .Pow (.int i) (.int j)) Q = ((0 ≤ j ∧ j ≤ 1000000 ∧ i.natAbs < 2 ^ 64) ∧ Q (.d (.int (i ^ j.toNat)))) := by rw [bin_pow, wo_ite]
theorem wo_shl {i j : Int} {Q : R → Prop} : WO (binD .LShift (.int i) (.int j)) Q = ((0 ≤ j ∧ j ≤ 1000000 ∧ i.natAbs < 2 ^ 64) ∧ Q (.d (.int (i * 2 ^ j.toNat)))) := by rw [bin_shl, wo_ite]
theorem wo_shr {i j : Int} {Q : R → Prop} : WO (binD .RShift (.int i) (.int j)) Q = ((0 ≤ j) ∧ Q (.d (.int (i / 2 ^ j.toNat)))) := by rw [bin_shr, wo_ite]
theorem wo_adl {xs ys : List D} {Q : R → Prop} : WO (binD .Add (.lst xs) (.lst ys)) Q = ((xs.length + ys.length ≤ SL) ∧ Q (.m (.lst (xs ++ ys)))) := by rw [bin_adl, wo_ite]
theorem wo_adt {xs ys : List D} {Q : R → Prop} : WO (binD .Add (.tup xs) (.tup ys)) Q = ((xs.length + ys.length ≤ SL) ∧ Q (.d (.tup (xs ++ ys)))) := by rw [bin_adt, wo_ite]
theorem wo_mll {xs : List D} {k : Int} {Q : R → Prop} : WO (binD .Mult (.lst xs) (.int k)) Q = ((-(2 ^ 63) ≤ k ∧ k < 2 ^ 63 ∧ xs.length * k.toNat ≤ SL) ∧ Q (.m (.lst (List.replicate k.toNat xs).flatten))) := by rw [bin_mll, wo_ite]
theorem wo_app {xs : List D} {d : D} {Q : D × List D → Prop} : WO (bmD .append xs [d]) Q = ((xs.length < SL) ∧ Q ((.non, xs ++ [d]))) := by rw [bm_app, wo_ite]
theorem wo_ext {xs ys : List D} {Q : D × List D → Prop} : WO (bmD .extend xs [.lst ys]) Q = ((xs.length + ys.length ≤ SL) ∧ Q ((.non, xs ++ ys))) := by rw [bm_ext, wo_ite]
theorem mc {α : Type} {P : α → Prop} {a : α} {l : List α} (h : P a) (t : ∀ x ∈ l, P x) : ∀ x ∈ a :: l, P x := fun x hx => by
  rcases List.mem_cons.mp hx with rfl | hx
  · exact h
  · exact t x hx
theorem mc_nil {α : Type} {P : α → Prop} : ∀ x ∈ ([] : List α), P x := fun _ h => nomatch h
theorem mem_lk {β : Type} : ∀ {l : List (Nat × β)} {i : Nat} {x : β}, l.lookup i = some x → (i, x) ∈ l
  | [], _, _, h => nomatch h
  | (j, y) :: l, i, x, h => by
    rw [List.lookup_cons] at h
    split at h
    · rename_i e
      have : i = j := by simpa using e
      cases h
      subst this
      exact List.mem_cons_self
    · exact List.mem_cons_of_mem _ (mem_lk h)
theorem b_repr {d : D} : bltD .repr [d] = reprD d := rfl
theorem isi_dK_none {ks : List L2.Key} {vs : List D} : isiD (.dK ks vs) (.ty .none) = some false := rfl
theorem isi_dK_bool {ks : List L2.Key} {vs : List D} : isiD (.dK ks vs) (.ty .bool) = some false := rfl
theorem isi_dK_int {ks : List L2.Key} {vs : List D} : isiD (.dK ks vs) (.ty .int) = some false := rfl
theorem isi_dK_str {ks : List L2.Key} {vs : List D} : isiD (.dK ks vs) (.ty .str) = some false := rfl
theorem isi_dK_list {ks : List L2.Key} {vs : List D} : isiD (.dK ks vs) (.ty .list) = some false := rfl
theorem isi_dK_tuple {ks : List L2.Key} {vs : List D} : isiD (.dK ks vs) (.ty .tuple) = some false := rfl
theorem isi_dK_dict {ks : List L2.Key} {vs : List D} : isiD (.dK ks vs) (.ty .dict) = some true := rfl
theorem isi_dK_lt {ks : List L2.Key} {vs : List D} : isiD (.dK ks vs) (.tup [.ty .list, .ty .tuple]) = some false := rfl
theorem isi_dT_none {ks : List (List L2.Key)} {vs : List D} : isiD (.dT ks vs) (.ty .none) = some false := rfl
theorem isi_dT_bool {ks : List (List L2.Key)} {vs : List D} : isiD (.dT ks vs) (.ty .bool) = some false := rfl
theorem isi_dT_int {ks : List (List L2.Key)} {vs : List D} : isiD (.dT ks vs) (.ty .int) = some false := rfl
theorem isi_dT_str {ks : List (List L2.Key)} {vs : List D} : isiD (.dT ks vs) (.ty .str) = some false := rfl
theorem isi_dT_list {ks : List (List L2.Key)} {vs : List D} : isiD (.dT ks vs) (.ty .list) = some false := rfl
theorem isi_dT_tuple {ks : List (List L2.Key)} {vs : List D} : isiD (.dT ks vs) (.ty .tuple) = some false := rfl
theorem isi_dT_dict {ks : List (List L2.Key)} {vs : List D} : isiD (.dT ks vs) (.ty .dict) = some true := rfl
theorem isi_dT_lt {ks : List (List L2.Key)} {vs : List D} : isiD (.dT ks vs) (.tup [.ty .list, .ty .tuple]) = some false := rfl
/-! ### own classes, sets -/
theorem rev_l {xs : List D} : revD (.lst xs) = some (.m (.lst xs.reverse)) := rfl
theorem rev_t {xs : List D} : revD (.tup xs) = some (.d (.tup xs.reverse)) := rfl
theorem slt_l {xs : List D} : seqLT (some (.lst xs)) = some xs := rfl
theorem slt_t {xs : List D} : seqLT (some (.tup xs)) = some xs := rfl
theorem setR_t {xs : List D} : setR true xs = (ssetD xs).map fun ys => .m (.lst ys) := rfl
theorem setR_f {xs : List D} : setR false xs = (nsetD xs).map fun (n : Nat) => .d (.int (n : Int)) := if_neg (by decide)
theorem asM_m {m : M} : asM (.m m) = some m := rfl
theorem lkz_d {τ : T} {d : D} : lookZ τ (.d d) = some d := rfl
theorem lkz_p {τ : T} {i : Nat} {f : Option Nat} : lookZ τ (.pl i f) = (getP τ i f).map frz := rfl
theorem scl_n : sclM (.v .non) = some .non := rfl
theorem scl_b {b : Bool} : sclM (.v (.bl b)) = some (.bl b) := rfl
theorem scl_i {i : Int} : sclM (.v (.int i)) = some (.int i) := rfl
theorem scl_s {x : Str} : sclM (.v (.str x)) = some (.str x) := rfl
theorem asMB_b {b : Bool} : asMB (.v (.bl b)) = some b := rfl
theorem oeqW_s {f : Nat} {A : Nat → Prop} {B : Prop} : oeqW (some f) A B = A f := rfl
theorem oeqW_n {A : Nat → Prop} {B : Prop} : oeqW none A B = B := rfl
theorem eq_defN {G : GS} {d : D} : eqDef G [.non, d] = none := rfl
theorem eqPl_f {x y : D} : eqPl false [x, y] = cmpD .Eq x y := rfl
theorem eqPl_t {x y : D} : eqPl true [x, y] = cmpD .NotEq x y := rfl
theorem eq_def {G : GS} {c d : Nat} {k : Cl} {fs gs : List (Nat × D)} [h : HasC G c k] : eqDef G [.ins c fs, .ins d gs] = k.eq := by unfold eqDef; simp only [h.ok, eqR, if_true]
theorem eq_def_t {G : GS} {c : Nat} {k : Cl} {fs : List (Nat × D)} {xs : List D} [h : HasC G c k] : eqDef G [.ins c fs, .tup xs] = k.eq := by unfold eqDef; simp only [h.ok, eqR, tyOfD, Option.isSome_some, if_true]
theorem eq_def_l {G : GS} {c : Nat} {k : Cl} {fs : List (Nat × D)} {xs : List D} [h : HasC G c k] : eqDef G [.ins c fs, .lst xs] = k.eq := by unfold eqDef; simp only [h.ok, eqR, tyOfD, Option.isSome_some, if_true]
theorem eq_def_i {G : GS} {c : Nat} {k : Cl} {fs : List (Nat × D)} {x : Int} [h : HasC G c k] : eqDef G [.ins c fs, .int x] = k.eq := by unfold eqDef; simp only [h.ok, eqR, tyOfD, Option.isSome_some, if_true]
theorem eq_def_s {G : GS} {c : Nat} {k : Cl} {fs : List (Nat × D)} {x : Str} [h : HasC G c k] : eqDef G [.ins c fs, .str x] = k.eq := by unfold eqDef; simp only [h.ok, eqR, tyOfD, Option.isSome_some, if_true]
theorem eq_def_b {G : GS} {c : Nat} {k : Cl} {fs : List (Nat × D)} {x : Bool} [h : HasC G c k] : eqDef G [.ins c fs, .bl x] = k.eq := by unfold eqDef; simp only [h.ok, eqR, tyOfD, Option.isSome_some, if_true]
theorem eq_def_n {G : GS} {c : Nat} {k : Cl} {fs : List (Nat × D)} [h : HasC G c k] : eqDef G [.ins c fs, .non] = k.eq := by unfold eqDef; simp only [h.ok, eqR, tyOfD, Option.isSome_some, if_true]
theorem cmp_isnb {a b : Bool} : cmpD .IsNot (.bl a) (.bl b) = some (!(a == b)) := rfl
theorem cmp_isb {a b : Bool} : cmpD .Is (.bl a) (.bl b) = some (a == b) := rfl
theorem isi_ins_ty {c : Nat} {fs : List (Nat × D)} {t : Ty} : isiD (.ins c fs) (.ty t) = some false := rfl
theorem isi_ins_cl {c k : Nat} {fs : List (Nat × D)} : isiD (.ins c fs) (.cl k) = some (k == c) := rfl
theorem isi_ins_lt {c : Nat} {fs : List (Nat × D)} : isiD (.ins c fs) (.tup [.ty .list, .ty .tuple]) = some false := rfl
theorem isi_non_cl  {k : Nat} : isiD .non (.cl k) = some false := rfl
theorem isi_bl_cl {b : Bool} {k : Nat} : isiD (.bl b) (.cl k) = some false := rfl
theorem isi_int_cl {i : Int} {k : Nat} : isiD (.int i) (.cl k) = some false := rfl
theorem isi_str_cl {x : Str} {k : Nat} : isiD (.str x) (.cl k) = some false := rfl
theorem isi_tup_cl {xs : List D} {k : Nat} : isiD (.tup xs) (.cl k) = some false := rfl
theorem isi_lst_cl {xs : List D} {k : Nat} : isiD (.lst xs) (.cl k) = some false := rfl
theorem isi_dK_cl {ks : List L2.Key} {vs : List D} {k : Nat} : isiD (.dK ks vs) (.cl k) = some false := rfl
theorem dct_t {x y : D} : dctR true x y = (keyT x).map fun q => .m (.dT [q] [y]) := rfl
theorem dct_f {x y : D} : dctR false x y = (keyD x).map fun q => .m (.dK [q] [y]) := rfl
theorem b_lstdK {ks : List L2.Key} {vs : List D} : bltD .list [.dK ks vs] = some (.m (.lst (ks.map keyV))) := rfl
theorem b_lstdT {ks : List (List L2.Key)} {vs : List D} : bltD .list [.dT ks vs] = some (.m (.lst (ks.map fun k => .tup (k.map keyV)))) := rfl
theorem cmp_indT {a : D} {ks : List (List L2.Key)} {vs : List D} : cmpD .In a (.dT ks vs) = (keyT a).map fun k => (dLook ks vs k).isSome := rfl
theorem cmp_nindT {a : D} {ks : List (List L2.Key)} {vs : List D} : cmpD .NotIn a (.dT ks vs) = (keyT a).map fun k => !(dLook ks vs k).isSome := rfl
theorem cmp_indK {a : D} {ks : List L2.Key} {vs : List D} : cmpD .In a (.dK ks vs) = (keyD a).map fun k => (dLook ks vs k).isSome := rfl
theorem cmp_nindK {a : D} {ks : List L2.Key} {vs : List D} : cmpD .NotIn a (.dK ks vs) = (keyD a).map fun k => !(dLook ks vs k).isSome := rfl
theorem keyD_i {i : Int} : keyD (.int i) = some (.inl i) := rfl
theorem wpM_n {G : GS} {cl : Caller} {τ : T} {Q : List M → T → Prop} : wpM G cl .nil τ Q = Q [] τ := by rw [wpM]
theorem wpM_c {G : GS} {cl : Caller} {e : CE} {r : CEs} {τ : T} {Q : List M → T → Prop} : wpM G cl (.cons e r) τ Q = wpE G cl false e τ fun x τ1 => WO (give τ1 x) fun u => wpM G cl r u.2 fun ms τ3 => Q (u.1 :: ms) τ3 := by rw [wpM]
theorem sm_n {τ : T} : setMs [] [] τ = some τ := by rw [setMs]
theorem sm_c {i : Nat} {is : List Nat} {m : M} {ms : List M} {τ : T} : setMs (i :: is) (m :: ms) τ = setMs is ms (τ.set i (some m)) := by rw [setMs]
theorem anio_n {io : List Nat} : ([].any fun i => io.contains i) = false := rfl
theorem anio_c {i : Nat} {is io : List Nat} : ((i :: is).any fun i => io.contains i) = (io.contains i || is.any fun i => io.contains i) := rfl
theorem lsd_l {xs : List D} : lstD (.lst xs) = some xs := rfl
theorem isdk_k {ks : List L2.Key} {vs : List D} : isDK (.dK ks vs) = some () := rfl
theorem ex_dKd {ks : List L2.Key} {vs : List D} {P : List L2.Key → List D → Prop} : (∃ ks' vs', D.dK ks vs = D.dK ks' vs' ∧ P ks' vs') = P ks vs :=
  propext ⟨fun ⟨_, _, e, h⟩ => by cases e; exact h, fun h => ⟨_, _, rfl, h⟩⟩
end Ev

/-! Ev, part Z: what is raised, read from the outside in. -/
namespace Ev
open PySem L2
class HasX (G : GS) (k : Nat) (e : outParam EC) : Prop where
  ok : G.exc.lookup k = some e
noncomputable instance {G : GS} {i : Nat} {d : D} {x : Option (Nat × XD)} [h : HasG G i d] : HasG (G.at x) i d := ⟨h.ok⟩
noncomputable instance {G : GS} {i : Nat} {d : EC} {x : Option (Nat × XD)} [h : HasX G i d] : HasX (G.at x) i d := ⟨h.ok⟩
theorem wo_lookX {G : GS} {k : Nat} {e : EC} [h : HasX G k e] {Q : EC → Prop} : WO (G.exc.lookup k) Q = Q e := by rw [h.ok]; rfl
/-- a call that raises -/
noncomputable def WR (o : Option (XD × List M)) (Q : XD → List M → Prop) : Prop := match o with
  | some (x, os) => Q x os
  | none => False
theorem wr_some {m : XD} {os : List M} {Q : XD → List M → Prop} : WR (some (m, os)) Q = Q m os := rfl
theorem WR.use {o : Option (XD × List M)} {Q : XD → List M → Prop} (h : WR o Q) : ∃ m os, o = some (m, os) ∧ Q m os := by
  cases o with
  | none => exact h.elim
  | some a => exact ⟨a.1, a.2, rfl, h⟩
theorem WR.of {o : Option (XD × List M)} {Q : XD → List M → Prop} {m : XD} {os : List M} (e : o = some (m, os)) (h : Q m os) : WR o Q := by rw [e]; exact h
theorem WR.mono {o : Option (XD × List M)} {Q R : XD → List M → Prop} (h : WR o Q) (k : ∀ m os, Q m os → R m os) : WR o R := by
  cases o with
  | none => exact h
  | some a => exact k _ _ h
section
variable (G : GS) (cl : Caller)
noncomputable def wrE (p : Bool) (e : CE) (τ : T) (R : XD → T → Prop) : Prop := WO (rsE G cl p e τ) fun u => R u.1 u.2
noncomputable def wrX (p : Bool) (es : CEs) (τ : T) (R : XD → T → Prop) : Prop := WO (rsX G cl p es τ) fun u => R u.1 u.2
noncomputable def wrS (io : List Nat) (s : CS) (τ : T) (R : XD → T → Prop) : Prop := WO (rsS G cl io s τ) fun u => R u.1 u.2
noncomputable def wrSs (io : List Nat) (s : CSs) (τ : T) (R : XD → T → Prop) : Prop := WO (rsSs G cl io s τ) fun u => R u.1 u.2
noncomputable def wpH (io : List Nat) (hs : CHs) (x : XD) (τ : T) (w : Wh) : Prop := WO (evH G cl io hs x τ) w.of
end
section
variable {G : GS} {cl : Caller}
theorem exc_none {f : Nat} {ms : List M} {u : XD × List M} (h : cl.exc f ms = some u) : cl f ms = none := by
  unfold Caller.exc at h
  unfold Caller.run
  revert h
  rcases cl.out f ms with _ | ⟨m | x, os⟩
  · exact fun _ => rfl
  · exact fun h => by cases h
  · exact fun _ => rfl
theorem wrE_call {p : Bool} {f : Nat} {es : CEs} {τ : T} {R : XD → T → Prop} : wrE G cl p (.call f es) τ R = wpL G cl p es τ fun rs τ1 => WO (G.fns.lookup f) fun fn => WO (takeA p fn.io 0 rs τ1) fun t => WR (cl.exc f t.1) fun x os => R x (giveA t.2.1 os t.2.2) := by
  unfold wrE
  rw [rsE, wl_eq p es]
  rcases evL G cl p es τ with _ | ⟨rs, τ1⟩
  · rfl
  simp only [wo_some]
  rcases G.fns.lookup f with _ | fn
  · rfl
  simp only [wo_some]
  rcases takeA p fn.io 0 rs τ1 with _ | ⟨ms, is, τ2⟩
  · rfl
  simp only [wo_some]
  rcases cl.exc f ms with _ | ⟨x, os⟩ <;> rfl
theorem wrE_mk {p : Bool} {c : Nat} {es : CEs} {τ : T} {R : XD → T → Prop} : wrE G cl p (.mk c es) τ R = wpL G cl p es τ fun rs τ1 => WO (G.cls.lookup c) fun k => WO (G.fns.lookup k.init) fun fn => WO (takeA p fn.io 1 rs τ1) fun t => WR (cl.exc k.init (.ins c [] :: t.1)) fun x os => ∃ s r, os = s :: r ∧ R x (giveA t.2.1 r t.2.2) := by
  unfold wrE
  rw [rsE, wl_eq p es]
  rcases evL G cl p es τ with _ | ⟨rs, τ1⟩
  · rfl
  simp only [wo_some]
  rcases G.cls.lookup c with _ | k
  · rfl
  simp only [wo_some]
  rcases G.fns.lookup k.init with _ | fn
  · rfl
  simp only [wo_some]
  rcases takeA p fn.io 1 rs τ1 with _ | ⟨ms, is, τ2⟩
  · rfl
  simp only [wo_some]
  rcases cl.exc k.init (.ins c [] :: ms) with _ | ⟨x, _ | ⟨s, os⟩⟩
  · rfl
  · exact propext ⟨fun h => h.elim, fun h => by obtain ⟨s, r, e, _⟩ := h; cases e⟩
  · exact propext ⟨fun h => ⟨s, os, rfl, h⟩, fun h => by obtain ⟨s', r, e, h⟩ := h; cases e; exact h⟩
theorem wrE_frz {p : Bool} {a : CE} {τ : T} {R : XD → T → Prop} : wrE G cl p (.frz a) τ R = wrE G cl p a τ R := by unfold wrE; rw [rsE]
theorem wrE_tup {p : Bool} {es : CEs} {τ : T} {R : XD → T → Prop} : wrE G cl p (.tup es) τ R = wrX G cl p es τ R := by unfold wrE wrX; rw [rsE]
theorem wrE_ife {p : Bool} {t : CT} {a b : CE} {τ : T} {R : XD → T → Prop} : wrE G cl p (.ife t a b) τ R = wpT G cl p t τ fun k τ1 => if k = true then wrE G cl p a τ1 R else wrE G cl p b τ1 R := by
  unfold wrE
  rw [rsE, wt_eq p t]
  rcases evT G cl p t τ with _ | ⟨_ | _, τ1⟩
  · rfl
  · rfl
  · rfl
mutual
theorem exE : ∀ (e : CE) {p : Bool} {τ : T} {u : XD × T}, rsE G cl p e τ = some u → evE G cl p e τ = none
  | .call f es, p, τ, u, h => by
    revert h
    rw [rsE, evE]
    rcases evL G cl p es τ with _ | ⟨rs, τ1⟩
    · exact fun _ => rfl
    simp only
    rcases G.fns.lookup f with _ | fn
    · exact fun _ => rfl
    simp only
    rcases takeA p fn.io 0 rs τ1 with _ | ⟨ms, is, τ2⟩
    · exact fun _ => rfl
    simp only
    cases e : cl.exc f ms with
    | none => exact fun h => by cases h
    | some u => exact fun _ => by rw [exc_none e]
  | .mk c es, p, τ, u, h => by
    revert h
    rw [rsE, evE]
    rcases evL G cl p es τ with _ | ⟨rs, τ1⟩
    · exact fun _ => rfl
    simp only
    rcases G.cls.lookup c with _ | k
    · exact fun _ => rfl
    simp only
    rcases G.fns.lookup k.init with _ | fn
    · exact fun _ => rfl
    simp only
    rcases takeA p fn.io 1 rs τ1 with _ | ⟨ms, is, τ2⟩
    · exact fun _ => rfl
    simp only
    cases e : cl.exc k.init (.ins c [] :: ms) with
    | none => exact fun h => by cases h
    | some u => exact fun _ => by rw [exc_none e]
  | .um m o es, p, τ, u, h => by
    revert h
    rw [rsE, evE]
    rcases evE G cl p o τ with _ | ⟨ro, τ1⟩
    · exact fun _ => rfl
    simp only
    rcases recvC τ1 m ro with _ | c
    · exact fun _ => rfl
    simp only
    rcases G.cls.lookup c with _ | k
    · exact fun _ => rfl
    simp only
    rcases k.ms.lookup m with _ | f
    · exact fun _ => rfl
    simp only
    rcases G.fns.lookup f with _ | fn
    · exact fun _ => rfl
    simp only
    rcases evL G cl p es τ1 with _ | ⟨rs, τ2⟩
    · exact fun _ => rfl
    simp only
    rcases ro with d | mm | ⟨i, _ | f'⟩
    · simp only
      rcases takeA p fn.io 1 rs τ2 with _ | ⟨ms, is, τ3⟩
      · exact fun _ => rfl
      simp only
      cases e : cl.exc f (.v d :: ms) with
      | none => exact fun h => by cases h
      | some u => exact fun _ => by rw [exc_none e]
    · exact fun h => by cases h
    · simp only
      rcases takeA p fn.io 0 (.pl i none :: rs) τ2 with _ | ⟨ms, is, τ3⟩
      · exact fun _ => rfl
      simp only
      cases e : cl.exc f ms with
      | none => exact fun h => by cases h
      | some u => exact fun _ => by rw [exc_none e]
    · exact fun _ => rfl
  | .tup es, p, τ, u, h => by
    rw [rsE] at h
    rw [evE, exX es h]
  | .frz a, p, τ, u, h => by
    rw [rsE] at h
    rw [evE, exE a h]
  | .ife t a b, p, τ, u, h => by
    revert h
    rw [rsE, evE]
    rcases evT G cl p t τ with _ | ⟨_ | _, τ1⟩
    · exact fun _ => rfl
    · exact fun h => exE b h
    · exact fun h => exE a h
  | .k _, p, τ, u, h => by unfold rsE at h; cases h
  | .s _, p, τ, u, h => by unfold rsE at h; cases h
  | .g _, p, τ, u, h => by unfold rsE at h; cases h
  | .bin _ _ _, p, τ, u, h => by unfold rsE at h; cases h
  | .un _ _, p, τ, u, h => by unfold rsE at h; cases h
  | .cmp _ _ _, p, τ, u, h => by unfold rsE at h; cases h
  | .chain _ _ _ _ _, p, τ, u, h => by unfold rsE at h; cases h
  | .and _ _, p, τ, u, h => by unfold rsE at h; cases h
  | .or _ _, p, τ, u, h => by unfold rsE at h; cases h
  | .not _, p, τ, u, h => by unfold rsE at h; cases h
  | .lst _, p, τ, u, h => by unfold rsE at h; cases h
  | .blt _ _, p, τ, u, h => by unfold rsE at h; cases h
  | .bm _ _ _, p, τ, u, h => by unfold rsE at h; cases h
  | .idx _ _, p, τ, u, h => by unfold rsE at h; cases h
  | .slc _ _ _, p, τ, u, h => by unfold rsE at h; cases h
  | .fld _ _, p, τ, u, h => by unfold rsE at h; cases h
  | .lc _ _ _ _ _, p, τ, u, h => by unfold rsE at h; cases h
  | .lrng _, p, τ, u, h => by unfold rsE at h; cases h
  | .rev _, p, τ, u, h => by unfold rsE at h; cases h
  | .dct _, p, τ, u, h => by unfold rsE at h; cases h
  | .isE _ _, p, τ, u, h => by unfold rsE at h; cases h
  | .eF _ _, p, τ, u, h => by unfold rsE at h; cases h
theorem exX : ∀ (es : CEs) {p : Bool} {τ : T} {u : XD × T}, rsX G cl p es τ = some u → evX G cl p es τ = none
  | .nil, p, τ, u, h => by unfold rsX at h; cases h
  | .cons e r, p, τ, u, h => by
    revert h
    rw [rsX, evX]
    rcases evE G cl p e τ with _ | ⟨x, τ1⟩
    · exact fun _ => rfl
    simp only
    rcases esc p τ1 x with _ | ⟨d, τ2⟩
    · exact fun _ => rfl
    simp only
    intro h
    rw [exX r h]
    rfl
end
theorem wrS_set {io : List Nat} {i : Nat} {e : CE} {τ : T} {R : XD → T → Prop} : wrS G cl io (.set i e) τ R = (io.contains i = false ∧ wrE G cl false e τ R) := by
  unfold wrS wrE
  rw [rsS]
  by_cases h : io.contains i = true
  · rw [if_pos h, h]; exact propext ⟨fun z => z.elim, fun z => nomatch z.1⟩
  · rw [if_neg h]
    have h' : io.contains i = false := by simpa using h
    exact propext ⟨fun z => ⟨h', z⟩, fun z => z.2⟩
theorem wrS_setT {io : List Nat} {tg : Tg} {e : CE} {τ : T} {R : XD → T → Prop} : wrS G cl io (.setT tg e) τ R = wrE G cl false e τ R := by unfold wrS wrE; rw [rsS]
theorem wrS_ex {io : List Nat} {e : CE} {τ : T} {R : XD → T → Prop} : wrS G cl io (.ex e) τ R = wrE G cl false e τ R := by unfold wrS wrE; rw [rsS]
theorem wrS_ret {io : List Nat} {e : CE} {τ : T} {R : XD → T → Prop} : wrS G cl io (.ret e) τ R = wrE G cl false e τ R := by unfold wrS wrE; rw [rsS]
/-- what a raise makes of its arguments -/
noncomputable def rseX (ec : EC) (k : Nat) (ds : List D) : Option XD := if ec.rs then (match ec.fld, ds with
  | none, [] => some (k, [])
  | some f, [d] => some (k, [(f, d)])
  | _, _ => none) else none
theorem wrS_rse {io : List Nat} {k : Nat} {es : CEs} {τ : T} {R : XD → T → Prop} : wrS G cl io (.rse k es) τ R = wpX G cl false es τ fun ds τ1 => WO (G.exc.lookup k) fun ec => WO (rseX ec k ds) fun x => R x τ1 := by
  unfold wrS
  rw [rsS, wx_eq false es]
  rcases evX G cl false es τ with _ | ⟨ds, τ1⟩
  · rfl
  simp only [wo_some]
  rcases G.exc.lookup k with _ | ec
  · rfl
  simp only [wo_some]
  unfold rseX
  by_cases h : ec.rs = true
  · rw [if_pos h, if_pos h]
    rcases ec.fld with _ | f
    · rcases ds with _ | ⟨d, ds⟩ <;> rfl
    · rcases ds with _ | ⟨d, _ | ⟨d2, ds⟩⟩ <;> rfl
  · rw [if_neg h, if_neg h]; rfl
theorem wrS_ite {io : List Nat} {t : CT} {a b : CSs} {τ : T} {R : XD → T → Prop} : wrS G cl io (.ite t a b) τ R = wpT G cl false t τ fun k τ1 => if k = true then wrSs G cl io a τ1 R else wrSs G cl io b τ1 R := by
  unfold wrS wrSs
  rw [rsS, wt_eq false t]
  rcases evT G cl false t τ with _ | ⟨_ | _, τ1⟩ <;> rfl
theorem forR_ex {g : D → T → Option T} {b : T → Option Fl} {rb : T → Option (XD × T)} (hb : ∀ τ u, rb τ = some u → b τ = none) : ∀ {xs : List D} {τ : T} {u : XD × T}, forR g b rb xs τ = some u → forL g b xs τ = none
  | [], τ, u, h => by cases h
  | x :: xs, τ, u, h => by
    revert h
    unfold forR forL
    rcases g x τ with _ | τ1
    · exact fun _ => rfl
    simp only
    rcases b τ1 with _ | fl
    · exact fun _ => rfl
    cases fl with
    | nx τ2 => exact fun h => forR_ex hb h
    | ct τ2 => exact fun h => forR_ex hb h
    | bk τ2 => exact fun h => by cases h
    | ret m τ2 => exact fun h => by cases h
theorem whileR_ex {t : T → Option (Bool × T)} {b : T → Option Fl} {rb : T → Option (XD × T)} (hb : ∀ τ u, rb τ = some u → b τ = none) : ∀ {n : Nat} {τ : T} {u : XD × T}, whileR t b rb n τ = some u → whileL t b n τ = none
  | 0, τ, u, h => by cases h
  | n + 1, τ, u, h => by
    revert h
    unfold whileR whileL
    rcases t τ with _ | ⟨_ | _, τ1⟩
    · exact fun _ => rfl
    · exact fun h => by cases h
    simp only
    rcases b τ1 with _ | fl
    · exact fun _ => rfl
    cases fl with
    | nx τ2 => exact fun h => whileR_ex hb h
    | ct τ2 => exact fun h => whileR_ex hb h
    | bk τ2 => exact fun h => by cases h
    | ret m τ2 => exact fun h => by cases h
mutual
theorem exS : ∀ (s : CS) {io : List Nat} {τ : T} {u : XD × T}, rsS G cl io s τ = some u → evS G cl io s τ = none
  | .set i e, io, τ, u, h => by
    rw [rsS] at h
    rw [evS]
    split at h
    · cases h
    · rename_i hi
      rw [if_neg hi, exE e h]
  | .setT tg e, io, τ, u, h => by
    rw [rsS] at h
    rw [evS, exE e h]
  | .ex e, io, τ, u, h => by
    rw [rsS] at h
    rw [evS, exE e h]
    rfl
  | .ret e, io, τ, u, h => by
    rw [rsS] at h
    rw [evS, exE e h]
  | .rse k es, io, τ, u, h => by rw [evS]
  | .ite t a b, io, τ, u, h => by
    revert h
    rw [rsS, evS]
    rcases evT G cl false t τ with _ | ⟨_ | _, τ1⟩
    · exact fun _ => rfl
    · exact fun h => exSs b h
    · exact fun h => exSs a h
  | .whl t b, io, τ, u, h => by
    rw [rsS] at h
    rw [evS]
    exact whileR_ex (fun τ u e => exSs b e) h
  | .loop tg it b, io, τ, u, h => by
    revert h
    rw [rsS, evS]
    rcases evI G cl false it τ with _ | ⟨xs, τ1⟩
    · exact fun _ => rfl
    · exact fun h => forR_ex (fun τ u e => exSs b e) h
  | .par _ _ _ _, io, τ, u, h => by unfold rsS at h; cases h
  | .aug _ _ _, io, τ, u, h => by unfold rsS at h; cases h
  | .fset _ _ _, io, τ, u, h => by unfold rsS at h; cases h
  | .iset _ _ _, io, τ, u, h => by unfold rsS at h; cases h
  | .fiset _ _ _ _, io, τ, u, h => by unfold rsS at h; cases h
  | .bad, io, τ, u, h => by unfold rsS at h; cases h
  | .retN, io, τ, u, h => by unfold rsS at h; cases h
  | .pass, io, τ, u, h => by unfold rsS at h; cases h
  | .brk, io, τ, u, h => by unfold rsS at h; cases h
  | .cont, io, τ, u, h => by unfold rsS at h; cases h
  | .tryx _ _, io, τ, u, h => by unfold rsS at h; cases h
theorem exSs : ∀ (s : CSs) {io : List Nat} {τ : T} {u : XD × T}, rsSs G cl io s τ = some u → evSs G cl io s τ = none
  | .nil, io, τ, u, h => by unfold rsSs at h; cases h
  | .cons s r, io, τ, u, h => by
    revert h
    rw [rsSs, evSs]
    rcases evS G cl io s τ with _ | fl
    · exact fun _ => rfl
    cases fl with
    | nx τ2 => exact fun h => exSs r h
    | ct τ2 => exact fun h => by cases h
    | bk τ2 => exact fun h => by cases h
    | ret m τ2 => exact fun h => by cases h
end
theorem wrSs_here {io : List Nat} {s : CS} {r : CSs} {τ : T} {R : XD → T → Prop} (h : wrS G cl io s τ R) : wrSs G cl io (.cons s r) τ R := by
  obtain ⟨u, e1, h⟩ := WO.use h
  unfold wrSs
  rw [rsSs, exS s e1]
  exact WO.mk e1 h
theorem wrSs_next {io : List Nat} {s : CS} {r : CSs} {τ : T} {R : XD → T → Prop} (h : wpS G cl io s τ { nx := fun τ1 => wrSs G cl io r τ1 R, rt := fun _ _ => False }) : wrSs G cl io (.cons s r) τ R := by
  rw [ws_eq] at h
  obtain ⟨fl, e1, h⟩ := h.use
  unfold wrSs
  rw [rsSs, e1]
  cases fl with
  | nx τ2 => exact h
  | ct τ2 => exact h.elim
  | bk τ2 => exact h.elim
  | ret m τ2 => exact h.elim
theorem wrSs.mono {io : List Nat} {s : CSs} {τ : T} {R Q : XD → T → Prop} (h : wrSs G cl io s τ R) (k : ∀ x τ, R x τ → Q x τ) : wrSs G cl io s τ Q := WO.mono h fun u => k u.1 u.2
/-- the k-th turn of a loop raises -/
theorem wrS_loop {io : List Nat} {tg : Tg} {it : CI} {b : CSs} {τ : T} {R : XD → T → Prop} (I : List D → List D → T → Prop)
    (h : wpI G cl false it τ fun xs τ1 => I [] xs τ1 ∧ ∀ τ, I xs [] τ → False)
    (h1 : ∀ pre x rs τ, I pre (x :: rs) τ → WO (bindTg io tg x τ) fun τ1 => wpSs G cl io b τ1 { nx := fun τ2 => I (pre ++ [x]) rs τ2, ct := fun τ2 => I (pre ++ [x]) rs τ2, rt := fun _ _ => False } ∨ wrSs G cl io b τ1 R) : wrS G cl io (.loop tg it b) τ R := by
  unfold wrS
  rw [rsS]
  rw [wi_eq false it] at h
  obtain ⟨⟨xs, τ1⟩, e, h0, h2⟩ := h.use
  rw [e]
  simp only at h0 h2 ⊢
  have key : ∀ (rs pre : List D) (τ : T), pre ++ rs = xs → I pre rs τ → WO (forR (bindTg io tg) (fun t' => evSs G cl io b t') (fun t' => rsSs G cl io b t') rs τ) fun u => R u.1 u.2 := by
    intro rs
    induction rs with
    | nil =>
      intro pre τ ep hI
      rw [List.append_nil] at ep
      subst ep
      exact (h2 τ hI).elim
    | cons x rs ih =>
      intro pre τ ep hI
      obtain ⟨τ2, e2, h3⟩ := (h1 pre x rs τ hI).use
      unfold forR
      rw [e2]
      simp only
      rcases h3 with h3 | h3
      · rw [wss_eq] at h3
        obtain ⟨fl, e3, h3⟩ := h3.use
        rw [e3]
        cases fl with
        | nx τ3 => exact ih (pre ++ [x]) τ3 (by rw [List.append_assoc]; exact ep) h3
        | ct τ3 => exact ih (pre ++ [x]) τ3 (by rw [List.append_assoc]; exact ep) h3
        | bk τ3 => exact h3.elim
        | ret m τ3 => exact h3.elim
      · obtain ⟨u, e3, h3⟩ := WO.use h3
        rw [exSs b e3]
        exact WO.mk e3 h3
  exact key xs [] τ1 rfl h0
/-- a def that raises -/
theorem call_wr {G : GS} {n f : Nat} {F : Fn} [hF : HasF G f F] {args : List M} {Q : XD → List M → Prop} (hl : args.length = F.np ∧ F.np ≤ F.ns)
    (h : wrSs G (callN G n) F.io F.body (args.map some ++ List.replicate (F.ns - F.np) none) fun x τ => WO (outs F.io 0 args τ) fun os => Q x os) : WR ((callN G (n + 1)).exc f args) Q := by
  obtain ⟨⟨x, τ⟩, e, h⟩ := WO.use h
  rw [callN_exc, hF.ok]
  simp only [hl.1, hl.2, and_self, if_true, exSs _ e, e]
  obtain ⟨os, eo, h⟩ := WO.use h
  simp only [eo]
  exact h
/-- a try whose body raises nothing -/
theorem try_nx {io : List Nat} {b : CSs} {hs : CHs} {τ : T} {w : Wh} (h : wpSs G cl io b τ w) : WO (evS G cl io (.tryx b hs) τ) w.of := by
  rw [wss_eq] at h
  obtain ⟨fl, e, h⟩ := h.use
  rw [evS, e]
  exact h
/-- a try whose body raises -/
theorem try_rs {io : List Nat} {b : CSs} {hs : CHs} {τ : T} {w : Wh} (h : wrSs G cl io b τ fun x τ1 => wpH G cl io hs x τ1 w) : WO (evS G cl io (.tryx b hs) τ) w.of := by
  obtain ⟨u, e, h⟩ := WO.use h
  rw [evS, exSs b e, e]
  exact h
noncomputable def Wh.clr (i : Option Nat) (w : Wh) : Wh := { nx := fun τ => w.nx (clrS i τ), rt := fun m τ => w.rt m (clrS i τ), bk := fun τ => w.bk (clrS i τ), ct := fun τ => w.ct (clrS i τ) }
theorem wpH_yes {io : List Nat} {c : Nat} {i : Option Nat} {b : CSs} {r : CHs} {x : XD} {τ : T} {w : Wh} (hx : isX G x.1 (some c) = some true) (hi : (i.any fun j => io.contains j) = false) (h : ∀ N, wpSs (G.at (some (N, x))) cl io b (bindX i N τ) (w.clr i)) : wpH G cl io (.cons c i b r) x τ w := by
  unfold wpH
  have h := h (max (mxT τ) (mxF x.2))
  rw [wss_eq] at h
  obtain ⟨fl, e, h⟩ := h.use
  rw [evH, hx]
  simp only [hi, Bool.false_eq_true, if_false, e]
  cases fl with
  | nx τ2 => exact h
  | ct τ2 => exact h
  | bk τ2 => exact h
  | ret m τ2 => exact h
theorem cur_x {N : Nat} {x : XD} : curX (G.at (some (N, x))) N = some x := by unfold curX; simp
theorem asX_x {n : Nat} : asX (.d (.exc n)) = some n := rfl
theorem slR_x {i n : Nat} : slR i (some (.v (.exc n))) = some (.d (.exc n)) := rfl
theorem isX_n {k : Nat} : isX G k none = some true := rfl
theorem isX_s {k j : Nat} {e : EC} [h : HasX G k e] : isX G k (some j) = some (e.up.contains j) := by unfold isX; rw [h.ok]; rfl
theorem bindX_s {i n : Nat} {τ : T} : bindX (some i) n τ = τ.set i (some (.v (.exc n))) := rfl
theorem bindX_n {n : Nat} {τ : T} : bindX none n τ = τ := rfl
theorem clrS_s {i : Nat} {τ : T} : clrS (some i) τ = τ.set i none := rfl
theorem clrS_n {τ : T} : clrS none τ = τ := rfl
end
end Ev

namespace Tx
open PySem Ev
-- is_integer(thing); slots 0:thing
noncomputable def b0_0 : CSs := .cons (.ret (.and (.blt .isi (.cons (.s 0) (.cons (.k (.ty .int)) .nil))) (.not (.blt .isi (.cons (.s 0) (.cons (.k (.ty .bool)) .nil)))))) .nil
noncomputable def f0 : Fn := ⟨1, 1, [0], b0_0⟩
-- is_between(thing, least, most); slots 0:thing 1:least 2:most
noncomputable def b1_0 : CSs := .cons (.ret (.and (.call 0 (.cons (.s 0) .nil)) (.chain .LtE .LtE (.s 1) (.s 0) (.s 2)))) .nil
noncomputable def f1 : Fn := ⟨3, 3, [0, 1, 2], b1_0⟩
-- is_pair(thing); slots 0:thing
noncomputable def b2_0 : CSs := .cons (.ret (.and (.blt .isi (.cons (.s 0) (.cons (.k (.ty .tuple)) .nil))) (.cmp .Eq (.blt .len (.cons (.s 0) .nil)) (.k (.int 2))))) .nil
noncomputable def f2 : Fn := ⟨1, 1, [0], b2_0⟩
-- is_tie(thing, size); slots 0:thing 1:size
noncomputable def b7_0 : CSs := .cons (.ret (.and (.call 2 (.cons (.s 0) .nil)) (.and (.call 1 (.cons (.idx (.s 0) (.k (.int 0))) (.cons (.k (.int 0)) (.cons (.bin .Sub (.s 1) (.k (.int 1))) .nil)))) (.call 1 (.cons (.idx (.s 0) (.k (.int 1))) (.cons (.bin .Add (.idx (.s 0) (.k (.int 0))) (.k (.int 1))) (.cons (.bin .Sub (.s 1) (.k (.int 1))) .nil))))))) .nil
noncomputable def f7 : Fn := ⟨2, 2, [0, 1], b7_0⟩
-- _law_tape(_law_script); slots 0:_law_script
noncomputable def b17_0 : CSs := .cons (.ret (.lst (.cons (.blt .list (.cons (.s 0) .nil)) (.cons (.k (.int 0)) (.cons (.k (.int 0)) (.cons (.k (.int 1)) (.cons (.k (.int 0)) .nil))))))) .nil
noncomputable def f17 : Fn := ⟨1, 1, [0], b17_0⟩
-- _law_pick(_law_tape_here, _law_many); slots 0:_law_tape_here 1:_law_many 2:_law_digit 3:_law_cell 4:_law_mixed_here
noncomputable def b18_3 : CSs := .cons (.ret (.s 2)) .nil
noncomputable def b18_2 : CSs := .cons (.iset 0 (.k (.int 2)) (.bin .FloorDiv (.idx (.s 0) (.k (.int 2))) (.s 1))) b18_3
noncomputable def b18_1 : CSs := .cons (.set 2 (.bin .Mod (.blt .int (.cons (.idx (.s 0) (.k (.int 2))) .nil)) (.s 1))) b18_2
noncomputable def b18_8 : CSs := .cons (.iset 0 (.k (.int 1)) (.bin .Add (.idx (.s 0) (.k (.int 1))) (.k (.int 1)))) .nil
noncomputable def b18_7 : CSs := .cons (.set 3 (.idx (.idx (.s 0) (.k (.int 0))) (.idx (.s 0) (.k (.int 1))))) b18_8
noncomputable def b18_11 : CSs := .cons (.ret (.bin .Mod (.blt .int (.cons (.s 3) .nil)) (.s 1))) .nil
noncomputable def b18_10 : CSs := .cons (.iset 0 (.k (.int 2)) (.bin .FloorDiv (.s 3) (.s 1))) b18_11
noncomputable def b18_15 : CSs := .cons (.ret (.bin .Mod (.blt .int (.cons (.bin .FloorDiv (.s 4) (.k (.int 16))) .nil)) (.s 1))) .nil
noncomputable def b18_14 : CSs := .cons (.iset 0 (.k (.int 3)) (.s 4)) b18_15
noncomputable def b18_13 : CSs := .cons (.set 4 (.bin .Mod (.blt .int (.cons (.bin .Mult (.s 4) (.bin .Add (.bin .FloorDiv (.s 4) (.k (.int 1009))) (.k (.int 40692)))) .nil)) (.k (.int 2147483399)))) b18_14
noncomputable def b18_12 : CSs := .cons (.set 4 (.bin .Mod (.blt .int (.cons (.bin .Add (.bin .Add (.bin .Mult (.idx (.s 0) (.k (.int 3))) (.k (.int 48271))) (.bin .Mod (.blt .int (.cons (.s 3) .nil)) (.k (.int 2147483629)))) (.bin .Mult (.idx (.s 0) (.k (.int 4))) (.k (.int 69621)))) .nil)) (.k (.int 2147483647)))) b18_13
noncomputable def b18_9 : CSs := .cons (.ite (.e (.cmp .GtE (.s 3) (.bin .Pow (.k (.int 10)) (.k (.int 18))))) b18_10 .nil) b18_12
noncomputable def b18_6 : CSs := .cons (.ite (.e (.cmp .Lt (.idx (.s 0) (.k (.int 1))) (.blt .len (.cons (.idx (.s 0) (.k (.int 0))) .nil)))) b18_7 .nil) b18_9
noncomputable def b18_5 : CSs := .cons (.set 3 (.k (.int 0))) b18_6
noncomputable def b18_4 : CSs := .cons (.iset 0 (.k (.int 4)) (.bin .Add (.idx (.s 0) (.k (.int 4))) (.k (.int 1)))) b18_5
noncomputable def b18_0 : CSs := .cons (.ite (.e (.cmp .Gt (.idx (.s 0) (.k (.int 2))) (.k (.int 1)))) b18_1 .nil) b18_4
noncomputable def f18 : Fn := ⟨2, 5, [0, 1], b18_0⟩
-- _law_is_integer(_law_thing); slots 0:_law_thing
noncomputable def b19_0 : CSs := .cons (.ret (.and (.blt .isi (.cons (.s 0) (.cons (.k (.ty .int)) .nil))) (.not (.blt .isi (.cons (.s 0) (.cons (.k (.ty .bool)) .nil)))))) .nil
noncomputable def f19 : Fn := ⟨1, 1, [0], b19_0⟩
-- _law_same(_law_told_here, _law_due); slots 0:_law_told_here 1:_law_due 2:_law_one 3:_law_other
noncomputable def b21_2 : CSs := .cons (.ret (.k (.bl false))) .nil
noncomputable def b21_4 : CSs := .cons (.ret (.k (.bl false))) .nil
noncomputable def b21_5 : CSs := .cons (.ret (.blt .all (.cons (.lc [2, 3] (.tup (.cons (.one 2) (.cons (.one 3) .nil))) (.zip (.s 0) (.s 1)) .yes (.call 21 (.cons (.s 2) (.cons (.s 3) .nil)))) .nil))) .nil
noncomputable def b21_3 : CSs := .cons (.ite (.e (.cmp .NotEq (.blt .len (.cons (.s 0) .nil)) (.blt .len (.cons (.s 1) .nil)))) b21_4 .nil) b21_5
noncomputable def b21_1 : CSs := .cons (.ite (.or (.e (.cmp .NotEq (.blt .isi (.cons (.s 0) (.cons (.k (.ty .list)) .nil))) (.blt .isi (.cons (.s 1) (.cons (.k (.ty .list)) .nil))))) (.not (.e (.blt .isi (.cons (.s 0) (.cons (.tup (.cons (.k (.ty .list)) (.cons (.k (.ty .tuple)) .nil))) .nil)))))) b21_2 .nil) b21_3
noncomputable def b21_7 : CSs := .cons (.ret (.cmp .Is (.s 0) (.k .non))) .nil
noncomputable def b21_9 : CSs := .cons (.ret (.and (.blt .isi (.cons (.s 0) (.cons (.k (.ty .bool)) .nil))) (.cmp .Eq (.s 0) (.s 1)))) .nil
noncomputable def b21_11 : CSs := .cons (.ret (.and (.blt .isi (.cons (.s 0) (.cons (.k (.ty .str)) .nil))) (.cmp .Eq (.s 0) (.s 1)))) .nil
noncomputable def b21_12 : CSs := .cons (.ret (.and (.call 19 (.cons (.s 0) .nil)) (.cmp .Eq (.s 0) (.s 1)))) .nil
noncomputable def b21_10 : CSs := .cons (.ite (.e (.blt .isi (.cons (.s 1) (.cons (.k (.ty .str)) .nil)))) b21_11 .nil) b21_12
noncomputable def b21_8 : CSs := .cons (.ite (.e (.blt .isi (.cons (.s 1) (.cons (.k (.ty .bool)) .nil)))) b21_9 .nil) b21_10
noncomputable def b21_6 : CSs := .cons (.ite (.e (.cmp .Is (.s 1) (.k .non))) b21_7 .nil) b21_8
noncomputable def b21_0 : CSs := .cons (.ite (.e (.blt .isi (.cons (.s 1) (.cons (.tup (.cons (.k (.ty .list)) (.cons (.k (.ty .tuple)) .nil))) .nil)))) b21_1 .nil) b21_6
noncomputable def f21 : Fn := ⟨2, 4, [0, 1], b21_0⟩
-- _law_any(_law_tape_here, _law_things); slots 0:_law_tape_here 1:_law_things
noncomputable def b22_0 : CSs := .cons (.ret (.idx (.s 1) (.call 18 (.cons (.s 0) (.cons (.blt .len (.cons (.s 1) .nil)) .nil))))) .nil
noncomputable def f22 : Fn := ⟨2, 2, [0, 1], b22_0⟩
-- _law_mixed(_law_tape_here, _law_things); slots 0:_law_tape_here 1:_law_things 2:_law_left 3:_law_found 4:_law_turn
noncomputable def b23_3 : CSs := .cons (.ex (.bm .append (.s 3) (.cons (.bm .popAt (.s 2) (.cons (.call 18 (.cons (.s 0) (.cons (.blt .len (.cons (.s 2) .nil)) .nil))) .nil)) .nil))) .nil
noncomputable def b23_4 : CSs := .cons (.ret (.s 3)) .nil
noncomputable def b23_2 : CSs := .cons (.loop (.one 4) (.rng1 (.blt .len (.cons (.s 1) .nil))) b23_3) b23_4
noncomputable def b23_1 : CSs := .cons (.set 3 (.lst .nil)) b23_2
noncomputable def b23_0 : CSs := .cons (.set 2 (.blt .list (.cons (.s 1) .nil))) b23_1
noncomputable def f23 : Fn := ⟨2, 5, [0, 1], b23_0⟩
-- _law_web(_law_tape_here, _law_most); slots 0:_law_tape_here 1:_law_most 2:_law_size 3:_law_style 4:_law_names 5:_law_found 6:_law_one 7:_law_other 8:_law_take
noncomputable def b24_8 : CSs := .cons (.set 8 (.or (.cmp .Eq (.bin .Add (.s 7) (.k (.int 1))) (.s 6)) (.and (.cmp .Eq (.s 7) (.k (.int 0))) (.cmp .Eq (.s 6) (.bin .Sub (.s 2) (.k (.int 1))))))) .nil
noncomputable def b24_10 : CSs := .cons (.set 8 (.cmp .Eq (.blt .int (.cons (.bin .FloorDiv (.s 6) (.k (.int 3))) .nil)) (.blt .int (.cons (.bin .FloorDiv (.s 7) (.k (.int 3))) .nil)))) .nil
noncomputable def b24_12 : CSs := .cons (.set 8 (.and (.cmp .NotEq (.bin .Mod (.blt .int (.cons (.s 6) .nil)) (.k (.int 2))) (.bin .Mod (.blt .int (.cons (.s 7) .nil)) (.k (.int 2)))) (.cmp .Gt (.call 18 (.cons (.s 0) (.cons (.k (.int 3)) .nil))) (.k (.int 0))))) .nil
noncomputable def b24_14 : CSs := .cons (.ex (.bm .append (.s 5) (.cons (.tup (.cons (.blt .min2 (.cons (.idx (.s 4) (.s 6)) (.cons (.idx (.s 4) (.s 7)) .nil))) (.cons (.blt .max2 (.cons (.idx (.s 4) (.s 6)) (.cons (.idx (.s 4) (.s 7)) .nil))) .nil))) .nil))) .nil
noncomputable def b24_13 : CSs := .cons (.ite (.e (.s 8)) b24_14 .nil) .nil
noncomputable def b24_11 : CSs := .cons (.ite (.e (.cmp .Eq (.s 3) (.k (.int 2)))) b24_12 .nil) b24_13
noncomputable def b24_9 : CSs := .cons (.ite (.e (.cmp .Eq (.s 3) (.k (.int 1)))) b24_10 .nil) b24_11
noncomputable def b24_7 : CSs := .cons (.ite (.e (.cmp .Eq (.s 3) (.k (.int 0)))) b24_8 .nil) b24_9
noncomputable def b24_6 : CSs := .cons (.set 8 (.cmp .Lt (.call 18 (.cons (.s 0) (.cons (.k (.int 6)) .nil))) (.bin .Sub (.s 3) (.k (.int 2))))) b24_7
noncomputable def b24_5 : CSs := .cons (.loop (.one 7) (.rng1 (.s 6)) b24_6) .nil
noncomputable def b24_15 : CSs := .cons (.ret (.tup (.cons (.s 2) (.cons (.blt .tuple (.cons (.blt .sorted (.cons (.s 5) .nil)) .nil)) .nil)))) .nil
noncomputable def b24_4 : CSs := .cons (.loop (.one 6) (.rng1 (.s 2)) b24_5) b24_15
noncomputable def b24_3 : CSs := .cons (.set 5 (.lst .nil)) b24_4
noncomputable def b24_2 : CSs := .cons (.set 4 (.call 23 (.cons (.s 0) (.cons (.lrng (.rng1 (.s 2))) .nil)))) b24_3
noncomputable def b24_1 : CSs := .cons (.set 3 (.call 18 (.cons (.s 0) (.cons (.k (.int 7)) .nil)))) b24_2
noncomputable def b24_0 : CSs := .cons (.set 2 (.bin .Add (.k (.int 1)) (.call 18 (.cons (.s 0) (.cons (.s 1) .nil))))) b24_1
noncomputable def f24 : Fn := ⟨2, 9, [0, 1], b24_0⟩
-- Web.__init__(self, size, ties); slots 0:self 1:size 2:ties 3:number 4:item
noncomputable def b29_1 : CSs := .cons (.rse 1 (.cons (.k (.str "size")) .nil)) .nil
noncomputable def b29_3 : CSs := .cons (.rse 1 (.cons (.k (.str "ties")) .nil)) .nil
noncomputable def b29_6 : CSs := .cons (.rse 1 (.cons (.s 3) .nil)) .nil
noncomputable def b29_5 : CSs := .cons (.ite (.or (.not (.e (.call 7 (.cons (.s 4) (.cons (.s 1) .nil))))) (.and (.e (.cmp .Gt (.s 3) (.k (.int 0)))) (.e (.cmp .LtE (.s 4) (.idx (.s 2) (.bin .Sub (.s 3) (.k (.int 1)))))))) b29_6 .nil) .nil
noncomputable def b29_7 : CSs := .cons (.ex (.um 3 (.s 0) (.cons (.s 1) (.cons (.s 2) .nil)))) .nil
noncomputable def b29_4 : CSs := .cons (.loop (.tup (.cons (.one 3) (.cons (.one 4) .nil))) (.enum (.s 2)) b29_5) b29_7
noncomputable def b29_2 : CSs := .cons (.ite (.not (.e (.blt .isi (.cons (.s 2) (.cons (.k (.ty .tuple)) .nil))))) b29_3 .nil) b29_4
noncomputable def b29_0 : CSs := .cons (.ite (.not (.e (.call 1 (.cons (.s 1) (.cons (.k (.int 1)) (.cons (.g 0) .nil)))))) b29_1 .nil) b29_2
noncomputable def f29 : Fn := ⟨3, 5, [0, 1, 2], b29_0⟩
-- Web.begin(self, size, ties); slots 0:self 1:size 2:ties 3:one 4:other
noncomputable def b30_6 : CSs := .cons (.fiset 0 1 (.s 4) (.bin .BitOr (.idx (.fld (.s 0) 1) (.s 4)) (.bin .LShift (.k (.int 1)) (.s 3)))) .nil
noncomputable def b30_5 : CSs := .cons (.fiset 0 1 (.s 3) (.bin .BitOr (.idx (.fld (.s 0) 1) (.s 3)) (.bin .LShift (.k (.int 1)) (.s 4)))) b30_6
noncomputable def b30_4 : CSs := .cons (.loop (.tup (.cons (.one 3) (.cons (.one 4) .nil))) (.e (.s 2)) b30_5) .nil
noncomputable def b30_3 : CSs := .cons (.fset 0 1 (.bin .Mult (.lst (.cons (.k (.int 0)) .nil)) (.s 1))) b30_4
noncomputable def b30_2 : CSs := .cons (.fset 0 2 (.bin .Sub (.bin .LShift (.k (.int 1)) (.s 1)) (.k (.int 1)))) b30_3
noncomputable def b30_1 : CSs := .cons (.fset 0 4 (.s 2)) b30_2
noncomputable def b30_0 : CSs := .cons (.fset 0 0 (.s 1)) b30_1
noncomputable def f30 : Fn := ⟨3, 5, [0, 1, 2], b30_0⟩
-- Web.__eq__(self, other); slots 0:self 1:other
noncomputable def b39_0 : CSs := .cons (.ret (.and (.blt .isi (.cons (.s 1) (.cons (.k (.cl 0)) .nil))) (.cmp .Eq (.tup (.cons (.fld (.s 0) 0) (.cons (.fld (.s 0) 4) .nil))) (.tup (.cons (.fld (.s 1) 0) (.cons (.fld (.s 1) 4) .nil)))))) .nil
noncomputable def f39 : Fn := ⟨2, 2, [0, 1], b39_0⟩
-- _law_is_lot(_law_size, _law_thing); slots 0:_law_size 1:_law_thing 2:_law_at 3:_law_part
noncomputable def b47_1 : CSs := .cons (.ret (.k (.bl false))) .nil
noncomputable def b47_2 : CSs := .cons (.ret (.blt .all (.cons (.lc [2] (.one 2) (.rng2 (.k (.int 1)) (.blt .len (.cons (.s 1) .nil))) .yes (.cmp .Lt (.idx (.s 1) (.bin .Sub (.s 2) (.k (.int 1)))) (.idx (.s 1) (.s 2)))) .nil))) .nil
noncomputable def b47_0 : CSs := .cons (.ite (.or (.not (.e (.blt .isi (.cons (.s 1) (.cons (.k (.ty .tuple)) .nil))))) (.not (.e (.blt .all (.cons (.lc [3] (.one 3) (.e (.s 1)) .yes (.and (.call 19 (.cons (.s 3) .nil)) (.chain .LtE .Lt (.k (.int 0)) (.s 3) (.s 0)))) .nil))))) b47_1 .nil) b47_2
noncomputable def f47 : Fn := ⟨2, 4, [0, 1], b47_0⟩
-- _law_deep(); slots 0:_law_thing 1:_law_turn
noncomputable def b48_2 : CSs := .cons (.set 0 (.ife (.e (.cmp .Lt (.s 1) (.k (.int 16)))) (.lst (.cons (.s 0) .nil)) (.tup (.cons (.s 0) .nil)))) .nil
noncomputable def b48_3 : CSs := .cons (.ret (.s 0)) .nil
noncomputable def b48_1 : CSs := .cons (.loop (.one 1) (.rng1 (.k (.int 32))) b48_2) b48_3
noncomputable def b48_0 : CSs := .cons (.set 0 (.tup (.cons (.k .non) .nil))) b48_1
noncomputable def f48 : Fn := ⟨0, 2, [], b48_0⟩
-- _law_odd(_law_tape_here, _law_size, _law_thing); slots 0:_law_tape_here 1:_law_size 2:_law_thing 3:_law_things
noncomputable def b49_1 : CSs := .cons (.ret (.call 22 (.cons (.s 0) (.cons (.s 3) .nil)))) .nil
noncomputable def b49_0 : CSs := .cons (.set 3 (.lst (.cons (.s 1) (.cons (.un .USub (.k (.int 1))) (.cons (.k (.bl true)) (.cons (.k (.bl false)) (.cons (.k .non) (.cons (.k (.str "0")) (.cons (.k (.str "")) (.cons (.tup (.cons (.k (.int 0)) .nil)) (.cons (.lst (.cons (.k (.int 0)) .nil)) (.cons (.dct false) (.cons (.bin .Pow (.k (.int 10)) (.k (.int 59))) (.cons (.call 48 .nil) (.cons (.s 2) (.cons (.k (.int 0)) .nil)))))))))))))))) b49_1
noncomputable def f49 : Fn := ⟨3, 4, [0, 1, 2], b49_0⟩
-- _law_fault(_law_size, _law_ties); slots 0:_law_size 1:_law_ties 2:_law_at 3:_law_item
noncomputable def b574_1 : CSs := .cons (.ret (.k (.str "size"))) .nil
noncomputable def b574_3 : CSs := .cons (.ret (.k (.str "ties"))) .nil
noncomputable def b574_7 : CSs := .cons (.ret (.s 2)) .nil
noncomputable def b574_9 : CSs := .cons (.ret (.s 2)) .nil
noncomputable def b574_8 : CSs := .cons (.ite (.and (.e (.cmp .Gt (.s 2) (.k (.int 0)))) (.not (.e (.cmp .Lt (.idx (.s 1) (.bin .Sub (.s 2) (.k (.int 1)))) (.s 3))))) b574_9 .nil) .nil
noncomputable def b574_6 : CSs := .cons (.ite (.or (.not (.e (.blt .isi (.cons (.s 3) (.cons (.k (.ty .tuple)) .nil))))) (.or (.e (.cmp .NotEq (.blt .len (.cons (.s 3) .nil)) (.k (.int 2)))) (.not (.e (.call 47 (.cons (.s 0) (.cons (.s 3) .nil))))))) b574_7 .nil) b574_8
noncomputable def b574_5 : CSs := .cons (.set 3 (.idx (.s 1) (.s 2))) b574_6
noncomputable def b574_10 : CSs := .cons (.ret (.k .non)) .nil
noncomputable def b574_4 : CSs := .cons (.loop (.one 2) (.rng1 (.blt .len (.cons (.s 1) .nil))) b574_5) b574_10
noncomputable def b574_2 : CSs := .cons (.ite (.not (.e (.blt .isi (.cons (.s 1) (.cons (.k (.ty .tuple)) .nil))))) b574_3 .nil) b574_4
noncomputable def b574_0 : CSs := .cons (.ite (.or (.not (.e (.call 19 (.cons (.s 0) .nil)))) (.not (.e (.chain .LtE .LtE (.k (.int 1)) (.s 0) (.k (.int 24)))))) b574_1 .nil) b574_2
noncomputable def f574 : Fn := ⟨2, 4, [0, 1], b574_0⟩
-- _law_bent(_law_tape_here, _law_size, _law_ties, _law_thing); slots 0:_law_tape_here 1:_law_size 2:_law_ties 3:_law_thing 4:_law_at 5:_law_item 6:_law_odd_here 7:_law_items 8:_law_things
noncomputable def b575_7 : CSs := .cons (.ret (.call 22 (.cons (.s 0) (.cons (.bin .Add (.s 8) (.lst (.cons (.blt .list (.cons (.s 2) .nil)) (.cons (.k .non) (.cons (.k (.str "ties")) (.cons (.dct false) (.cons (.k (.int 0)) (.cons (.call 48 .nil) (.cons (.s 3) (.cons (.tup (.cons (.s 2) .nil)) .nil)))))))))) .nil)))) .nil
noncomputable def b575_6 : CSs := .cons (.set 8 (.bin .Add (.s 8) (.lst (.cons (.bin .Add (.bin .Add (.slc (.s 2) (.k .non) (.s 4)) (.tup (.cons (.call 22 (.cons (.s 0) (.cons (.s 7) .nil))) .nil))) (.slc (.s 2) (.s 4) (.k .non))) (.cons (.bin .Add (.slc (.s 2) (.k .non) (.s 4)) (.slc (.s 2) (.bin .Add (.s 4) (.k (.int 1))) (.k .non))) .nil))))) b575_7
noncomputable def b575_5 : CSs := .cons (.set 8 (.lst (.cons (.bin .Add (.bin .Add (.slc (.s 2) (.k .non) (.s 4)) (.tup (.cons (.call 22 (.cons (.s 0) (.cons (.s 7) .nil))) .nil))) (.slc (.s 2) (.bin .Add (.s 4) (.k (.int 1))) (.k .non))) (.cons (.bin .Add (.bin .Add (.slc (.s 2) (.k .non) (.s 4)) (.tup (.cons (.s 5) .nil))) (.slc (.s 2) (.s 4) (.k .non))) (.cons (.rev (.s 2)) .nil))))) b575_6
noncomputable def b575_4 : CSs := .cons (.set 7 (.bin .Add (.s 7) (.lst (.cons (.blt .list (.cons (.s 5) .nil)) (.cons (.s 6) (.cons (.tup (.cons (.s 5) .nil)) (.cons (.tup (.cons (.idx (.s 5) (.k (.int 0))) .nil)) (.cons (.tup .nil) .nil)))))))) b575_5
noncomputable def b575_3 : CSs := .cons (.set 7 (.lst (.cons (.rev (.s 5)) (.cons (.tup (.cons (.idx (.s 5) (.k (.int 0))) (.cons (.idx (.s 5) (.k (.int 0))) .nil))) (.cons (.tup (.cons (.idx (.s 5) (.k (.int 0))) (.cons (.s 1) .nil))) (.cons (.tup (.cons (.s 6) (.cons (.idx (.s 5) (.k (.int 1))) .nil))) (.cons (.tup (.cons (.idx (.s 5) (.k (.int 0))) (.cons (.s 6) .nil))) (.cons (.bin .Add (.s 5) (.tup (.cons (.k (.int 0)) .nil))) (.cons (.slc (.s 5) (.k .non) (.k (.int 1))) .nil))))))))) b575_4
noncomputable def b575_2 : CSs := .cons (.set 6 (.call 49 (.cons (.s 0) (.cons (.s 1) (.cons (.s 3) .nil))))) b575_3
noncomputable def b575_1 : CSs := .cons (.set 5 (.ife (.e (.cmp .Lt (.s 4) (.blt .len (.cons (.s 2) .nil)))) (.idx (.s 2) (.s 4)) (.tup (.cons (.k (.int 0)) (.cons (.k (.int 1)) .nil))))) b575_2
noncomputable def b575_0 : CSs := .cons (.set 4 (.call 18 (.cons (.s 0) (.cons (.bin .Add (.blt .len (.cons (.s 2) .nil)) (.k (.int 1))) .nil)))) b575_1
noncomputable def f575 : Fn := ⟨4, 9, [0, 1, 2, 3], b575_0⟩
-- _law_told(_law_size, _law_ties); slots 0:_law_size 1:_law_ties 2:_law_found 3:_law_made 4:error
noncomputable def b576_3 : CSs := .cons (.set 2 (.tup (.cons (.k (.str "web")) (.cons (.fld (.s 3) 0) (.cons (.fld (.s 3) 4) .nil))))) .nil
noncomputable def b576_2 : CSs := .cons (.set 3 (.mk 0 (.cons (.s 0) (.cons (.s 1) .nil)))) b576_3
noncomputable def b576_4 : CSs := .cons (.set 2 (.ife (.e (.isE (some 0) (.s 4))) (.tup (.cons (.k (.str "bad")) (.cons (.eF (.s 4) 44) .nil))) (.tup (.cons (.k (.str "other")) .nil)))) .nil
noncomputable def b576_5 : CSs := .cons (.ret (.s 2)) .nil
noncomputable def b576_1 : CSs := .cons (.tryx b576_2 (.cons 1 (some 4) b576_4 .nil)) b576_5
noncomputable def b576_0 : CSs := .cons (.set 2 (.tup (.cons (.k (.str "other")) .nil))) b576_1
noncomputable def f576 : Fn := ⟨2, 5, [0, 1], b576_0⟩
-- law(_law_script); slots 0:_law_script 1:_law_tape_here 2:_law_turn 3:_law_size 4:_law_ties 5:_law_thing 6:_law_change 7:_law_later 8:_law_other 9:_law_due 10:_law_told_here
noncomputable def b577_4 : CSs := .cons (.ret (.k (.bl false))) .nil
noncomputable def b577_10 : CSs := .cons (.set 8 (.call 22 (.cons (.s 1) (.cons (.lst (.cons (.k (.int 0)) (.cons (.un .USub (.k (.int 1))) (.cons (.k (.int 25)) (.cons (.k (.int 24)) (.cons (.bin .Add (.s 3) (.k (.int 1))) (.cons (.k .non) (.cons (.k (.bl true)) (.cons (.k (.str "3")) (.cons (.k (.int 3)) (.cons (.tup (.cons (.k (.int 3)) .nil)) (.cons (.dct false) (.cons (.call 48 .nil) (.cons (.s 5) .nil)))))))))))))) .nil)))) .nil
noncomputable def b577_14 : CSs := .cons (.ret (.k (.bl false))) .nil
noncomputable def b577_16 : CSs := .cons (.ret (.k (.bl false))) .nil
noncomputable def b577_15 : CSs := .cons (.ite (.and (.e (.cmp .Is (.s 9) (.k .non))) (.e (.cmp .NotEq (.s 10) (.tup (.cons (.k (.str "web")) (.cons (.s 8) (.cons (.s 7) .nil))))))) b577_16 .nil) .nil
noncomputable def b577_13 : CSs := .cons (.ite (.and (.e (.cmp .IsNot (.s 9) (.k .non))) (.not (.e (.call 21 (.cons (.s 10) (.cons (.tup (.cons (.k (.str "bad")) (.cons (.s 9) .nil))) .nil)))))) b577_14 .nil) b577_15
noncomputable def b577_12 : CSs := .cons (.set 10 (.call 576 (.cons (.s 8) (.cons (.s 7) .nil)))) b577_13
noncomputable def b577_11 : CSs := .cons (.set 9 (.call 574 (.cons (.s 8) (.cons (.s 7) .nil)))) b577_12
noncomputable def b577_9 : CSs := .cons (.ite (.e (.cmp .Eq (.call 18 (.cons (.s 1) (.cons (.k (.int 3)) .nil))) (.k (.int 0)))) b577_10 .nil) b577_11
noncomputable def b577_8 : CSs := .cons (.set 8 (.s 3)) b577_9
noncomputable def b577_7 : CSs := .cons (.set 7 (.call 575 (.cons (.s 1) (.cons (.s 3) (.cons (.s 4) (.cons (.s 5) .nil)))))) b577_8
noncomputable def b577_6 : CSs := .cons (.loop (.one 6) (.rng1 (.k (.int 3))) b577_7) .nil
noncomputable def b577_5 : CSs := .cons (.set 5 (.mk 0 (.cons (.s 3) (.cons (.s 4) .nil)))) b577_6
noncomputable def b577_3 : CSs := .cons (.ite (.not (.e (.call 21 (.cons (.call 576 (.cons (.s 3) (.cons (.s 4) .nil))) (.cons (.tup (.cons (.k (.str "web")) (.cons (.s 3) (.cons (.s 4) .nil)))) .nil))))) b577_4 .nil) b577_5
noncomputable def b577_2 : CSs := .cons (.setT (.tup (.cons (.one 3) (.cons (.one 4) .nil))) (.call 24 (.cons (.s 1) (.cons (.ife (.e (.cmp .Eq (.call 18 (.cons (.s 1) (.cons (.k (.int 6)) .nil))) (.k (.int 0)))) (.k (.int 24)) (.k (.int 6))) .nil)))) b577_3
noncomputable def b577_17 : CSs := .cons (.ret (.k (.bl true))) .nil
noncomputable def b577_1 : CSs := .cons (.loop (.one 2) (.rng1 (.k (.int 4))) b577_2) b577_17
noncomputable def b577_0 : CSs := .cons (.set 1 (.call 17 (.cons (.s 0) .nil))) b577_1
noncomputable def f577 : Fn := ⟨1, 11, [0], b577_0⟩
noncomputable def kl0 : Cl := ⟨29, [(3, 30)], [0, 1, 2, 4], some 39⟩
noncomputable def ec0 : EC := ⟨none, [0], false⟩
noncomputable def ec1 : EC := ⟨some 44, [1, 0], true⟩
local macro_rules | `(tactic| simp? $cf:optConfig only [$xs,*]) => `(tactic| simp $cf:optConfig only [$xs,*, ↓wpS_whl, ↓wpE_lc, ↓wpE_lcp, wpSs, wpS, wpE, wpX, wpL, wpT, wpI, wo_some, wo_none, wo_ite, wo_map, wo_bind, wc_some, wo_lookF, wo_lookC, wo_getG, slot0, slotS, slR_n, slR_v, slR_l, slR_k, slR_t, slR_i, get_n, look_d, look_m, look_p, esc_d, esc_m, esc_p, give_d, give_m, give_p, isF_d, isF_m, isF_p, isF_f, setl_d, setl_m, setl_p, asB_b, asI_i, asD_d, seq_l, seq_t, seq_s, lt_l, lt_t, zip_l, zip_t, frz_v, frz_l, frz_k, frz_t, frz_i, frzF_n, frzF_c, take_n, take_d, take_p, take_f, give0, giveS, giveN, resR_v, resR_l, resR_k, resR_t, resR_i, outs_n, outs_v, outs_l, outs_k, outs_t, outs_i, setP_n, List.set_cons_zero, List.set_cons_succ, List.contains_cons, List.contains_nil, Bool.or_false, Bool.false_or, Bool.true_or, Bool.or_true, Bool.not_true, Bool.not_false, Bool.and_true, Bool.true_and, Bool.false_and, Bool.and_false, implies_true, false_implies, true_implies, if_true, if_false, true_and, and_true, Bool.false_eq_true, reduceCtorEq, Option.map_some, Option.map_none, Option.bind_some, Option.bind_none, viewM, Nat.zero_add, Nat.reduceAdd, Nat.reduceBEq, beq_self_eq_true, List.map_cons, List.map_nil, List.replicate, List.cons_append, List.nil_append, Nat.reduceSub, Nat.sub_self, List.mapM_cons, List.mapM_nil, Option.pure_def, Option.bind_eq_bind, and_self, not_true_eq_false, not_false_eq_true, decide_eq_true_eq, oeqW_s, oeqW_n, eq_defN, eqPl_f, eqPl_t, wpM_n, wpM_c, sm_n, sm_c, anio_n, anio_c, lsd_l, isdk_k, ex_dKd, asM_m, lkz_d, lkz_p, scl_n, scl_b, scl_i, scl_s, rev_l, rev_t, slt_l, slt_t, setR_t, setR_f, getD', asMB_b, eq_def, eqD_b, eqD_i, cmp_isb, cmp_isnb, isi_ins_ty, isi_ins_cl, isi_ins_lt, isi_non_cl, isi_bl_cl, isi_int_cl, isi_str_cl, isi_tup_cl, isi_lst_cl, isi_dK_cl, isi_dK_none, isi_dK_bool, isi_dK_int, isi_dK_str, isi_dK_list, isi_dK_tuple, isi_dK_dict, isi_dK_lt, isi_dT_none, isi_dT_bool, isi_dT_int, isi_dT_str, isi_dT_list, isi_dT_tuple, isi_dT_dict, isi_dT_lt, Option.isSome_none, Option.isSome_some, ex_ins, ex_int, ex_lst, ex_lst0, ex_two, ex_new, ex_cons, ex_dT, ex_mdT, Nat.reduceLT, lookC, lookF, fld_d, fld_p, recv_p, recv_d, recv_m, getP, setP, getA, putA, List.lookup, Option.isNone_none, Option.isNone_some, Nat.reduceEqDiff, cmp_let, hide0, hideS, back0, backS, List.getElem?_cons_zero, List.getElem?_cons_succ, Option.getD_some, Option.getD_none, bt_one, bt_tup, bts_n, bts_c, tl_n, tl_c, List.length_cons, List.length_nil, bin_add, bin_sub, wo_mul, wo_div, wo_mod, wo_pow, wo_shl, wo_shr, bin_and, bin_or, bin_xor, wo_adl, wo_adt, wo_mll, un_neg, un_inv, cmp_lt, cmp_le, cmp_gt, cmp_ge, cmp_eq, cmp_ne, cmp_eqb, cmp_neb, cmp_is, cmp_isn, cmp_inl, cmp_int, cmp_ninl, cmp_nint, isN_non, isi_non_none, isi_non_bool, isi_non_int, isi_non_str, isi_non_list, isi_non_tuple, isi_non_dict, isi_non_lt, isN_bl, isi_bl_none, isi_bl_bool, isi_bl_int, isi_bl_str, isi_bl_list, isi_bl_tuple, isi_bl_dict, isi_bl_lt, isN_int, isi_int_none, isi_int_bool, isi_int_int, isi_int_str, isi_int_list, isi_int_tuple, isi_int_dict, isi_int_lt, isN_str, isi_str_none, isi_str_bool, isi_str_int, isi_str_str, isi_str_list, isi_str_tuple, isi_str_dict, isi_str_lt, isN_tup, isi_tup_none, isi_tup_bool, isi_tup_int, isi_tup_str, isi_tup_list, isi_tup_tuple, isi_tup_dict, isi_tup_lt, isN_lst, isi_lst_none, isi_lst_bool, isi_lst_int, isi_lst_str, isi_lst_list, isi_lst_tuple, isi_lst_dict, isi_lst_lt, b_isi, b_lenl, b_lent, b_lens, b_int, b_intb, b_min, b_max, b_abs, b_tupl, b_tupt, b_lstl, b_lstt, b_lsts, b_lstdK, b_lstdT, cmp_indT, cmp_nindT, cmp_indK, cmp_nindK, keyD_i, dct_t, dct_f, b_srt, b_srtt, b_all, b_any, b_sum, wo_app, bm_pop, wo_ext, aug_add, aug_sub, ix_lst0, ix_tup0, set_0, ix_lst1, ix_tup1, set_1, ix_lst2, ix_tup2, set_2, ix_lst3, ix_tup3, set_3, ix_lst4, ix_tup4, set_4, ix_lst5, ix_tup5, set_5, b_repr, asX_x, slR_x, isX_n, isX_s, cur_x, bindX_s, bindX_n, clrS_s, clrS_n, wo_lookX, wr_some, wrE_call, wrE_mk, wrE_frz, wrE_ife, wrE_tup, wrS_set, wrS_setT, wrS_ex, wrS_ret, wrS_rse, wrS_ite, eq_def_t, eq_def_l, eq_def_i, eq_def_s, eq_def_b, eq_def_n])

-- shared plain laws
theorem ix_i {xs : List Int} {k : Int} (h0 : 0 ≤ k) (h1 : k < xs.length) : idxD (.lst (xs.map .int)) (.int k) = some (.int (xs.getD k.toNat 0)) := by
  obtain ⟨n, rfl⟩ := Int.eq_ofNat_of_zero_le h0
  have hn : n < xs.length := by omega
  exact L2.atI_nat (by rw [List.getElem?_map]; simp [List.getD, List.getElem?_eq_getElem hn])
theorem List.reverseRecOn' {α : Type} {P : List α → Prop} (h0 : P []) (h1 : ∀ (xs : List α) (x : α), P xs → P (xs ++ [x])) (xs : List α) : P xs := by
  have H : ∀ ys : List α, P ys.reverse := by
    intro ys
    induction ys with
    | nil => exact h0
    | cons y ys ih => rw [List.reverse_cons]; exact h1 _ _ ih
  have := H xs.reverse
  rwa [List.reverse_reverse] at this

/-- a law's tape: the script's cells, where it stands, what is left of a great cell, the mixed state, the count -/
noncomputable def Tape (m : M) : Prop := ∃ (cs : List Int) (a r x s : Int), m = .lst [.lst (cs.map .int), .int a, .int r, .int x, .int s] ∧ 0 ≤ a ∧ 0 ≤ x
section
variable {G : GS} [HasF G 17 f17] [HasF G 18 f18]
theorem tape_ok {n : Nat} {ns : List Int} : WC (callN G (n + 1) 17 [.v (.scr ns)]) fun m os => Tape m ∧ os = [.v (.scr ns)] := by
  refine call_wp ⟨rfl, by decide⟩ ?_
  simp? only [f17, b17_0, List.length_cons, List.length_nil]
  exact ⟨by decide, ns, 0, 0, 1, 0, rfl, by decide, by decide⟩
theorem pick_ok {n : Nat} {t : M} {k : Int} (ht : Tape t) (hk : 0 < k) (hk2 : k < 1073741824) : WC (callN G (n + 1) 18 [t, .v (.int k)]) fun m os => ∃ i t', m = .v (.int i) ∧ os = [t', .v (.int k)] ∧ 0 ≤ i ∧ i < k ∧ Tape t' := by
  obtain ⟨cs, a, r, x, s, rfl, ha, hx⟩ := ht
  refine call_wp ⟨rfl, by decide⟩ ?_
  simp? only [f18, b18_0]
  have tm : ∀ {a r x s : Int}, 0 ≤ a → 0 ≤ x → Tape (.lst [.lst (cs.map .int), .int a, .int r, .int x, .int s]) := fun h1 h2 => ⟨cs, _, _, _, _, rfl, h1, h2⟩
  have dm : ∀ z : Int, 0 ≤ z % k ∧ z % k < k := fun z => ⟨Int.emod_nonneg _ (by omega), Int.emod_lt_of_pos _ hk⟩
  split
  · simp? only [b18_1, b18_2, b18_3, hk, hk2]
    exact ⟨_, _, rfl, rfl, (dm _).1, (dm _).2, tm ha hx⟩
  · simp? only [b18_4]
    simp? only [b18_5]
    simp? only [b18_6, List.length_map]
    have fin : ∀ (c a' : Int), 0 ≤ a' → ∀ w : Wh, (∀ i a r x s, 0 ≤ i → i < k → 0 ≤ a → 0 ≤ x → ∀ l1 l2, w.rt (.v (.int i)) [some (.lst [.lst (cs.map .int), .int a, .int r, .int x, .int s]), some (.v (.int k)), none, l1, l2]) →
        wpSs G (callN G n) [0, 1] b18_9 [some (.lst [.lst (cs.map .int), .int a', .int r, .int x, .int (s + 1)]), some (.v (.int k)), none, some (.v (.int c)), none] w := by
      intro c a' ha' w hw
      simp? only [b18_9]
      refine ⟨by decide, ?_⟩
      split
      · simp? only [b18_10, b18_11, hk, hk2]
        exact hw _ _ _ _ _ (dm _).1 (dm _).2 ha' hx _ _
      · simp? only [b18_12]
        refine ⟨.inr (by decide), by decide, .inr (by decide), by decide, ?_⟩
        generalize he : (x * 48271 + c % 2147483629 + (s + 1) * 69621) % 2147483647 = e
        have e0 : 0 ≤ e := by omega
        have e1 : e < 2147483647 := by omega
        simp? only [b18_13]
        refine ⟨by decide, .inl (by omega), by decide, ?_⟩
        simp? only [b18_14, b18_15, hk]
        refine ⟨by decide, ?_⟩
        exact hw _ _ _ _ _ (dm _).1 (dm _).2 ha' (Int.emod_nonneg _ (by decide)) _ _
    split
    · rename_i hl
      simp? only [b18_7]
      simp? only [ix_i ha hl]
      simp? only [b18_8]
      exact fin _ _ (by omega) _ fun i a r x s h1 h2 h3 h4 l1 l2 => by
        simp? only [wo_some]
        exact ⟨_, _, rfl, rfl, h1, h2, tm h3 h4⟩
    · exact fin _ _ ha _ fun i a r x s h1 h2 h3 h4 l1 l2 => by
        simp? only [wo_some]
        exact ⟨_, _, rfl, rfl, h1, h2, tm h3 h4⟩
end

/-! bits of whole numbers -/
/-- a without the bits of b -/
noncomputable def andN (a b : Nat) : Nat := a ^^^ (a &&& b)
theorem andN_bit (a b i : Nat) : (andN a b).testBit i = (a.testBit i && !b.testBit i) := by
  unfold andN
  rw [Nat.testBit_xor, Nat.testBit_and]
  cases a.testBit i <;> cases b.testBit i <;> rfl
theorem b_or (a b : Nat) : Builtin.bitOr (a : Int) (b : Int) = ((a ||| b : Nat) : Int) := by
  rw [L2.bitOr_nn (Int.natCast_nonneg _) (Int.natCast_nonneg _)]; rfl
/-- the bits of m, the least first -/
noncomputable def lotOf (m : Nat) : List Nat := (List.range m).filter m.testBit
theorem bit_lt {m i : Nat} (h : m.testBit i = true) : i < m := Nat.lt_of_lt_of_le Nat.lt_two_pow_self (Nat.ge_two_pow_of_testBit h)
theorem mem_lotOf {m i : Nat} : i ∈ lotOf m ↔ m.testBit i = true := by
  unfold lotOf
  rw [List.mem_filter, List.mem_range]
  exact ⟨fun h => h.2, fun h => ⟨bit_lt h, h⟩⟩
theorem lotOf_up (m : Nat) : (lotOf m).Pairwise (· < ·) := List.Pairwise.filter _ List.pairwise_lt_range
theorem up_ext {xs ys : List Nat} (hx : xs.Pairwise (· < ·)) (hy : ys.Pairwise (· < ·)) (h : ∀ i, i ∈ xs ↔ i ∈ ys) : xs = ys := by
  induction xs generalizing ys with
  | nil =>
    cases ys with
    | nil => rfl
    | cons y ys => exact absurd ((h y).mpr (by simp)) (by simp)
  | cons x xs ih =>
    cases ys with
    | nil => exact absurd ((h x).mp (by simp)) (by simp)
    | cons y ys =>
      have hx1 := List.pairwise_cons.mp hx
      have hy1 := List.pairwise_cons.mp hy
      have exy : x = y := by
        have a := (h x).mp (by simp)
        have b := (h y).mpr (by simp)
        rcases List.mem_cons.mp a with e | a
        · exact e
        rcases List.mem_cons.mp b with e | b
        · exact e.symm
        have := hy1.1 x a
        have := hx1.1 y b
        omega
      subst exy
      rw [ih hx1.2 hy1.2 fun i => ?_]
      have hi := h i
      simp only [List.mem_cons] at hi
      constructor
      · intro q
        rcases hi.mp (.inr q) with e | e
        · subst e; exact absurd (hx1.1 _ q) (by omega)
        · exact e
      · intro q
        rcases hi.mpr (.inr q) with e | e
        · subst e; exact absurd (hy1.1 _ q) (by omega)
        · exact e
/-- the number of a lot -/
noncomputable def bm (ns : List Nat) : Nat := ns.foldl (fun b i => b ||| 2 ^ i) 0
theorem bm_go (ns : List Nat) (b i : Nat) : (ns.foldl (fun b i => b ||| 2 ^ i) b).testBit i = (b.testBit i || decide (i ∈ ns)) := by
  induction ns generalizing b with
  | nil => simp
  | cons n ns ih =>
    rw [List.foldl_cons, ih, Nat.testBit_or, Nat.testBit_two_pow, Bool.or_assoc]
    congr 1
    rw [← Bool.decide_or]
    exact decide_eq_decide.mpr (by rw [List.mem_cons]; exact ⟨fun h => h.imp Eq.symm _root_.id, fun h => h.imp Eq.symm _root_.id⟩)
theorem bm_bit (ns : List Nat) (i : Nat) : (bm ns).testBit i = decide (i ∈ ns) := by
  unfold bm; rw [bm_go]; simp
/-- a number that is a whole one -/
noncomputable abbrev I (n : Nat) : D := .int (n : Int)
/-- a tuple of whole numbers -/
noncomputable abbrev L (ns : List Nat) : D := .tup (ns.map I)
section
variable {G : GS} [HasF G 0 f0] [HasF G 1 f1] [HasF G 2 f2] [HasF G 7 f7]
theorem c_int {n : Nat} {i : Int} : callN G (n + 1) 0 [.v (.int i)] = some (.v (.bl true), [.v (.int i)]) := by
  refine wc_eq (call_wp ⟨rfl, by decide⟩ ?_)
  simp? only [f0, b0_0]
theorem c_btw {n : Nat} {t l m : Int} : callN G (n + 2) 1 [.v (.int t), .v (.int l), .v (.int m)] = some (.v (.bl (decide (l ≤ t) && decide (t ≤ m))), [.v (.int t), .v (.int l), .v (.int m)]) := by
  refine wc_eq (call_wp ⟨rfl, by decide⟩ ?_)
  simp? only [f1, b1_0, c_int]
  split
  · rename_i h; simp? only [h, decide_true]
  · rename_i h; simp? only [h, decide_false]
theorem c_pair {n : Nat} {a b : D} : callN G (n + 1) 2 [.v (.tup [a, b])] = some (.v (.bl true), [.v (.tup [a, b])]) := by
  refine wc_eq (call_wp ⟨rfl, by decide⟩ ?_)
  simp? only [f2, b2_0]
  rfl
theorem c_tie {n a b m : Nat} (h1 : a < b) (h2 : b < m) : callN G (n + 3) 7 [.v (.tup [I a, I b]), .v (I m)] = some (.v (.bl true), [.v (.tup [I a, I b]), .v (I m)]) := by
  refine wc_eq (call_wp ⟨rfl, by decide⟩ ?_)
  have e1 : (0 : Int) ≤ (a : Int) := by omega
  have e2 : (a : Int) ≤ (m : Int) - 1 := by omega
  have e3 : (a : Int) + 1 ≤ (b : Int) := by omega
  have e4 : (b : Int) ≤ (m : Int) - 1 := by omega
  simp? only [f7, b7_0, c_pair, c_btw, e1, e2, e3, e4, decide_true]
end

/-! webs -/
noncomputable abbrev P2 (p : Nat × Nat) : D := .tup [I p.1, I p.2]
noncomputable abbrev TS (ts : List (Nat × Nat)) : D := .tup (ts.map P2)
noncomputable def TLt (p q : Nat × Nat) : Prop := p.1 < q.1 ∨ (p.1 = q.1 ∧ p.2 < q.2)
/-- ties as a web takes them -/
structure Ties (n : Nat) (ts : List (Nat × Nat)) : Prop where
  up : ts.Pairwise TLt
  lt : ∀ p ∈ ts, p.1 < p.2 ∧ p.2 < n
noncomputable def nearF (ts : List (Nat × Nat)) (i : Nat) : Nat := ts.foldl (fun b p => if p.1 = i then b ||| 2 ^ p.2 else if p.2 = i then b ||| 2 ^ p.1 else b) 0
theorem nearF_snoc (ts : List (Nat × Nat)) (p : Nat × Nat) (i : Nat) : nearF (ts ++ [p]) i = if p.1 = i then nearF ts i ||| 2 ^ p.2 else if p.2 = i then nearF ts i ||| 2 ^ p.1 else nearF ts i := by
  unfold nearF; rw [List.foldl_append]; rfl
/-- i and j are tied -/
noncomputable def Tied (ts : List (Nat × Nat)) (i j : Nat) : Prop := (i, j) ∈ ts ∨ (j, i) ∈ ts
noncomputable instance (ts : List (Nat × Nat)) (i j : Nat) : Decidable (Tied ts i j) := inferInstanceAs (Decidable (_ ∨ _))
theorem Tied.symm {ts : List (Nat × Nat)} {i j : Nat} (h : Tied ts i j) : Tied ts j i := Or.symm h
theorem nearF_bit (ts : List (Nat × Nat)) (h : ∀ p ∈ ts, p.1 < p.2) (i j : Nat) : (nearF ts i).testBit j = true ↔ Tied ts i j := by
  induction ts using List.reverseRecOn' with
  | h0 => simp [nearF, Tied]
  | h1 ts p ih =>
    have ih := ih fun q hq => h q (by simp [hq])
    have hp := h p (by simp)
    have e : Tied (ts ++ [p]) i j ↔ Tied ts i j ∨ (p.1 = i ∧ p.2 = j) ∨ (p.1 = j ∧ p.2 = i) := by
      unfold Tied
      simp only [List.mem_append, List.mem_singleton, Prod.ext_iff]
      constructor
      · rintro ((h | h) | (h | h))
        · exact .inl (.inl h)
        · exact .inr (.inl ⟨h.1.symm, h.2.symm⟩)
        · exact .inl (.inr h)
        · exact .inr (.inr ⟨h.1.symm, h.2.symm⟩)
      · rintro ((h | h) | h | h)
        · exact .inl (.inl h)
        · exact .inr (.inl h)
        · exact .inl (.inr ⟨h.1.symm, h.2.symm⟩)
        · exact .inr (.inr ⟨h.1.symm, h.2.symm⟩)
    rw [e, nearF_snoc]
    split
    · rename_i e1
      rw [Nat.testBit_or, Nat.testBit_two_pow, Bool.or_eq_true, ih, decide_eq_true_eq]
      constructor
      · rintro (h | h)
        · exact .inl h
        · exact .inr (.inl ⟨e1, h⟩)
      · rintro (h | h | h)
        · exact .inl h
        · exact .inr h.2
        · omega
    · rename_i e1
      split
      · rename_i e2
        rw [Nat.testBit_or, Nat.testBit_two_pow, Bool.or_eq_true, ih, decide_eq_true_eq]
        constructor
        · rintro (h | h)
          · exact .inl h
          · exact .inr (.inr ⟨h, e2⟩)
        · rintro (h | h | h)
          · exact .inl h
          · omega
          · exact .inr h.1
      · rename_i e2
        rw [ih]
        constructor
        · exact .inl
        · rintro (h | h | h)
          · exact h
          · omega
          · omega
noncomputable def nearL (n : Nat) (ts : List (Nat × Nat)) : List D := (List.range n).map fun i => I (nearF ts i)
/-- a web, held by its own -/
noncomputable abbrev webM (n : Nat) (ts : List (Nat × Nat)) : M := .ins 0 [(0, .v (I n)), (4, .v (TS ts)), (2, .v (I (2 ^ n - 1))), (1, .lst (nearL n ts))]
theorem nearL_len {n : Nat} {ts : List (Nat × Nat)} : (nearL n ts).length = n := by unfold nearL; simp
theorem ix_near {n : Nat} {ts : List (Nat × Nat)} {p : Nat} (h : p < n) : idxD (.lst (nearL n ts)) (I p) = some (I (nearF ts p)) := by
  refine L2.atI_nat ?_
  unfold nearL
  simp [List.getElem?_map, List.getElem?_range h]
theorem near_step {n : Nat} {ts : List (Nat × Nat)} {p : Nat × Nat} (h : p.1 < p.2) (h2 : p.2 < n) : ((nearL n ts).set p.1 (I (nearF ts p.1 ||| 2 ^ p.2))).set p.2 (I (nearF ts p.2 ||| 2 ^ p.1)) = nearL n (ts ++ [p]) := by
  apply List.ext_getElem?
  intro k
  unfold nearL
  simp only [List.getElem?_set, List.getElem?_map, List.length_set, List.length_map, List.length_range]
  by_cases hk : k < n
  · rw [List.getElem?_range hk]
    simp only [Option.map_some, nearF_snoc]
    by_cases h1 : p.2 = k
    · subst h1
      rw [if_pos rfl, if_pos h2, if_neg (by omega), if_pos rfl]
    · rw [if_neg h1]
      by_cases h3 : p.1 = k
      · subst h3
        rw [if_pos rfl, if_pos hk, if_pos rfl]
      · rw [if_neg h3, if_neg h3, if_neg h1]
  · rw [List.getElem?_eq_none (by simp; omega), if_neg (by omega), if_neg (by omega)]
    simp
theorem set_near {n : Nat} {xs : List D} {p : Nat} {d : D} (hl : xs.length = n) (h : p < n) : setIx (.lst xs) (I p) d = some (.lst (xs.set p d)) := by
  simp only [setIx]
  rw [ixN_here (by omega)]
theorem rep0 {m : Nat} : (List.replicate ((m : Int)).toNat [D.int 0]).flatten = nearL m [] := by
  rw [Int.toNat_natCast]
  unfold nearL
  induction m with
  | zero => rfl
  | succ m ih =>
    rw [List.replicate_succ', List.flatten_append, ih, List.range_succ, List.map_append]
    rfl
theorem b_or2 (a x : Nat) : D.int (Builtin.bitOr (a : Int) (1 * 2 ^ ((x : Int)).toNat)) = I (a ||| 2 ^ x) := by
  have : (1 * 2 ^ ((x : Int)).toNat : Int) = ((2 ^ x : Nat) : Int) := by rw [Int.toNat_natCast, Int.one_mul]; norm_cast
  rw [this, b_or]
theorem ix_set {xs : List D} {i j : Nat} {d : D} (h : i ≠ j) (hj : j < n) : idxD (.lst (xs.set i d)) (I j) = idxD (.lst xs) (I j) := by
  show L2.atI (xs.set i d) j = L2.atI xs j
  unfold L2.atI
  rw [List.length_set]
  cases e : L2.ixN xs.length j with
  | none => rfl
  | some q =>
    have : q = j := by
      unfold L2.ixN at e
      rw [if_pos (by omega)] at e
      split at e
      · cases e; rfl
      · cases e
    subst this
    simp only [Option.bind_some]
    rw [List.getElem?_set, if_neg h]
/-- what a lot silences -/
noncomputable def silF (ts : List (Nat × Nat)) (ns : List Nat) : Nat := ns.foldl (fun a p => a ||| nearF ts p) 0
theorem silF_snoc (ts : List (Nat × Nat)) (ns : List Nat) (p : Nat) : silF ts (ns ++ [p]) = silF ts ns ||| nearF ts p := by unfold silF; rw [List.foldl_append]; rfl
theorem silF_bit (ts : List (Nat × Nat)) (h : ∀ p ∈ ts, p.1 < p.2) (ns : List Nat) (j : Nat) : (silF ts ns).testBit j = true ↔ ∃ p ∈ ns, Tied ts p j := by
  induction ns using List.reverseRecOn' with
  | h0 => simp [silF]
  | h1 ns p ih =>
    rw [silF_snoc, Nat.testBit_or, Bool.or_eq_true, ih, nearF_bit ts h]
    constructor
    · rintro (⟨q, hq, h⟩ | h)
      · exact ⟨q, by simp [hq], h⟩
      · exact ⟨p, by simp, h⟩
    · rintro ⟨q, hq, h⟩
      rcases List.mem_append.mp hq with hq | hq
      · exact .inl ⟨q, hq, h⟩
      · rw [List.mem_singleton.mp hq] at h; exact .inr h
/-- the stand behind a call of p -/
noncomputable def afterF (ts : List (Nat × Nat)) (b p : Nat) : Nat := if nearF ts p &&& b = 0 then b ||| 2 ^ p else andN b (2 ^ p)
/-- a web that is held for good -/
noncomputable abbrev webD (n : Nat) (ts : List (Nat × Nat)) : D := .ins 0 [(0, I n), (4, TS ts), (2, I (2 ^ n - 1)), (1, .lst (nearL n ts))]
noncomputable def IsWeb (w : M) (m : Nat) (ts : List (Nat × Nat)) : Prop := w = webM m ts ∨ w = .v (webD m ts)

section
variable {G : GS} [HasF G 0 f0] [HasF G 1 f1] [HasF G 2 f2] [HasF G 7 f7] [HasF G 29 f29] [HasF G 30 f30] [HasC G 0 kl0] [HasG G 0 (.int 24)]
theorem c_begin {n m : Nat} {ts : List (Nat × Nat)} (h : Ties m ts) (hm : m ≤ 1000) : callN G (n + 1) 30 [.ins 0 [], .v (I m), .v (TS ts)] = some (.v .non, [webM m ts, .v (I m), .v (TS ts)]) := by
  refine wc_eq (call_wp ⟨rfl, by decide⟩ ?_)
  have z : (2 : Int) ^ ((m : Int)).toNat = ((2 ^ m : Nat) : Int) := by rw [Int.toNat_natCast]; norm_cast
  simp? -implicitDefEqProofs only [f30, b30_0, kl0]
  simp? -implicitDefEqProofs only [b30_1, kl0]
  simp? -implicitDefEqProofs only [b30_2, kl0]
  refine ⟨⟨by omega, by omega, by decide⟩, ?_⟩
  simp? -implicitDefEqProofs only [b30_3, kl0]
  refine ⟨by decide, ⟨by omega, by omega, ?_⟩, ?_⟩
  · rw [Int.toNat_natCast]; show 1 * m ≤ 16777216; omega
  simp? -implicitDefEqProofs only [b30_4]
  rw [z, rep0]
  refine for_map (fun ds rs τ => ∃ l3 l4, τ = [some (.ins 0 [(0, .v (I m)), (4, .v (TS ts)), (2, .v (I (2 ^ m - 1))), (1, .lst (nearL m ds))]), some (.v (I m)), some (.v (TS ts)), l3, l4]) ⟨none, none, ?_⟩ ?_ ?_
  · have : (1 * ((2 ^ m : Nat) : Int) - 1) = ((2 ^ m - 1 : Nat) : Int) := by have := Nat.two_pow_pos m; omega
    rw [this]
  · rintro ds x rs τ e ⟨l3, l4, rfl⟩
    have hx := h.lt x (by rw [e]; simp)
    have h1 : x.1 < m := by omega
    simp? -implicitDefEqProofs only [wo_some]
    simp? -implicitDefEqProofs only [b30_5, ix_near h1, set_near nearL_len h1]
    refine ⟨⟨by omega, by omega, by decide⟩, ?_⟩
    have hl2 : ((nearL m ds).set x.1 (I (nearF ds x.1 ||| 2 ^ x.2))).length = m := by rw [List.length_set, nearL_len]
    rw [b_or2]
    simp? -implicitDefEqProofs only [b30_6, ix_set (show x.1 ≠ x.2 by omega) hx.2, ix_near hx.2, set_near hl2 hx.2]
    refine ⟨⟨by omega, by omega, by decide⟩, some (.v (I x.1)), some (.v (I x.2)), ?_⟩
    rw [b_or2, near_step hx.1 hx.2]
  · rintro τ ⟨l3, l4, rfl⟩
    simp? -implicitDefEqProofs only [wo_some]
theorem c_web {n m : Nat} {ts : List (Nat × Nat)} (h : Ties m ts) (h1 : 1 ≤ m) (hm : m ≤ 24) : callN G (n + 4) 29 [.ins 0 [], .v (I m), .v (TS ts)] = some (.v .non, [webM m ts, .v (I m), .v (TS ts)]) := by
  refine wc_eq (call_wp ⟨rfl, by decide⟩ ?_)
  have e1 : (1 : Int) ≤ (m : Int) := by omega
  have e2 : (m : Int) ≤ 24 := by omega
  simp? -implicitDefEqProofs only [f29, b29_0, c_btw, e1, e2, decide_true]
  simp? -implicitDefEqProofs only [b29_2]
  simp? -implicitDefEqProofs only [b29_4]
  refine for_nat (fun k τ => ∃ l3 l4, τ = [some (.ins 0 []), some (.v (I m)), some (.v (TS ts)), l3, l4]) ⟨none, none, rfl⟩ ?_ ?_
  · rintro k x τ e ⟨l3, l4, rfl⟩
    rw [enum_get, List.getElem?_map] at e
    cases ek : ts[k]? with
    | none => rw [ek] at e; cases e
    | some p =>
      rw [ek] at e
      cases e
      have hp := h.lt p (List.mem_of_getElem? ek)
      simp? -implicitDefEqProofs only [wo_some]
      simp? -implicitDefEqProofs only [b29_5, c_tie hp.1 hp.2, Nat.zero_add]
      split
      · rename_i hk
        obtain ⟨j, rfl⟩ : ∃ j, k = j + 1 := ⟨k - 1, by omega⟩
        have hj : j + 1 < ts.length := (List.getElem?_eq_some_iff.mp ek).1
        have ej : ts[j]? = some ts[j] := List.getElem?_eq_getElem (by omega)
        have ei : idxD (TS ts) (.int (((j + 1 : Nat) : Int) - 1)) = some (P2 ts[j]) := by
          rw [show (((j + 1 : Nat) : Int) - 1) = (j : Int) by omega]
          exact L2.atI_nat (by rw [List.getElem?_map, ej]; rfl)
        simp? -implicitDefEqProofs only [ei]
        have lt : TLt ts[j] p := by
          have := List.pairwise_iff_getElem.mp h.up j (j + 1) (by omega) hj (by omega)
          rwa [(List.getElem?_eq_some_iff.mp ek).2] at this
        rw [if_neg]
        · exact ⟨_, _, rfl⟩
        · rcases lt with q | q <;> omega
      · exact ⟨_, _, rfl⟩
  · rintro τ ⟨l3, l4, rfl⟩
    simp? -implicitDefEqProofs only [b29_7, kl0, f30, c_begin h (show m ≤ 1000 by omega)]
end
section
variable {G : GS} [HasF G 0 f0] [HasF G 1 f1] [HasF G 2 f2] [HasF G 7 f7] [HasF G 29 f29] [HasF G 30 f30] [HasC G 0 kl0] [HasG G 0 (.int 24)]
variable {n m p : Nat} {ns : List Nat} {ts : List (Nat × Nat)}
end

/-! equality, membership, sorting of whole numbers and pairs of them -/
theorem toPys_map {α : Type} {f : α → D} {g : α → PyData} (h : ∀ a, toPy (f a) = some (g a)) (xs : List α) : toPys (xs.map f) = some (xs.map g) := by
  induction xs with
  | nil => simp [toPys]
  | cons x xs ih => simp [toPys, h, ih]
theorem toPy_I (n : Nat) : toPy (I n) = some (.int (n : Int)) := by simp only [toPy]
theorem toPy_P (p : Nat × Nat) : toPy (P2 p) = some (.tuple [.int (p.1 : Int), .int (p.2 : Int)]) := by simp only [toPy, toPys, Option.map_some]
theorem lay_map {α : Type} {g : α → PyData} (h : ∀ a, (g a).canLay0 = true) (xs : List α) : PyData.canLayAll0 (xs.map g) = true := by
  induction xs with
  | nil => simp [PyData.canLayAll0]
  | cons x xs ih => simp [PyData.canLayAll0, h, ih]
theorem depth_map {α : Type} {g : α → PyData} {n : Nat} (h : ∀ a, (g a).depth ≤ n) (xs : List α) : PyData.depthAll (xs.map g) ≤ n := by
  induction xs with
  | nil => simp [PyData.depthAll]
  | cons x xs ih =>
    simp only [List.map_cons, PyData.depthAll]
    have := h x
    omega
theorem shp_tup {xs : List PyData} (h1 : PyData.canLayAll0 xs = true) (h2 : PyData.depthAll xs ≤ 60) : SeqAt.shaped (.tuple xs) = true := by
  have : PyData.depthAll xs + 1 ≤ 64 := by omega
  simp only [SeqAt.shaped, PyData.canLay0, PyData.depth, h1, Bool.true_and, decide_eq_true_eq]; exact decide_eq_true this
noncomputable abbrev gI (n : Nat) : PyData := .int (n : Int)
noncomputable abbrev gP (p : Nat × Nat) : PyData := .tuple [.int (p.1 : Int), .int (p.2 : Int)]
theorem dP (p : Nat × Nat) : (gP p).depth ≤ 8 := by simp [PyData.depth, PyData.depthAll]
theorem lI (n : Nat) : (gI n).canLay0 = true := by simp only [PyData.canLay0]
theorem lP (p : Nat × Nat) : (gP p).canLay0 = true := by simp only [PyData.canLay0, PyData.canLayAll0, Bool.and_true]
theorem lexI_P (p q : Nat × Nat) : lexI (P2 p) (P2 q) = decide (p.1 < q.1 ∨ (p.1 = q.1 ∧ p.2 ≤ q.2)) := by
  simp only [lexI, W.dataLe, W.sortLe, toPy_P, Option.getD_some, W.keyToks, W.keyToksAll, cond_false, PyProof.Rows.lexLt, PyProof.Rows.itemLt, List.cons_append, List.nil_append]
  by_cases h1 : p.1 < q.1
  · simp [h1]; try omega
  · by_cases h2 : p.1 = q.1
    · by_cases h3 : p.2 ≤ q.2
      · simp [h2, h3]; try omega
      · simp [h2, h3]; try omega
    · have : q.1 < p.1 := by omega
      simp [h1, h2, this]
theorem sort_map {α : Type} {f : α → D} {g : α → PyData} {le : α → α → Bool} (ht : ∀ a, toPy (f a) = some (g a)) (hl : ∀ a b, lexI (f a) (f b) = le a b) (ha : ∀ a b, W.alike (g a) (g b) = true) (hh : (∀ a, headed (g a) = true) ∨ (∀ a, notTup (g a) = true)) (hd : ∀ a, (g a).depth ≤ 8) {xs : List α} (hs : xs.length ≤ SL) :
    sortD (xs.map f) = some ((xs.mergeSort le).map f) := by
  have e : (xs.map f).mergeSort lexI = (xs.mergeSort le).map f := (List.map_mergeSort fun a _ b _ => (hl a b).symm).symm
  simp only [sortD, toPys_map ht]
  have c1 : ((xs.map g).all fun p => (xs.map g).all fun q => W.alike p q) = true := by
    simp only [List.all_map, List.all_eq_true, Function.comp]; intro a _ b _; exact ha a b
  have c2 : (xs.map g).all headed = true ∨ (xs.map g).all notTup = true := by
    rcases hh with hh | hh
    · left; simp only [List.all_map, List.all_eq_true, Function.comp]; intro a _; exact hh a
    · right; simp only [List.all_map, List.all_eq_true, Function.comp]; intro a _; exact hh a
  have c3 : ((xs.map g).all fun p => decide (p.depth ≤ 8)) = true := by
    simp only [List.all_map, List.all_eq_true, Function.comp, decide_eq_true_eq]; intro a _; exact hd a
  rw [if_pos ⟨by rw [List.length_map]; exact hs, c1, c2, c3⟩, e]
theorem sort_P {ts : List (Nat × Nat)} (hs : ts.length ≤ SL) : sortD (ts.map P2) = some ((ts.mergeSort fun p q => decide (p.1 < q.1 ∨ (p.1 = q.1 ∧ p.2 ≤ q.2))).map P2) :=
  sort_map toPy_P lexI_P (fun _ _ => rfl) (.inl fun _ => rfl) dP hs
theorem sorted_I (ns : List Nat) : (ns.mergeSort fun a b => decide (a ≤ b)).Pairwise (· ≤ ·) := by
  have := List.pairwise_mergeSort (le := fun a b : Nat => decide (a ≤ b)) (fun a b c h1 h2 => by simp at *; omega) (fun a b => by simp; omega) ns
  exact this.imp fun h => by simpa using h
theorem sorted_P (ts : List (Nat × Nat)) (nd : ts.Nodup) : (ts.mergeSort fun p q => decide (p.1 < q.1 ∨ (p.1 = q.1 ∧ p.2 ≤ q.2))).Pairwise TLt := by
  have h := List.pairwise_mergeSort (le := fun p q : Nat × Nat => decide (p.1 < q.1 ∨ (p.1 = q.1 ∧ p.2 ≤ q.2))) (fun a b c h1 h2 => by simp at *; omega) (fun a b => by simp; omega) ts
  have nd' : (ts.mergeSort fun p q => decide (p.1 < q.1 ∨ (p.1 = q.1 ∧ p.2 ≤ q.2))).Nodup := (List.mergeSort_perm _ _).nodup_iff.mpr nd
  refine (h.and nd').imp ?_
  rintro ⟨a, b⟩ ⟨c, d⟩ ⟨h1, h2⟩
  simp only [decide_eq_true_eq] at h1
  unfold TLt
  simp only
  rcases h1 with h | ⟨h, h'⟩
  · exact .inl h
  · rcases Nat.lt_or_eq_of_le h' with q | q
    · exact .inr ⟨h, q⟩
    · exact absurd (by rw [h, q]) h2

/-! drawing from the tape -/
noncomputable def TapeL (xs : List D) : Prop := Tape (.lst xs)
section
variable {G : GS} [HasF G 17 f17] [HasF G 18 f18]
theorem c_tape {n : Nat} {ns : List Int} : WC (callN G (n + 1) 17 [.v (.scr ns)]) fun m os => ∃ xs, m = .lst xs ∧ os = [.v (.scr ns)] ∧ TapeL xs :=
  tape_ok.mono fun m os h => by
    obtain ⟨h, rfl⟩ := h
    have h' := h
    obtain ⟨cs, a, r, x, s, rfl, _⟩ := h
    exact ⟨_, rfl, rfl, h'⟩
theorem c_pick {n k : Nat} {xs : List D} (ht : TapeL xs) (hk : 0 < k) (hk2 : k < 1073741824) : WC (callN G (n + 1) 18 [.lst xs, .v (I k)]) fun m os => ∃ (i : Nat) (xs' : List D), m = .v (I i) ∧ os = [.lst xs', .v (I k)] ∧ i < k ∧ TapeL xs' :=
  (pick_ok ht (show (0 : Int) < k by omega) (by omega)).mono fun m os h => by
    obtain ⟨i, t', rfl, rfl, h0, h1, h⟩ := h
    have h' := h
    obtain ⟨cs, a, r, x, s, rfl, _⟩ := h
    refine ⟨i.toNat, _, ?_, rfl, by omega, h'⟩
    show M.v (.int i) = M.v (.int ((i.toNat : Nat) : Int))
    rw [show ((i.toNat : Nat) : Int) = i by omega]
theorem c_pickL {n : Nat} {z : Int} (k : Nat) {xs : List D} (e : z = (k : Int)) (ht : TapeL xs) (hk : 0 < k) (hk2 : k < 1073741824) : WC (callN G (n + 1) 18 [.lst xs, .v (.int z)]) fun m os => ∃ (i : Nat) (xs' : List D), m = .v (I i) ∧ os = [.lst xs', .v (.int z)] ∧ i < k ∧ TapeL xs' := by
  subst e
  exact c_pick ht hk hk2
end
theorem pop_perm {α : Type} : ∀ {xs : List α} {i : Nat} (h : i < xs.length), ([xs[i]] ++ xs.eraseIdx i).Perm xs
  | x :: xs, 0, _ => .refl _
  | x :: xs, i + 1, h => by
    have hi : i < xs.length := by simpa using h
    exact (List.Perm.swap x xs[i] _).trans ((pop_perm hi).cons x)
theorem bm_popAt {xs : List D} {i : Nat} {d : D} (h : xs[i]? = some d) (hl : xs.length < 1073741824) : bmD .popAt xs [I i] = some (d, xs.eraseIdx i) := by
  have hi : i < xs.length := (List.getElem?_eq_some_iff.mp h).1
  simp only [bmD]
  rw [if_pos ⟨by omega, by omega⟩]
  have e : seqIndex? (i : Int) xs.length = some i := by
    unfold seqIndex?
    simp only
    rw [if_neg (show ¬ ((i : Int) < 0) by omega), if_pos (by simp; omega)]
    rfl
  rw [e]
  simp only [h, Option.map_some]
section
variable {G : GS} [HasF G 17 f17] [HasF G 18 f18] [HasF G 22 f22] [HasF G 23 f23]
theorem c_any {n : Nat} {xs ds : List D} (ht : TapeL xs) (hd : 0 < ds.length) (hd2 : ds.length < 1073741824) : WC (callN G (n + 2) 22 [.lst xs, .v (.lst ds)]) fun m os => ∃ d ∈ ds, ∃ xs', m = .v d ∧ os = [.lst xs', .v (.lst ds)] ∧ TapeL xs' := by
  refine call_wp ⟨rfl, by decide⟩ ?_
  simp? only [f22, b22_0, f18]
  refine WC.mono (c_pick ht hd hd2) ?_
  rintro _ _ ⟨i, xs', rfl, rfl, hi, ht⟩
  have e : idxD (.lst ds) (I i) = some ds[i] := L2.atI_nat (List.getElem?_eq_getElem hi)
  simp? only [e]
  exact ⟨_, List.getElem_mem hi, _, rfl, rfl, ht⟩
theorem c_anyM {n : Nat} {xs ds : List D} (ht : TapeL xs) (hd : 0 < ds.length) (hd2 : ds.length < 1073741824) : WC (callN G (n + 2) 22 [.lst xs, .lst ds]) fun m os => ∃ d ∈ ds, ∃ xs', m = .v d ∧ os = [.lst xs', .lst ds] ∧ TapeL xs' := by
  refine call_wp ⟨rfl, by decide⟩ ?_
  simp? only [f22, b22_0, f18]
  refine WC.mono (c_pick ht hd hd2) ?_
  rintro _ _ ⟨i, xs', rfl, rfl, hi, ht⟩
  have e : idxD (.lst ds) (I i) = some ds[i] := L2.atI_nat (List.getElem?_eq_getElem hi)
  simp? only [e]
  exact ⟨_, List.getElem_mem hi, _, rfl, rfl, ht⟩
theorem c_mixed {n : Nat} {xs ds : List D} (ht : TapeL xs) (hd : ds.length < 1000000) : WC (callN G (n + 2) 23 [.lst xs, .v (.lst ds)]) fun m os => ∃ fs xs', m = .lst fs ∧ fs.Perm ds ∧ os = [.lst xs', .v (.lst ds)] ∧ TapeL xs' := by
  refine call_wp ⟨rfl, by decide⟩ ?_
  simp? only [f23, b23_0]
  simp? only [b23_1]
  refine ⟨by decide, ?_⟩
  simp? only [b23_2]
  refine ⟨rng_ok (by omega) (by omega) (by omega) (by omega), ?_⟩
  refine for_rng (n := ds.length) (fun k τ => ∃ xs ls fs l4, τ = [some (.lst xs), some (.v (.lst ds)), some (.lst ls), some (.lst fs), l4] ∧ TapeL xs ∧ (fs ++ ls).Perm ds ∧ fs.length = k) ⟨xs, ds, [], none, rfl, ht, .refl _, rfl⟩ ?_ ?_
  · rintro k τ hk ⟨xs, ls, fs, l4, rfl, ht, hp, hl⟩
    have hll : ls.length + k = ds.length := by have := hp.length_eq; rw [List.length_append] at this; omega
    simp? only [wo_some]
    simp? only [b23_3, f18]

    refine WC.mono (c_pick ht (show 0 < ls.length by omega) (by omega)) ?_
    rintro _ _ ⟨i, xs', rfl, rfl, hi, ht⟩
    have ei := List.getElem?_eq_getElem hi
    simp? only [bm_popAt ei (by omega)]
    refine ⟨show fs.length < 16777216 by omega, xs', _, _, _, rfl, ht, ?_, by simp [hl]⟩
    refine List.Perm.trans ?_ hp
    rw [List.append_assoc]
    refine List.Perm.append_left fs ?_
    exact pop_perm hi
  · rintro τ ⟨xs, ls, fs, l4, rfl, ht, hp, hl⟩
    have hll : ls.length + ds.length = ds.length := by have := hp.length_eq; rw [List.length_append] at this; omega
    have : ls = [] := List.eq_nil_of_length_eq_zero (by omega)
    subst this
    rw [List.append_nil] at hp
    simp? only [b23_4]
    exact ⟨_, _, rfl, hp, rfl, ht⟩
end

/-! drawing a web -/
noncomputable def pr (ns : List Nat) (a b : Nat) : Nat × Nat := (min (ns.getD a 0) (ns.getD b 0), max (ns.getD a 0) (ns.getD b 0))
theorem min_I (a b : Nat) : (if ((b : Nat) : Int) < ((a : Nat) : Int) then (b : Int) else (a : Int)) = ((min a b : Nat) : Int) := by split <;> omega
theorem max_I (a b : Nat) : (if ((b : Nat) : Int) > ((a : Nat) : Int) then (b : Int) else (a : Int)) = ((max a b : Nat) : Int) := by split <;> omega
theorem ix_I {ns : List Nat} {k : Nat} (h : k < ns.length) : idxD (.lst (ns.map I)) (I k) = some (I (ns.getD k 0)) :=
  L2.atI_nat (by rw [List.getElem?_map, List.getElem?_eq_getElem h]; simp [List.getD, List.getElem?_eq_getElem h])
theorem perm_I {fs : List D} {xs : List Nat} (h : fs.Perm (xs.map I)) : ∃ ns : List Nat, fs = ns.map I ∧ ns.Perm xs := by
  let g : D → Nat := fun d => match d with
    | .int i => i.toNat
    | _ => 0
  have hg : ∀ k, g (I k) = k := fun k => Int.toNat_natCast k
  refine ⟨fs.map g, ?_, ?_⟩
  · rw [List.map_map]
    conv => lhs; rw [← List.map_id fs]
    refine List.map_congr_left fun d hd => ?_
    obtain ⟨k, _, rfl⟩ := List.mem_map.mp (h.subset hd)
    show I k = I (g (I k))
    rw [hg]
  · have := h.map g
    rw [List.map_map] at this
    have e : xs.map (g ∘ I) = xs := by
      conv => rhs; rw [← List.map_id xs]
      exact List.map_congr_left fun k _ => hg k
    rwa [e] at this
section
variable {G : GS} [HasF G 17 f17] [HasF G 18 f18] [HasF G 22 f22] [HasF G 23 f23] [HasF G 24 f24]
theorem web_body {n m z k j : Nat} {mo : D} {xs : List D} {ns : List Nat} {ps : List (Nat × Nat)} {l8 : Option M} {w : Wh} (ht : TapeL xs) (hk : k < ns.length) (hj : j < k) (hp : ps.length < 1000000)
    (hw : ∀ xs ps' l8, TapeL xs → ps' = ps ∨ ps' = ps ++ [pr ns k j] → w.nx [some (.lst xs), some (.v mo), some (.v (I m)), some (.v (I z)), some (.lst (ns.map I)), some (.lst (ps'.map P2)), some (.v (I k)), some (.v (I j)), l8]) :
    wpSs G (callN G (n + 1)) [0, 1] b24_6 [some (.lst xs), some (.v mo), some (.v (I m)), some (.v (I z)), some (.lst (ns.map I)), some (.lst (ps.map P2)), some (.v (I k)), some (.v (I j)), l8] w := by
  have t13 : ∀ xs (t : Bool), TapeL xs → wpSs G (callN G (n + 1)) [0, 1] b24_13 [some (.lst xs), some (.v mo), some (.v (I m)), some (.v (I z)), some (.lst (ns.map I)), some (.lst (ps.map P2)), some (.v (I k)), some (.v (I j)), some (.v (.bl t))] w := by
    intro xs t ht
    cases t
    · simp? only [b24_13]
      exact hw _ _ _ ht (.inl rfl)
    · simp? only [b24_13, b24_14, ix_I hk, ix_I (show j < ns.length by omega), min_I, max_I]
      refine ⟨by decide, by rw [List.length_map]; show _ < 16777216; omega, ?_⟩
      have := hw xs (ps ++ [pr ns k j]) (some (.v (.bl true))) ht (.inr rfl)
      rw [List.map_append] at this
      exact this
  have t11 : ∀ xs (t : Bool), TapeL xs → wpSs G (callN G (n + 1)) [0, 1] b24_11 [some (.lst xs), some (.v mo), some (.v (I m)), some (.v (I z)), some (.lst (ns.map I)), some (.lst (ps.map P2)), some (.v (I k)), some (.v (I j)), some (.v (.bl t))] w := by
    intro xs t ht
    simp? only [b24_11]
    split
    · simp? only [b24_12, f18]
      refine ⟨by decide, by decide, ?_⟩
      split
      · refine WC.mono (c_pickL 3 rfl ht (by decide) (by decide)) ?_
        rintro _ _ ⟨i, xs', rfl, rfl, hi, ht⟩
        simp? only [wo_some]
        exact t13 _ _ ht
      · exact t13 _ _ ht
    · exact t13 _ _ ht
  have t9 : ∀ xs (t : Bool), TapeL xs → wpSs G (callN G (n + 1)) [0, 1] b24_9 [some (.lst xs), some (.v mo), some (.v (I m)), some (.v (I z)), some (.lst (ns.map I)), some (.lst (ps.map P2)), some (.v (I k)), some (.v (I j)), some (.v (.bl t))] w := by
    intro xs t ht
    simp? only [b24_9]
    split
    · simp? only [b24_10]
      refine ⟨⟨by decide, by decide⟩, ⟨by decide, by decide⟩, ?_⟩
      exact t11 _ _ ht
    · exact t11 _ _ ht
  simp? only [b24_6, f18]
  refine WC.mono (c_pickL 6 rfl ht (by decide) (by decide)) ?_
  rintro _ _ ⟨i, xs', rfl, rfl, hi, ht⟩
  simp? only [b24_7]
  split
  · simp? only [b24_8]
    split
    · exact t9 _ _ ht
    · split
      · exact t9 _ _ ht
      · exact t9 _ _ ht
  · exact t9 _ _ ht
end
theorem getD_inj {ns : List Nat} (h : ns.Nodup) {a b : Nat} (ha : a < ns.length) (hb : b < ns.length) (e : ns.getD a 0 = ns.getD b 0) : a = b := by
  simp only [List.getD, List.getElem?_eq_getElem ha, List.getElem?_eq_getElem hb, Option.getD_some] at e
  exact (List.getElem_inj h).mp e
structure Good (ns : List Nat) (ps : List (Nat × Nat)) (i j : Nat) : Prop where
  nd : ps.Nodup
  of : ∀ p ∈ ps, ∃ a b, (a < i ∨ (a = i ∧ b < j)) ∧ b < a ∧ p = pr ns a b
  len : ps.length ≤ i * 24 + j
theorem Good.step {ns : List Nat} {ps ps' : List (Nat × Nat)} {i j : Nat} (g : Good ns ps i j) (hn : ns.Nodup) (hi : i < ns.length) (hj : j < i) (h : ps' = ps ∨ ps' = ps ++ [pr ns i j]) : Good ns ps' i (j + 1) := by
  rcases h with rfl | rfl
  · exact ⟨g.nd, fun p hp => by obtain ⟨a, b, h1, h2, h3⟩ := g.of p hp; exact ⟨a, b, by omega, h2, h3⟩, by have := g.len; omega⟩
  · refine ⟨?_, fun p hp => ?_, ?_⟩
    · refine List.nodup_append.mpr ⟨g.nd, by simp, fun p hp q hq => ?_⟩
      rw [List.mem_singleton.mp hq]
      rintro rfl
      obtain ⟨a, b, h1, h2, h3⟩ := g.of _ hp
      unfold pr at h3
      have e1 := congrArg Prod.fst h3
      have e2 := congrArg Prod.snd h3
      simp only at e1 e2
      have : (ns.getD i 0 = ns.getD a 0 ∧ ns.getD j 0 = ns.getD b 0) ∨ (ns.getD i 0 = ns.getD b 0 ∧ ns.getD j 0 = ns.getD a 0) := by omega
      rcases this with ⟨h4, h5⟩ | ⟨h4, h5⟩
      · have := getD_inj hn hi (by omega) h4
        have := getD_inj hn (by omega) (by omega) h5
        omega
      · have := getD_inj hn hi (by omega) h4
        omega
    · rcases List.mem_append.mp hp with hp | hp
      · obtain ⟨a, b, h1, h2, h3⟩ := g.of p hp; exact ⟨a, b, by omega, h2, h3⟩
      · rw [List.mem_singleton.mp hp]; exact ⟨i, j, by omega, hj, rfl⟩
    · have := g.len; rw [List.length_append, List.length_singleton]; omega
theorem Good.next {ns : List Nat} {ps : List (Nat × Nat)} {i : Nat} (g : Good ns ps i i) (hi : i < 24) : Good ns ps (i + 1) 0 :=
  ⟨g.nd, fun p hp => by obtain ⟨a, b, h1, h2, h3⟩ := g.of p hp; exact ⟨a, b, by omega, h2, h3⟩, by have := g.len; omega⟩
theorem Good.ties {ns : List Nat} {ps : List (Nat × Nat)} {m : Nat} (g : Good ns ps m 0) (hp : ns.Perm (List.range m)) : Ties m (ps.mergeSort fun p q => decide (p.1 < q.1 ∨ (p.1 = q.1 ∧ p.2 ≤ q.2))) := by
  have hn : ns.Nodup := hp.nodup_iff.mpr List.nodup_range
  have hl : ns.length = m := by rw [hp.length_eq, List.length_range]
  refine ⟨sorted_P ps g.nd, fun p h => ?_⟩
  obtain ⟨a, b, h1, h2, rfl⟩ := g.of p ((List.mergeSort_perm _ _).subset h)
  have ha : a < ns.length := by omega
  have hb : b < ns.length := by omega
  have ne : ns.getD a 0 ≠ ns.getD b 0 := fun e => by have := getD_inj hn ha hb e; omega
  have la : ns.getD a 0 < m := by
    simp only [List.getD, List.getElem?_eq_getElem ha, Option.getD_some]
    have := hp.subset (List.getElem_mem ha)
    simpa using this
  have lb : ns.getD b 0 < m := by
    simp only [List.getD, List.getElem?_eq_getElem hb, Option.getD_some]
    have := hp.subset (List.getElem_mem hb)
    simpa using this
  unfold pr
  simp only
  omega
section
variable {G : GS} [HasF G 17 f17] [HasF G 18 f18] [HasF G 22 f22] [HasF G 23 f23] [HasF G 24 f24]
theorem c_lweb {n k : Nat} {xs : List D} (ht : TapeL xs) (hk : 0 < k) (hk24 : k ≤ 24) : WC (callN G (n + 3) 24 [.lst xs, .v (I k)]) fun r os => ∃ m ts xs', r = .v (.tup [I m, TS ts]) ∧ 1 ≤ m ∧ m ≤ k ∧ Ties m ts ∧ os = [.lst xs', .v (I k)] ∧ TapeL xs' := by
  refine call_wp ⟨rfl, by decide⟩ ?_
  simp? only [f24, b24_0, f18]
  refine WC.mono (c_pick ht hk (by omega)) ?_
  rintro _ _ ⟨i, xs, rfl, rfl, hi, ht⟩
  have e : (1 : Int) + (i : Int) = ((i + 1 : Nat) : Int) := by omega
  simp? only [e]
  generalize hm : i + 1 = m
  have h1 : 1 ≤ m := by omega
  have h2 : m ≤ k := by omega
  clear hm e hi
  simp? only [b24_1, f18]
  refine WC.mono (c_pickL 7 rfl ht (by decide) (by decide)) ?_
  rintro _ _ ⟨z, xs, rfl, rfl, hz, ht⟩
  simp? only [b24_2, f23]
  refine ⟨rng_ok (by omega) (by omega) (by omega) (by omega), ?_⟩
  have hlen : (rngD 0 (m : Int)).length = m := by rw [rng_map]; simp
  refine ⟨by rw [hlen]; show m ≤ 16777216; omega, ?_⟩
  refine WC.mono (c_mixed ht (by omega)) ?_
  rintro _ _ ⟨fs, xs, rfl, hp, rfl, ht⟩
  rw [rng_map] at hp
  obtain ⟨ns, rfl, hq⟩ := perm_I hp
  have hn : ns.Nodup := hq.nodup_iff.mpr List.nodup_range
  have hl : ns.length = m := by rw [hq.length_eq, List.length_range]
  simp? only [b24_3]
  refine ⟨by decide, ?_⟩
  simp? only [b24_4]
  refine ⟨rng_ok (by omega) (by omega) (by omega) (by omega), ?_⟩
  refine for_rng (fun i τ => ∃ xs ps l6 l7 l8, τ = [some (.lst xs), some (.v (I k)), some (.v (I m)), some (.v (I z)), some (.lst (ns.map I)), some (.lst (ps.map P2)), l6, l7, l8] ∧ TapeL xs ∧ Good ns ps i 0) ⟨xs, [], none, none, none, rfl, ht, ⟨.nil, fun _ h => (nomatch h), by simp⟩⟩ ?_ ?_
  · rintro i τ hi ⟨xs, ps, l6, l7, l8, rfl, ht, g⟩
    simp? only [b24_5]
    refine ⟨rng_ok (by omega) (by omega) (by omega) (by omega), ?_⟩
    refine for_rng (fun j τ => ∃ xs ps l7 l8, τ = [some (.lst xs), some (.v (I k)), some (.v (I m)), some (.v (I z)), some (.lst (ns.map I)), some (.lst (ps.map P2)), some (.v (I i)), l7, l8] ∧ TapeL xs ∧ Good ns ps i j) ⟨xs, ps, l7, l8, rfl, ht, g⟩ ?_ ?_
    · rintro j τ hj ⟨xs, ps, l7, l8, rfl, ht, g⟩
      simp -implicitDefEqProofs only [bt_one, wo_ites, wo_some, wo_none, List.contains_cons, List.contains_nil, Nat.reduceBEq, Bool.or_self, Bool.false_eq_true, if_false, List.set_cons_zero, List.set_cons_succ]
      refine web_body ht (by omega) hj (by have := g.len; omega) ?_
      intro xs ps' l8 ht hps
      exact ⟨_, _, _, _, rfl, ht, g.step hn (by omega) hj hps⟩
    · rintro τ ⟨xs, ps, l7, l8, rfl, ht, g⟩
      exact ⟨_, _, _, _, _, rfl, ht, g.next (by omega)⟩
  · rintro τ ⟨xs, ps, l6, l7, l8, rfl, ht, g⟩
    have hs : ps.length ≤ SL := by have := g.len; show _ ≤ 16777216; omega
    simp? only [b24_15, sort_P hs]
    exact ⟨by decide, m, _, _, rfl, h1, h2, g.ties hq, rfl, ht⟩
theorem c_lwebL {n : Nat} {z : Int} (k : Nat) {xs : List D} (e : z = (k : Int)) (ht : TapeL xs) (hk : 0 < k) (hk24 : k ≤ 24) : WC (callN G (n + 3) 24 [.lst xs, .v (.int z)]) fun r os => ∃ m ts xs', r = .v (.tup [I m, TS ts]) ∧ 1 ≤ m ∧ m ≤ k ∧ Ties m ts ∧ os = [.lst xs', .v (.int z)] ∧ TapeL xs' := by
  subst e
  exact c_lweb ht hk hk24
end

/-! a law's own account -/
section
variable {G : GS} [HasF G 19 f19] [HasF G 21 f21]
theorem a_int {n : Nat} {i : Int} : callN G (n + 1) 19 [.v (.int i)] = some (.v (.bl true), [.v (.int i)]) := by
  refine wc_eq (call_wp ⟨rfl, by decide⟩ ?_)
  simp? only [f19, b19_0]
theorem a_same1 {n : Nat} {i : Int} : callN G (n + 2) 21 [.v (.int i), .v (.int i)] = some (.v (.bl true), [.v (.int i), .v (.int i)]) := by
  refine wc_eq (call_wp ⟨rfl, by decide⟩ ?_)
  simp? only [f21, b21_0]
  simp? only [b21_6]
  simp? only [b21_8]
  simp? only [b21_10]
  simp? only [b21_12, f19, a_int, decide_true]
  decide
theorem zip_same {ns : List Nat} : zipD (ns.map I) (ns.map I) = ns.map fun k => .tup [I k, I k] := by
  induction ns with
  | nil => rfl
  | cons n ns ih => rw [List.map_cons, zipD, ih, List.map_cons]
theorem bools_true {xs : List Nat} : boolsOf (xs.map fun _ => .bl true) = some (xs.map fun _ => true) := by
  induction xs with
  | nil => rfl
  | cons x xs ih => rw [List.map_cons, boolsOf, ih]; rfl
theorem a_same {n : Nat} {ns : List Nat} (hl : ns.length < 1000000) : callN G (n + 3) 21 [.v (L ns), .v (L ns)] = some (.v (.bl true), [.v (L ns), .v (L ns)]) := by
  refine wc_eq (call_wp ⟨rfl, by decide⟩ ?_)
  simp? only [f21, b21_0]
  simp? only [b21_1, decide_true]
  simp? only [b21_3, decide_true]
  simp? only [b21_5, zip_same]
  refine ⟨by decide, by decide, ?_⟩
  refine lc_map (f := fun k : Nat => .tup [I k, I k]) (fun ds rs acc τ => τ = [some (.v (L ns)), some (.v (L ns)), none, none] ∧ acc = ds.map fun _ => .bl true) ⟨rfl, rfl⟩ ?_ ?_
  · rintro ds x rs acc τ e hl' ⟨rfl, rfl⟩
    have hlen : ds.length ≤ ns.length := by rw [e, List.length_append]; omega
    simp? only [f21, a_same1]
    refine ⟨show (ds.map _).length < 16777216 by rw [List.length_map]; omega, ?_⟩
    simp
  · rintro acc τ ⟨rfl, rfl⟩
    simp? only [bools_true]
    simp
/-- the account of who says yes -/
noncomputable def saysF (ts : List (Nat × Nat)) (ns : List Nat) (p : Nat) : Bool := decide (∀ q ∈ ns, ¬ Tied ts p q)
/-- the account of the stand behind a call -/
noncomputable def behindF (ts : List (Nat × Nat)) (ns : List Nat) (p : Nat) : List Nat := if saysF ts ns p = true then (ns.filter (· ≠ p) ++ [p]).mergeSort (fun a b => decide (a ≤ b)) else ns.filter (· ≠ p)
end

/-! sorted(set(..)) of pairs; equality of pairs and of rows of them -/
noncomputable def leP (p q : Nat × Nat) : Bool := decide (p.1 < q.1 ∨ (p.1 = q.1 ∧ p.2 ≤ q.2))
theorem TLt.le {p q : Nat × Nat} (h : TLt p q) : leP p q = true := by
  unfold TLt at h; unfold leP
  exact decide_eq_true (by omega)
theorem tl_ext {xs ys : List (Nat × Nat)} (hx : xs.Pairwise TLt) (hy : ys.Pairwise TLt) (h : ∀ p, p ∈ xs ↔ p ∈ ys) : xs = ys := by
  have nd : ∀ {zs : List (Nat × Nat)}, zs.Pairwise TLt → zs.Nodup := fun hz => hz.imp fun {a b} q e => by
    subst e
    unfold TLt at q
    omega
  refine List.Perm.eq_of_pairwise (le := TLt) (fun a b _ _ h1 h2 => ?_) hx hy ((List.perm_ext_iff_of_nodup (nd hx) (nd hy)).mpr h)
  unfold TLt at h1 h2
  obtain ⟨a1, a2⟩ := a
  obtain ⟨b1, b2⟩ := b
  simp only at h1 h2
  omega
theorem ties_len {m : Nat} {ts : List (Nat × Nat)} (T : Ties m ts) : ts.length ≤ m * m := by
  have up : (ts.map fun p => p.1 * m + p.2).Pairwise (· < ·) := by
    rw [List.pairwise_map]
    refine List.Pairwise.imp_of_mem (fun {a b} ha hb q => ?_) T.up
    have h1 := T.lt a ha
    have h2 := T.lt b hb
    rcases q with q | ⟨q1, q2⟩
    · have : (a.1 + 1) * m ≤ b.1 * m := Nat.mul_le_mul_right m q
      rw [Nat.add_mul] at this
      omega
    · rw [q1]; omega
  have e : (ts.map fun p => p.1 * m + p.2) = (List.range (m * m)).filter (fun i => decide (i ∈ ts.map fun p => p.1 * m + p.2)) := up_ext up (List.Pairwise.filter _ List.pairwise_lt_range) fun i => by
    simp only [List.mem_filter, List.mem_range, decide_eq_true_eq]
    refine ⟨fun q => ⟨?_, q⟩, fun q => q.2⟩
    obtain ⟨p, hp, rfl⟩ := List.mem_map.mp q
    have h1 := T.lt p hp
    have : (p.1 + 1) * m ≤ m * m := Nat.mul_le_mul_right m (by omega)
    rw [Nat.add_mul] at this
    omega
  have h := congrArg List.length e
  rw [List.length_map] at h
  have := List.length_filter_le (fun i => decide (i ∈ ts.map fun p => p.1 * m + p.2)) (List.range (m * m))
  rw [List.length_range] at this
  omega
theorem toPy_TS (ts : List (Nat × Nat)) : toPy (TS ts) = some (.tuple (ts.map gP)) := by
  simp only [toPy, toPys_map toPy_P, Option.map_some]
/-! odd things: what is no lot is told to be none -/
/-- values whose class can be asked -/
noncomputable def vis : D → Bool
  | .ty _ => false
  | .cl _ => false
  | .scr _ => false
  | .exc _ => false
  | _ => true
noncomputable def isIntB : D → Bool
  | .int _ => true
  | _ => false
noncomputable def btwB (d : D) (l m : Int) : Bool := match d with
  | .int t => decide (l ≤ t) && decide (t ≤ m)
  | _ => false
noncomputable def isTupB : D → Bool
  | .tup _ => true
  | _ => false
theorem isi_tupleB {d : D} (h : vis d = true) : isiD d (.ty .tuple) = some (isTupB d) := by
  cases d <;> first | rfl | cases h
section
variable {G : GS} [HasF G 0 f0] [HasF G 1 f1] [HasF G 2 f2] [HasF G 7 f7] [HasF G 19 f19]
theorem o_int {n : Nat} {d : D} (h : vis d = true) : callN G (n + 1) 0 [.v d] = some (.v (.bl (isIntB d)), [.v d]) := by
  refine wc_eq (call_wp ⟨rfl, by decide⟩ ?_)
  cases d <;> first | (cases h; done) | (simp? only [f0, b0_0]; first | rfl | done)
theorem o_int19 {n : Nat} {d : D} (h : vis d = true) : callN G (n + 1) 19 [.v d] = some (.v (.bl (isIntB d)), [.v d]) := by
  refine wc_eq (call_wp ⟨rfl, by decide⟩ ?_)
  cases d <;> first | (cases h; done) | (simp? only [f19, b19_0]; first | rfl | done)
theorem o_btw {n : Nat} {d : D} {l m : Int} (h : vis d = true) : callN G (n + 2) 1 [.v d, .v (.int l), .v (.int m)] = some (.v (.bl (btwB d l m)), [.v d, .v (.int l), .v (.int m)]) := by
  by_cases hi : isIntB d = true
  · cases d with
    | int t => exact c_btw
    | _ => cases hi
  · have hi' : isIntB d = false := by simpa using hi
    have hb : btwB d l m = false := by
      cases d with
      | int t => exact absurd rfl hi
      | _ => rfl
    refine wc_eq (call_wp ⟨rfl, by decide⟩ ?_)
    simp? only [f1, b1_0, f0, o_int h, hi', hb]
end
noncomputable def intD : D → Int
  | .int i => i
  | _ => 0
noncomputable def ascB (m : Nat) : Int → List D → Bool
  | _, [] => true
  | l, x :: r => btwB x (l + 1) ((m : Int) - 1) && ascB m (intD x) r
noncomputable def lotB (m : Nat) (d : D) : Bool := match d with
  | .tup xs => ascB m (-1) xs
  | _ => false
/-- a thing all whose items can be asked, too -/
noncomputable def visA (d : D) : Prop := vis d = true ∧ ∀ xs, d = .tup xs → xs.length < 1000000 ∧ ∀ x ∈ xs, vis x = true
theorem ascB_iff {m : Nat} : ∀ (xs : List D) (l : Int), -1 ≤ l → (ascB m l xs = true ↔ ∃ ns : List Nat, xs = ns.map I ∧ ns.Pairwise (· < ·) ∧ ∀ x ∈ ns, l < (x : Int) ∧ x < m)
  | [], l, hl => ⟨fun _ => ⟨[], rfl, .nil, fun _ h => nomatch h⟩, fun _ => rfl⟩
  | x :: r, l, hl => by
    rw [ascB, Bool.and_eq_true]
    constructor
    · rintro ⟨h1, h2⟩
      cases x with
      | int i =>
        simp only [btwB, Bool.and_eq_true, decide_eq_true_eq] at h1
        obtain ⟨ns, rfl, h3, h4⟩ := (ascB_iff r i (by omega)).mp h2
        obtain ⟨k, rfl⟩ := Int.eq_ofNat_of_zero_le (show 0 ≤ i by omega)
        refine ⟨k :: ns, rfl, List.pairwise_cons.mpr ⟨fun y hy => by have := (h4 y hy).1; omega, h3⟩, fun y hy => ?_⟩
        rcases List.mem_cons.mp hy with z | z
        · omega
        · have := h4 y z; omega
      | _ => cases h1
    · rintro ⟨ns, e, h3, h4⟩
      cases ns with
      | nil => cases e
      | cons k ns =>
        rw [List.map_cons] at e
        obtain ⟨rfl, rfl⟩ := List.cons.inj e
        have hk := h4 k (by simp)
        have ek : intD (I k) = (k : Int) := rfl
        rw [ek]
        refine ⟨?_, ?_⟩
        · simp only [btwB, Bool.and_eq_true, decide_eq_true_eq]; omega
        · exact (ascB_iff _ _ (by omega)).mpr ⟨ns, rfl, (List.pairwise_cons.mp h3).2, fun y hy => ⟨by have := (List.pairwise_cons.mp h3).1 y hy; omega, (h4 y (by simp [hy])).2⟩⟩
theorem lotB_iff {m : Nat} {d : D} : lotB m d = true ↔ ∃ ns : List Nat, d = L ns ∧ ns.Pairwise (· < ·) ∧ ∀ x ∈ ns, x < m := by
  cases d with
  | tup xs =>
    show ascB m (-1) xs = true ↔ _
    rw [ascB_iff xs (-1) (by omega)]
    constructor
    · rintro ⟨ns, rfl, h1, h2⟩; exact ⟨ns, rfl, h1, fun x hx => (h2 x hx).2⟩
    · rintro ⟨ns, e, h1, h2⟩
      injection e with e
      exact ⟨ns, e, h1, fun x hx => ⟨by omega, h2 x hx⟩⟩
  | _ => exact ⟨fun h => (nomatch h), fun ⟨ns, e, _⟩ => by cases e⟩
section
variable {G : GS} [HasF G 0 f0] [HasF G 1 f1] [HasF G 2 f2] [HasF G 7 f7] [HasF G 19 f19]
end
noncomputable def inB (m : Nat) (x : D) : Bool := match x with
  | .int i => decide (0 ≤ i) && decide (i < (m : Int))
  | _ => false
noncomputable def adj : List Nat → Bool
  | a :: b :: r => decide (a < b) && adj (b :: r)
  | _ => true
theorem adj_iff : ∀ ns : List Nat, adj ns = true ↔ ns.Pairwise (· < ·)
  | [] => ⟨fun _ => .nil, fun _ => rfl⟩
  | [a] => ⟨fun _ => List.pairwise_singleton _ _, fun _ => rfl⟩
  | a :: b :: r => by
    rw [adj, Bool.and_eq_true, decide_eq_true_eq, adj_iff (b :: r)]
    constructor
    · rintro ⟨h1, h2⟩
      exact List.pairwise_cons.mpr ⟨fun y hy => by
        rcases List.mem_cons.mp hy with z | z
        · omega
        · have := (List.pairwise_cons.mp h2).1 y z; omega, h2⟩
    · intro h
      obtain ⟨h1, h2⟩ := List.pairwise_cons.mp h
      exact ⟨h1 b (by simp), h2⟩
theorem adj_all : ∀ ns : List Nat, ((List.range (ns.length - 1)).all fun k => decide (ns.getD k 0 < ns.getD (k + 1) 0)) = adj ns
  | [] => rfl
  | [a] => rfl
  | a :: b :: r => by
    rw [adj, ← adj_all (b :: r)]
    show (List.range (r.length + 1)).all _ = _
    rw [List.range_succ_eq_map, List.all_cons, List.all_map]
    rfl
theorem all_inB {m : Nat} : ∀ {xs : List D}, xs.all (inB m) = true → ∃ ns : List Nat, xs = ns.map I ∧ ∀ x ∈ ns, x < m
  | [], _ => ⟨[], rfl, fun _ h => nomatch h⟩
  | x :: r, h => by
    rw [List.all_cons, Bool.and_eq_true] at h
    obtain ⟨ns, rfl, h2⟩ := all_inB h.2
    cases x with
    | int i =>
      have h1 := h.1
      simp only [inB, Bool.and_eq_true, decide_eq_true_eq] at h1
      obtain ⟨k, rfl⟩ := Int.eq_ofNat_of_zero_le h1.1
      refine ⟨k :: ns, rfl, fun y hy => ?_⟩
      rcases List.mem_cons.mp hy with z | z
      · omega
      · exact h2 y z
    | _ => cases h.1
theorem bools_map {α : Type} {g : α → Bool} : ∀ xs : List α, boolsOf (xs.map fun a => .bl (g a)) = some (xs.map g)
  | [] => rfl
  | x :: xs => by rw [List.map_cons, boolsOf, bools_map xs]; rfl
theorem rng1_map (k : Nat) : rngD 1 (k : Int) = (List.range (k - 1)).map fun (j : Nat) => D.int (1 + (j : Int)) := by
  unfold rngD
  rw [show ((k : Int) - 1).toNat = k - 1 by omega]
section
variable {G : GS} [HasF G 0 f0] [HasF G 1 f1] [HasF G 2 f2] [HasF G 7 f7] [HasF G 19 f19] [HasF G 47 f47]
theorem a_islot {n m : Nat} {d : D} (h : visA d) : callN G (n + 2) 47 [.v (I m), .v d] = some (.v (.bl (lotB m d)), [.v (I m), .v d]) := by
  refine wc_eq (call_wp ⟨rfl, by decide⟩ ?_)
  by_cases ht : isTupB d = true
  · cases d with
    | tup xs =>
      obtain ⟨hlen, hv⟩ := h.2 xs rfl
      simp? only [f47, b47_0]
      refine lc_by (fun rs acc τ => ∃ ds, xs = ds ++ rs ∧ τ = [some (.v (I m)), some (.v (.tup xs)), none, none] ∧ acc = ds.map fun x => .bl (inB m x)) ⟨[], rfl, rfl, rfl⟩ ?_ ?_
      · rintro x rs acc τ ⟨ds, e, rfl, rfl⟩
        have hx : vis x = true := hv x (by rw [e]; simp)
        have hl2 : ds.length ≤ xs.length := by rw [e, List.length_append]; omega
        by_cases hi : isIntB x = true
        · cases x with
          | int i =>
            simp? only [f19, o_int19 hx, hi]
            have e2 : inB m (.int i) = if 0 ≤ i then decide (i < (m : Int)) else false := by
              unfold inB
              by_cases q : 0 ≤ i <;> simp [q]
            by_cases q : 0 ≤ i
            · simp? only [q, decide_true]
              refine ⟨show _ < 16777216 by rw [List.length_map]; omega, ds ++ [.int i], by simp [e], ?_⟩
              rw [List.map_append, List.map_cons, List.map_nil, e2, if_pos q]
            · simp? only [q, decide_false]
              refine ⟨show _ < 16777216 by rw [List.length_map]; omega, ds ++ [.int i], by simp [e], ?_⟩
              rw [List.map_append, List.map_cons, List.map_nil, e2, if_neg q]
          | _ => cases hi
        · have hi' : isIntB x = false := by simpa using hi
          have hb : inB m x = false := by
            cases x with
            | int t => exact absurd rfl hi
            | _ => rfl
          simp? only [f19, o_int19 hx, hi']
          refine ⟨show _ < 16777216 by rw [List.length_map]; omega, ds ++ [x], by simp [e], ?_⟩
          rw [List.map_append, List.map_cons, List.map_nil, hb]
      · rintro acc τ ⟨ds, e, rfl, rfl⟩
        rw [List.append_nil] at e
        subst e
        simp? only [bools_map]
        by_cases ha : xs.all (inB m) = true
        · obtain ⟨ns, rfl, hm⟩ := all_inB ha
          have ha' : (List.map (inB m) (ns.map I)).all id = true := by
            rw [List.all_map]; exact ha
          rw [List.length_map] at hlen
          simp? only [ha', b47_2, List.length_map]
          refine ⟨rng_ok (by omega) (by omega) (by omega) (by omega), ?_⟩
          rw [rng1_map]
          refine lc_map (f := fun j : Nat => .int (1 + (j : Int))) (fun ds rs acc τ => τ = [some (.v (I m)), some (.v (L ns)), none, none] ∧ acc = ds.map fun k => .bl (decide (ns.getD k 0 < ns.getD (k + 1) 0))) ⟨rfl, rfl⟩ ?_ ?_
          · rintro ds x rs acc τ e hl' ⟨rfl, rfl⟩
            have hx : x < ns.length - 1 := by
              have : x ∈ List.range (ns.length - 1) := by rw [e]; simp
              simpa using this
            have hds : ds.length ≤ ns.length := by
              have := congrArg List.length e
              rw [List.length_range, List.length_append] at this
              omega
            have e1 : idxD (.tup (ns.map I)) (.int (1 + (x : Int) - 1)) = some (I (ns.getD x 0)) := by
              rw [show (1 + (x : Int) - 1) = (x : Int) by omega]
              refine L2.atI_nat ?_
              rw [List.getElem?_map, List.getElem?_eq_getElem (show x < ns.length by omega)]
              simp [List.getD, List.getElem?_eq_getElem (show x < ns.length by omega)]
            have e2 : idxD (.tup (ns.map I)) (.int (1 + (x : Int))) = some (I (ns.getD (x + 1) 0)) := by
              rw [show (1 + (x : Int)) = ((x + 1 : Nat) : Int) by omega]
              refine L2.atI_nat ?_
              rw [List.getElem?_map, List.getElem?_eq_getElem (show x + 1 < ns.length by omega)]
              simp [List.getD, List.getElem?_eq_getElem (show x + 1 < ns.length by omega)]
            simp? only [e1, e2]
            refine ⟨show _ < 16777216 by rw [List.length_map]; omega, ?_⟩
            simp
          · rintro acc τ ⟨rfl, rfl⟩
            simp? only [bools_map]
            have e3 : ((List.range (ns.length - 1)).map fun k => decide (ns.getD k 0 < ns.getD (k + 1) 0)).all id = lotB m (L ns) := by
              rw [List.all_map, show (id ∘ fun k => decide (ns.getD k 0 < ns.getD (k + 1) 0)) = fun k => decide (ns.getD k 0 < ns.getD (k + 1) 0) from rfl, adj_all]
              rw [Bool.eq_iff_iff, adj_iff, lotB_iff]
              exact ⟨fun q => ⟨ns, rfl, q, hm⟩, fun ⟨ms, e, q, _⟩ => by
                have : ns = ms := by
                  have inj : ∀ (as bs : List Nat), as.map I = bs.map I → as = bs := by
                    intro as
                    induction as with
                    | nil => intro bs h; cases bs with | nil => rfl | cons _ _ => cases h
                    | cons a as ih =>
                      intro bs h
                      cases bs with
                      | nil => cases h
                      | cons b bs =>
                        rw [List.map_cons, List.map_cons] at h
                        obtain ⟨h1, h2⟩ := List.cons.inj h
                        have h3 : (a : Int) = (b : Int) := by injection h1
                        rw [ih bs h2, show a = b by omega]
                  injection e with e
                  exact inj _ _ e
                rw [this]; exact q⟩
            rw [e3]
        · have ha' : (List.map (inB m) xs).all id = false := by
            rw [List.all_map]
            simpa using ha
          have e4 : lotB m (.tup xs) = false := by
            cases q : lotB m (.tup xs) with
            | false => rfl
            | true =>
              obtain ⟨ns, e, _, hm⟩ := lotB_iff.mp q
              injection e with e
              subst e
              refine absurd ?_ ha
              rw [List.all_map, List.all_eq_true]
              intro y hy
              have := hm y hy
              simp only [Function.comp, inB, Bool.and_eq_true, decide_eq_true_eq]
              omega
          simp? only [ha', b47_1, e4]
    | _ => cases ht
  · have ht' : isTupB d = false := by simpa using ht
    have e : lotB m d = false := by
      cases d with
      | tup xs => exact absurd rfl ht
      | _ => rfl
    simp? only [f47, b47_0, isi_tupleB h.1, ht', b47_1, e]
end
theorem slc_t {xs : List D} {l h : Option Int} : slcP (.tup xs) l h = some (.d (.tup (cutD xs l h))) := rfl
theorem cut_len {xs : List D} {lo hi : Option Int} : (cutD xs lo hi).length ≤ xs.length := by
  unfold cutD
  rw [List.length_take, List.length_drop]
  omega
theorem cut_sub {xs : List D} {lo hi : Option Int} {x : D} (h : x ∈ cutD xs lo hi) : x ∈ xs := List.mem_of_mem_drop (List.mem_of_mem_take h)
section
variable {G : GS} [HasF G 17 f17] [HasF G 18 f18] [HasF G 22 f22] [HasF G 23 f23] [HasF G 48 f48] [HasF G 49 f49]
theorem c_deep {n : Nat} : WC (callN G (n + 1) 48 []) fun m os => ∃ x, m = .v (.tup [x]) ∧ vis x = true ∧ os = [] := by
  refine call_wp ⟨rfl, by decide⟩ ?_
  simp? only [f48, b48_0]
  refine ⟨by decide, ?_⟩
  simp? only [b48_1]
  refine ⟨by decide, ?_⟩
  refine for_rng (n := 32) (fun k τ => ∃ m l1 x, τ = [some m, l1] ∧ vis x = true ∧ (m = .v (.tup [x]) ∨ (m = .lst [x] ∧ k ≤ 16))) ⟨_, none, .non, rfl, rfl, .inl rfl⟩ ?_ ?_
  · rintro k τ hk ⟨m, l1, x, rfl, hx, rfl | ⟨rfl, h16⟩⟩
    · simp? only [b48_2]
      by_cases q : (k : Int) < 16
      · simp? only [q, if_true]
        exact ⟨by decide, _, _, _, rfl, rfl, .inr ⟨rfl, by omega⟩⟩
      · simp? only [q, if_false]
        exact ⟨by decide, _, _, _, rfl, rfl, .inl rfl⟩
    · simp? only [b48_2]
      by_cases q : (k : Int) < 16
      · simp? only [q, if_true]
        exact ⟨by decide, _, _, _, rfl, rfl, .inr ⟨rfl, by omega⟩⟩
      · simp? only [q, if_false]
        exact ⟨by decide, _, _, _, rfl, rfl, .inl rfl⟩
  · rintro τ ⟨m, l1, x, rfl, hx, rfl | ⟨rfl, h16⟩⟩
    · simp? only [b48_3]
      exact ⟨x, rfl, hx⟩
    · omega
end

/-! webs made of pairs; ties put and taken -/
section
variable {G : GS} [HasC G 0 kl0] [HasF G 0 f0] [HasF G 1 f1] [HasF G 2 f2] [HasF G 29 f29] [HasF G 30 f30] [HasF G 39 f39] [HasF G 7 f7] [HasG G 0 (.int 24)]
end
section
variable {G : GS} [HasC G 0 kl0] [HasF G 0 f0] [HasF G 1 f1] [HasF G 2 f2] [HasF G 29 f29] [HasF G 30 f30] [HasF G 39 f39] [HasF G 7 f7] [HasG G 0 (.int 24)]
end

/-! what one call of a part does -/
section
variable {m : Nat} {ts : List (Nat × Nat)} {ns : List Nat}
theorem Ties.ne (h : Ties m ts) (i : Nat) : ¬ Tied ts i i := fun q => by
  rcases q with q | q <;> exact absurd (h.lt _ q).1 (Nat.lt_irrefl i)
theorem mem_behind {p i : Nat} : i ∈ behindF ts ns p ↔ if i = p then saysF ts ns p = true else i ∈ ns := by
  unfold behindF
  by_cases hs : saysF ts ns p = true
  · rw [if_pos hs, List.mem_mergeSort, List.mem_append, List.mem_filter, List.mem_singleton]
    by_cases e : i = p
    · simp [e, hs]
    · simp [e]
  · rw [if_neg hs, List.mem_filter]
    by_cases e : i = p
    · simp [e, hs]
    · simp [e]
theorem behind_up {p : Nat} (h : ns.Pairwise (· < ·)) : (behindF ts ns p).Pairwise (· < ·) := by
  unfold behindF
  split
  · have h1 := sorted_I (ns.filter (· ≠ p) ++ [p])
    have h2 : ((ns.filter (· ≠ p) ++ [p]).mergeSort fun a b => decide (a ≤ b)).Nodup := by
      refine (List.mergeSort_perm _ _).nodup_iff.mpr (List.nodup_append.mpr ⟨?_, by simp, ?_⟩)
      · exact List.Pairwise.filter _ (h.imp fun q => Nat.ne_of_lt q)
      · intro a ha b hb
        rw [List.mem_singleton.mp hb]
        have := (List.mem_filter.mp ha).2
        simpa using this
    exact (h1.and h2).imp fun q => Nat.lt_of_le_of_ne q.1 q.2
  · exact List.Pairwise.filter _ h
theorem behind_lt {p : Nat} (hn : ∀ x ∈ ns, x < m) (hp : p < m) : ∀ x ∈ behindF ts ns p, x < m := by
  intro x hx
  rw [mem_behind] at hx
  split at hx
  · omega
  · exact hn x hx
end

/-! rows of calls, rests -/
/-- the stand behind a row of calls -/
noncomputable def rowF (ts : List (Nat × Nat)) (ns : List Nat) (ps : List Nat) : List Nat := ps.foldl (behindF ts) ns
theorem rowF_snoc {ts : List (Nat × Nat)} {ns ps : List Nat} {p : Nat} : rowF ts ns (ps ++ [p]) = behindF ts (rowF ts ns ps) p := by unfold rowF; rw [List.foldl_append]; rfl
/-- whether no call changes the stand -/
noncomputable def restF (m : Nat) (ts : List (Nat × Nat)) (ns : List Nat) : Bool := decide (∀ p, p < m → behindF ts ns p = ns)
theorem behind_same {ts : List (Nat × Nat)} {ns : List Nat} {p : Nat} (hn : ns.Pairwise (· < ·)) : behindF ts ns p = ns ↔ (saysF ts ns p = true ↔ p ∈ ns) := by
  constructor
  · intro e
    have := mem_behind (ts := ts) (ns := ns) (p := p) (i := p)
    rw [e, if_pos rfl] at this
    exact this.symm
  · intro h
    refine up_ext (behind_up hn) hn fun i => ?_
    rw [mem_behind]
    by_cases q : i = p
    · rw [if_pos q, q]; exact h
    · rw [if_neg q]
section
variable {G : GS} [HasF G 0 f0] [HasF G 1 f1] [HasF G 2 f2] [HasF G 7 f7] [HasF G 19 f19] [HasF G 29 f29] [HasF G 30 f30] [HasC G 0 kl0] [HasG G 0 (.int 24)]
variable {n m : Nat} {ts : List (Nat × Nat)} {ns ps : List Nat} {w : M}
end

/-! healing: parts of a rest fallen, webs filled up -/
/-! ### filled up -/
noncomputable def putF (ts : List (Nat × Nat)) (b p : Nat) : Nat := if (b ||| silF ts (lotOf b)).testBit p = true then b else b ||| 2 ^ p
/-! healing: the program's walks -/
section
variable {G : GS} [HasF G 19 f19] [HasF G 0 f0] [HasF G 1 f1] [HasF G 2 f2] [HasF G 7 f7] [HasF G 29 f29] [HasF G 30 f30] [HasC G 0 kl0] [HasG G 0 (.int 24)]
variable {n m : Nat} {ts : List (Nat × Nat)} {ns : List Nat} {w : M}
end

/-! the healing laws' own base: webs drawn, parts called, rests -/
/-- ties so far: rows done, and of the row at hand the columns done -/
structure TGood (m : Nat) (ps : List (Nat × Nat)) (i j : Nat) : Prop where
  up : ps.Pairwise TLt
  lt : ∀ p ∈ ps, p.1 < p.2 ∧ p.2 < m ∧ (p.1 < i ∨ (p.1 = i ∧ p.2 < j))
theorem TGood.step {m : Nat} {ps ps' : List (Nat × Nat)} {i j : Nat} (g : TGood m ps i j) (hi : i < j) (hj : j < m) (h : ps' = ps ∨ ps' = ps ++ [(i, j)]) : TGood m ps' i (j + 1) := by
  rcases h with rfl | rfl
  · exact ⟨g.up, fun p hp => ⟨(g.lt p hp).1, (g.lt p hp).2.1, by have := (g.lt p hp).2.2; omega⟩⟩
  · refine ⟨List.pairwise_append.mpr ⟨g.up, List.pairwise_singleton _ _, fun a ha b hb => ?_⟩, fun p hp => ?_⟩
    · rw [List.mem_singleton.mp hb]
      have := (g.lt a ha).2.2
      show a.1 < i ∨ (a.1 = i ∧ a.2 < j)
      omega
    · rcases List.mem_append.mp hp with z | z
      · exact ⟨(g.lt p z).1, (g.lt p z).2.1, by have := (g.lt p z).2.2; omega⟩
      · rw [List.mem_singleton.mp z]
        exact ⟨hi, hj, .inr ⟨rfl, by show j < j + 1; omega⟩⟩
theorem TGood.next {m : Nat} {ps : List (Nat × Nat)} {i : Nat} (g : TGood m ps i m) : TGood m ps (i + 1) (i + 2) := ⟨g.up, fun p hp => ⟨(g.lt p hp).1, (g.lt p hp).2.1, by have := (g.lt p hp).2.2; omega⟩⟩
theorem TGood.ties {m : Nat} {ps : List (Nat × Nat)} {i j : Nat} (g : TGood m ps i j) : Ties m ps := ⟨g.up, fun p hp => ⟨(g.lt p hp).1, (g.lt p hp).2.1⟩⟩
theorem TGood.len {m : Nat} {ps : List (Nat × Nat)} {i j : Nat} (g : TGood m ps i j) : ps.length ≤ m * m := ties_len g.ties
section
variable {G : GS} [HasF G 17 f17] [HasF G 18 f18]
variable {n m : Nat} {ts : List (Nat × Nat)} {ns : List Nat}
/-- a rest, parts put in one by one -/
structure SomeR (m : Nat) (ts : List (Nat × Nat)) (left fs : List Nat) : Prop where
  up : fs.Pairwise (· < ·)
  lt : ∀ x ∈ fs, x < m
  ll : ∀ x ∈ left, x < m
  nd : left.Nodup
  no : ∀ x ∈ left, x ∉ fs
  free : ∀ a ∈ fs, ∀ b ∈ fs, ¬ Tied ts a b
  all : ∀ p, p < m → p ∈ left ∨ p ∈ fs ∨ ∃ q ∈ fs, Tied ts p q
theorem SomeR.rest {fs : List Nat} (R : SomeR m ts [] fs) : restF m ts fs = true := by
  unfold restF
  refine decide_eq_true fun p hp => (behind_same R.up).mpr ?_
  unfold saysF
  rw [decide_eq_true_eq]
  constructor
  · intro h
    rcases R.all p hp with z | z | ⟨q, h1, h2⟩
    · cases z
    · exact z
    · exact absurd h2 (h q h1)
  · intro h q hq
    exact R.free p h q hq
theorem mem_ins {fs : List Nat} {p x : Nat} : x ∈ (fs ++ [p]).mergeSort (fun a b => decide (a ≤ b)) ↔ x ∈ fs ∨ x = p := by
  rw [(List.mergeSort_perm _ _).mem_iff, List.mem_append, List.mem_singleton]
theorem SomeR.step {left fs : List Nat} {i p : Nat} (T : Ties m ts) (R : SomeR m ts left fs) (hi : left[i]? = some p) :
    (saysF ts fs p = true → SomeR m ts (left.eraseIdx i) ((fs ++ [p]).mergeSort fun a b => decide (a ≤ b))) ∧ (saysF ts fs p = false → SomeR m ts (left.eraseIdx i) fs) := by
  obtain ⟨hil, hip⟩ := List.getElem?_eq_some_iff.mp hi
  have hpl : p ∈ left := List.mem_of_getElem? hi
  have sub : ∀ x ∈ left.eraseIdx i, x ∈ left ∧ x ≠ p := fun x hx => by
    refine ⟨List.mem_of_mem_eraseIdx hx, fun e => ?_⟩
    subst e
    have pp := pop_perm hil
    rw [hip] at pp
    have := (pp.nodup_iff).mpr R.nd
    exact (List.nodup_cons.mp this).1 hx
  have kept : ∀ x ∈ left, x = p ∨ x ∈ left.eraseIdx i := fun x hx => by
    have pp := pop_perm hil
    rw [hip] at pp
    have := (pp.mem_iff).mpr hx
    simpa using this
  have nd' : (left.eraseIdx i).Nodup := R.nd.sublist (List.eraseIdx_sublist _ _)
  constructor
  · intro hs
    have hs' : ∀ q ∈ fs, ¬ Tied ts p q := of_decide_eq_true hs
    refine ⟨?_, fun x hx => ?_, fun x hx => R.ll x (sub x hx).1, nd', fun x hx h => ?_, fun a ha b hb ht => ?_, fun q hq => ?_⟩
    · have h1 := sorted_I (fs ++ [p])
      have h2 : ((fs ++ [p]).mergeSort fun a b => decide (a ≤ b)).Nodup := (List.mergeSort_perm _ _).nodup_iff.mpr (List.nodup_append.mpr ⟨R.up.imp (fun {a b} h => by omega), List.Pairwise.cons (fun _ h => nomatch h) .nil, fun a ha b hb e => by
        rw [List.mem_singleton.mp hb] at e
        rw [e] at ha
        exact R.no p hpl ha⟩)
      exact List.Pairwise.imp₂ (fun a b h1 h2 => by omega) h1 h2
    · rcases mem_ins.mp hx with z | z
      · exact R.lt x z
      · rw [z]; exact R.ll p hpl
    · rcases mem_ins.mp h with z | z
      · exact R.no x (sub x hx).1 z
      · exact (sub x hx).2 z
    · rcases mem_ins.mp ha with z | z <;> rcases mem_ins.mp hb with y | y
      · exact R.free a z b y ht
      · rw [y] at ht; exact hs' a z ht.symm
      · rw [z] at ht; exact hs' b y ht
      · rw [z, y] at ht; exact T.ne p ht
    · rcases R.all q hq with z | z | ⟨r, h1, h2⟩
      · rcases kept q z with y | y
        · exact .inr (.inl (mem_ins.mpr (.inr y)))
        · exact .inl y
      · exact .inr (.inl (mem_ins.mpr (.inl z)))
      · exact .inr (.inr ⟨r, mem_ins.mpr (.inl h1), h2⟩)
  · intro hs
    refine ⟨R.up, R.lt, fun x hx => R.ll x (sub x hx).1, nd', fun x hx => R.no x (sub x hx).1, R.free, fun q hq => ?_⟩
    rcases R.all q hq with z | z | z
    · rcases kept q z with y | y
      · have : ¬ (∀ r ∈ fs, ¬ Tied ts p r) := of_decide_eq_false hs
        rw [y]
        refine .inr (.inr ?_)
        exact Classical.byContradiction fun n => this fun r hr ht => n ⟨r, hr, ht⟩
      · exact .inl y
    · exact .inr (.inl z)
    · exact .inr (.inr z)
end

/-! harms judged: by the program, by the law -/
section
variable {G : GS} [HasF G 0 f0] [HasF G 1 f1] [HasF G 2 f2] [HasF G 7 f7] [HasF G 19 f19] [HasF G 29 f29] [HasF G 30 f30] [HasC G 0 kl0] [HasG G 0 (.int 24)]
variable {n m : Nat} {ts : List (Nat × Nat)} {ns ps : List Nat} {w : M}
end
section
variable {G : GS} [HasF G 17 f17] [HasF G 18 f18]
variable {n m : Nat} {ts : List (Nat × Nat)} {ns : List Nat}
end

/-! a thing is equal to itself; lots as data -/
mutual
theorem eqv_self : ∀ p : PyData, p.canLay0 = true → PyData.eqv p p = true
  | .none, _ => by simp [PyData.eqv]
  | .bool b, _ => by simp [PyData.eqv]
  | .int i, _ => by simp [PyData.eqv]
  | .str x, _ => by simp [PyData.eqv]
  | .list xs, h => by
    simp only [PyData.eqv]
    exact eqv_selfs xs (by simpa only [PyData.canLay0] using h)
  | .tuple xs, h => by
    simp only [PyData.eqv]
    exact eqv_selfs xs (by simpa only [PyData.canLay0] using h)
  | .dict _, h => by simp [PyData.canLay0] at h
theorem eqv_selfs : ∀ ps : List PyData, PyData.canLayAll0 ps = true → PyData.eqvAll ps ps = true
  | [], _ => by simp [PyData.eqvAll]
  | p :: ps, h => by
    simp only [PyData.canLayAll0, Bool.and_eq_true] at h
    simp only [PyData.eqvAll, Bool.and_eq_true]
    exact ⟨eqv_self p h.1, eqv_selfs ps h.2⟩
end
theorem eqD_self {d : D} {p : PyData} (h : toPy d = some p) (hs : SeqAt.shaped p = true) : eqD d d = some true := by
  unfold eqD
  rw [h]
  simp only
  rw [hs, Bool.and_self, if_pos rfl]
  congr 1
  exact eqv_self p (SeqAt.canLay_of_shaped hs)
/-! lots in order; all lots of so many numbers -/
/-- the order of lots -/
noncomputable def leL (a b : List Nat) : Bool := decide (a.map (fun (c : Nat) => (c : Int)) ≤ b.map (fun (c : Nat) => (c : Int)))
theorem leL_tr (a b c : List Nat) (h1 : leL a b = true) (h2 : leL b c = true) : leL a c = true := by
  unfold leL at *
  exact decide_eq_true (Std.le_trans (of_decide_eq_true h1) (of_decide_eq_true h2))
theorem leL_tot (a b : List Nat) : (leL a b || leL b a) = true := by
  unfold leL
  rcases Std.le_total (a := a.map fun (c : Nat) => (c : Int)) (b := b.map fun (c : Nat) => (c : Int)) with h | h
  · rw [decide_eq_true h]; rfl
  · rw [decide_eq_true h, Bool.or_true]
theorem cast_inj {a b : List Nat} (h : a.map (fun (c : Nat) => (c : Int)) = b.map fun (c : Nat) => (c : Int)) : a = b := by
  have : ∀ ns : List Nat, (ns.map fun (c : Nat) => (c : Int)).map Int.toNat = ns := fun ns => by
    rw [List.map_map]
    conv => rhs; rw [← List.map_id ns]
    exact List.map_congr_left fun x _ => Int.toNat_natCast x
  rw [← this a, h, this b]
theorem leL_anti (a b : List Nat) (h1 : leL a b = true) (h2 : leL b a = true) : a = b := by
  unfold leL at *
  exact cast_inj (Std.le_antisymm (of_decide_eq_true h1) (of_decide_eq_true h2))
/-- lists of lots without repetition, sorted, are told by what is in them -/
theorem lots_ext {xss yss : List (List Nat)} (hx : xss.Nodup) (hy : yss.Nodup) (h : ∀ ns, ns ∈ xss ↔ ns ∈ yss) : xss.mergeSort leL = yss.mergeSort leL := by
  have sx := List.pairwise_mergeSort (le := leL) leL_tr leL_tot xss
  have sy := List.pairwise_mergeSort (le := leL) leL_tr leL_tot yss
  have pm : (xss.mergeSort leL).Perm (yss.mergeSort leL) := (List.mergeSort_perm _ _).trans (((List.perm_ext_iff_of_nodup hx hy).mpr h).trans (List.mergeSort_perm _ _).symm)
  exact List.Perm.eq_of_pairwise (fun a b _ _ h1 h2 => leL_anti a b h1 h2) sx sy pm
/-- all lots of the numbers below one -/
noncomputable def lotsU : Nat → List (List Nat)
  | 0 => [[]]
  | m + 1 => lotsU m ++ (lotsU m).map (· ++ [m])
theorem mem_lotsU : ∀ {m : Nat} {ns : List Nat}, ns ∈ lotsU m ↔ ns.Pairwise (· < ·) ∧ ∀ x ∈ ns, x < m
  | 0, ns => by
    simp only [lotsU, List.mem_singleton]
    constructor
    · rintro rfl; exact ⟨.nil, fun _ h => nomatch h⟩
    · rintro ⟨-, h⟩
      cases ns with
      | nil => rfl
      | cons a as => exact absurd (h a (by simp)) (by omega)
  | m + 1, ns => by
    simp only [lotsU, List.mem_append, List.mem_map]
    constructor
    · rintro (h | ⟨ms, h, rfl⟩)
      · obtain ⟨h1, h2⟩ := mem_lotsU.mp h
        exact ⟨h1, fun x hx => by have := h2 x hx; omega⟩
      · obtain ⟨h1, h2⟩ := mem_lotsU.mp h
        refine ⟨List.pairwise_append.mpr ⟨h1, List.pairwise_singleton _ _, fun a ha b hb => ?_⟩, fun x hx => ?_⟩
        · rw [List.mem_singleton.mp hb]; exact h2 a ha
        · rcases List.mem_append.mp hx with z | z
          · have := h2 x z; omega
          · rw [List.mem_singleton.mp z]; omega
    · rintro ⟨h1, h2⟩
      by_cases hm : m ∈ ns
      · right
        refine ⟨ns.filter (· ≠ m), mem_lotsU.mpr ⟨h1.filter _, fun x hx => ?_⟩, ?_⟩
        · have hx' := List.mem_filter.mp hx
          have := h2 x hx'.1
          have : x ≠ m := by simpa using hx'.2
          omega
        · refine up_ext ?_ h1 fun i => ?_
          · refine List.pairwise_append.mpr ⟨h1.filter _, List.pairwise_singleton _ _, fun a ha b hb => ?_⟩
            rw [List.mem_singleton.mp hb]
            have ha' := List.mem_filter.mp ha
            have := h2 a ha'.1
            have : a ≠ m := by simpa using ha'.2
            omega
          · rw [List.mem_append, List.mem_filter, List.mem_singleton]
            constructor
            · rintro (z | z)
              · exact z.1
              · rw [z]; exact hm
            · intro z
              by_cases e : i = m
              · exact .inr e
              · exact .inl ⟨z, by simpa using e⟩
      · left
        exact mem_lotsU.mpr ⟨h1, fun x hx => by
          have := h2 x hx
          have : x ≠ m := fun e => hm (e ▸ hx)
          omega⟩
theorem lotsU_len : ∀ m : Nat, (lotsU m).length = 2 ^ m
  | 0 => rfl
  | m + 1 => by rw [lotsU, List.length_append, List.length_map, lotsU_len m, Nat.pow_succ]; omega
theorem lotsU_nodup : ∀ m : Nat, (lotsU m).Nodup
  | 0 => by simp [lotsU]
  | m + 1 => by
    rw [lotsU]
    refine List.nodup_append.mpr ⟨lotsU_nodup m, ?_, fun a ha b hb e => ?_⟩
    · refine List.Pairwise.map _ (fun a b h e => h ?_) (lotsU_nodup m)
      exact List.append_cancel_right e
    · subst e
      obtain ⟨c, hc, rfl⟩ := List.mem_map.mp hb
      have := (mem_lotsU.mp ha).2 m (by simp)
      omega
/-- the rests, ascending -/
noncomputable def restsL (m : Nat) (ts : List (Nat × Nat)) : List (List Nat) := ((lotsU m).mergeSort leL).filter (restF m ts)
theorem mem_restsL {m : Nat} {ts : List (Nat × Nat)} {ns : List Nat} : ns ∈ restsL m ts ↔ (ns.Pairwise (· < ·) ∧ ∀ x ∈ ns, x < m) ∧ restF m ts ns = true := by
  unfold restsL
  rw [List.mem_filter, (List.mergeSort_perm _ _).mem_iff, mem_lotsU]
theorem restsL_up {m : Nat} {ts : List (Nat × Nat)} : (restsL m ts).Pairwise fun a b => leL a b = true := (List.pairwise_mergeSort (le := leL) leL_tr leL_tot _).filter _
theorem restsL_nodup {m : Nat} {ts : List (Nat × Nat)} : (restsL m ts).Nodup := ((List.mergeSort_perm _ _).nodup_iff.mpr (lotsU_nodup m)).filter _
section
variable {G : GS} [HasF G 17 f17] [HasF G 18 f18]
variable {n m : Nat} {ts : List (Nat × Nat)} {ns : List Nat}
end
/-! stands as keys of dicts; all stands that calls lead to -/
noncomputable def kL (ns : List Nat) : List L2.Key := ns.map fun (x : Nat) => Sum.inl (x : Int)
theorem nodup_len {α : Type} [DecidableEq α] : ∀ {xs ys : List α}, xs.Nodup → (∀ x ∈ xs, x ∈ ys) → xs.length ≤ ys.length
  | [], _, _, _ => Nat.zero_le _
  | x :: xs, ys, h, s => by
    have hx : x ∈ ys := s x (by simp)
    have h1 := List.nodup_cons.mp h
    have := nodup_len (xs := xs) (ys := ys.erase x) h1.2 fun y hy => by
      have ne : y ≠ x := fun e => h1.1 (e ▸ hy)
      exact (List.mem_erase_of_ne ne).mpr (s y (by simp [hy]))
    rw [List.length_erase_of_mem hx] at this
    have := List.length_pos_of_mem hx
    rw [List.length_cons]; omega
/-- a stand is come to -/
noncomputable def Rch (m : Nat) (ts : List (Nat × Nat)) (s t : List Nat) : Prop := ∃ ps : List Nat, (∀ p ∈ ps, p < m) ∧ rowF ts s ps = t
theorem Rch.refl {m : Nat} {ts : List (Nat × Nat)} {s : List Nat} : Rch m ts s s := ⟨[], fun _ h => (nomatch h), rfl⟩
theorem Rch.step {m : Nat} {ts : List (Nat × Nat)} {s t : List Nat} {p : Nat} (h : Rch m ts s t) (hp : p < m) : Rch m ts s (behindF ts t p) := by
  obtain ⟨ps, h1, rfl⟩ := h
  refine ⟨ps ++ [p], fun q hq => ?_, rowF_snoc⟩
  rcases List.mem_append.mp hq with z | z
  · exact h1 q z
  · rw [List.mem_singleton.mp z]; exact hp
theorem Rch.inv {m : Nat} {ts : List (Nat × Nat)} {P : List Nat → Prop} {s t : List Nat} (h0 : P s) (hs : ∀ x p, P x → p < m → P (behindF ts x p)) (h : Rch m ts s t) : P t := by
  obtain ⟨ps, h1, rfl⟩ := h
  induction ps generalizing s with
  | nil => exact h0
  | cons p ps ih => exact ih (hs s p h0 (h1 p (by simp))) fun q hq => h1 q (by simp [hq])
structure Bfs (m : Nat) (ts : List (Nat × Nat)) (s : List Nat) (K W : List (List Nat)) (h : List Nat) (k : Nat) : Prop where
  nd : K.Nodup
  sub : ∀ x ∈ W, x ∈ K
  ok : ∀ x ∈ K, (x.Pairwise (· < ·) ∧ ∀ i ∈ x, i < m) ∧ Rch m ts s x
  s0 : s ∈ K
  cl : ∀ x ∈ K, x ∈ W ∨ (∀ p, p < m → behindF ts x p ∈ K) ∨ (x = h ∧ ∀ p, p < k → behindF ts x p ∈ K)
  hK : k < m → h ∈ K
section
variable {m k : Nat} {ts : List (Nat × Nat)} {s h : List Nat} {K W : List (List Nat)}
theorem Bfs.begin (h1 : s.Pairwise (· < ·)) (h2 : ∀ i ∈ s, i < m) : Bfs m ts s [s] [s] s m :=
  ⟨by simp, fun x hx => hx, fun x hx => by rw [List.mem_singleton.mp hx]; exact ⟨⟨h1, h2⟩, .refl⟩, by simp, fun x hx => .inl hx, fun h => absurd h (by omega)⟩
theorem Bfs.len (B : Bfs m ts s K W h k) : K.length ≤ 2 ^ m := by
  rw [← lotsU_len m]
  exact nodup_len B.nd fun x hx => mem_lotsU.mpr (B.ok x hx).1
theorem Bfs.pop {W' : List (List Nat)} {g : List Nat} (B : Bfs m ts s K (W' ++ [g]) h m) : Bfs m ts s K W' g 0 := by
  refine ⟨B.nd, fun x hx => B.sub x (by simp [hx]), B.ok, B.s0, fun x hx => ?_, fun _ => B.sub g (by simp)⟩
  rcases B.cl x hx with z | z | z
  · rcases List.mem_append.mp z with y | y
    · exact .inl y
    · exact .inr (.inr ⟨List.mem_singleton.mp y, fun p hp => absurd hp (by omega)⟩)
  · exact .inr (.inl z)
  · exact .inr (.inl z.2)
theorem Bfs.old (B : Bfs m ts s K W h k) (hin : behindF ts h k ∈ K) : Bfs m ts s K W h (k + 1) := by
  refine ⟨B.nd, B.sub, B.ok, B.s0, fun x hx => ?_, fun q => B.hK (by omega)⟩
  rcases B.cl x hx with z | z | ⟨rfl, z⟩
  · exact .inl z
  · exact .inr (.inl z)
  · refine .inr (.inr ⟨rfl, fun p hp => ?_⟩)
    by_cases e : p = k
    · rw [e]; exact hin
    · exact z p (by omega)
theorem Bfs.new (B : Bfs m ts s K W h k) (hk : k < m) (hno : behindF ts h k ∉ K) : Bfs m ts s (K ++ [behindF ts h k]) (W ++ [behindF ts h k]) h (k + 1) := by
  have hh := B.ok h (B.hK hk)
  have nin : ∀ x ∈ K, x ∈ K ++ [behindF ts h k] := fun x hx => List.mem_append_left _ hx
  refine ⟨List.nodup_append.mpr ⟨B.nd, by simp, fun a ha b hb e => hno (by rw [List.mem_singleton.mp hb] at e; exact e ▸ ha)⟩, fun x hx => ?_, fun x hx => ?_, nin _ B.s0, fun x hx => ?_, fun q => nin _ (B.hK hk)⟩
  · rcases List.mem_append.mp hx with z | z
    · exact nin x (B.sub x z)
    · exact List.mem_append_right _ z
  · rcases List.mem_append.mp hx with z | z
    · exact B.ok x z
    · rw [List.mem_singleton.mp z]
      exact ⟨⟨behind_up hh.1.1, behind_lt hh.1.2 hk⟩, hh.2.step hk⟩
  · rcases List.mem_append.mp hx with z | z
    · rcases B.cl x z with y | y | ⟨rfl, y⟩
      · exact .inl (List.mem_append_left _ y)
      · exact .inr (.inl fun p hp => nin _ (y p hp))
      · refine .inr (.inr ⟨rfl, fun p hp => ?_⟩)
        by_cases e : p = k
        · rw [e]; exact List.mem_append_right _ (by simp)
        · exact nin _ (y p (by omega))
    · exact .inl (List.mem_append_right _ z)
theorem Bfs.done (B : Bfs m ts s K [] h m) {t : List Nat} : t ∈ K ↔ Rch m ts s t := by
  have cl : ∀ x ∈ K, ∀ p, p < m → behindF ts x p ∈ K := fun x hx p hp => by
    rcases B.cl x hx with z | z | z
    · cases z
    · exact z p hp
    · exact z.2 p hp
  exact ⟨fun q => (B.ok t q).2, fun q => Rch.inv (P := fun x => x ∈ K) B.s0 (fun x p hx hp => cl x hx p hp) q⟩
open Classical in
/-- the rests to which calls lead, ascending -/
noncomputable def endsL (m : Nat) (ts : List (Nat × Nat)) (s : List Nat) : List (List Nat) := (restsL m ts).filter fun r => decide (Rch m ts s r)
open Classical in
theorem mem_endsL {r : List Nat} : r ∈ endsL m ts s ↔ r ∈ restsL m ts ∧ Rch m ts s r := by
  unfold endsL
  rw [List.mem_filter, decide_eq_true_eq]
theorem Bfs.ends (B : Bfs m ts s K [] h m) : (K.filter (restF m ts)).mergeSort leL = endsL m ts s := by
  have e1 : (endsL m ts s).mergeSort leL = endsL m ts s := List.mergeSort_of_pairwise (restsL_up.filter _)
  rw [← e1]
  refine lots_ext (B.nd.filter _) (restsL_nodup.filter _) fun ns => ?_
  rw [List.mem_filter, mem_endsL, mem_restsL, B.done]
  constructor
  · rintro ⟨h1, h2⟩
    exact ⟨⟨(B.ok ns (B.done.mpr h1)).1, h2⟩, h1⟩
  · rintro ⟨⟨_, h2⟩, h1⟩
    exact ⟨h1, h2⟩
end
section
variable {G : GS} [HasF G 17 f17] [HasF G 18 f18]
variable {n m : Nat} {ts : List (Nat × Nat)} {ns : List Nat}
end

/-! pieces: parts that hang together -/
/-- come to by ties among some parts -/
inductive Conn (ts : List (Nat × Nat)) (B : Nat) : Nat → Nat → Prop where
  | refl (p : Nat) : Conn ts B p p
  | step {p q r : Nat} : Conn ts B p q → Tied ts q r → B.testBit r = true → Conn ts B p r
theorem Conn.trans {ts : List (Nat × Nat)} {B p q r : Nat} (h1 : Conn ts B p q) (h2 : Conn ts B q r) : Conn ts B p r := by
  induction h2 with
  | refl => exact h1
  | step _ t b ih => exact .step ih t b
theorem Conn.inB {ts : List (Nat × Nat)} {B p q : Nat} (hp : B.testBit p = true) (h : Conn ts B p q) : B.testBit q = true := by
  cases h with
  | refl => exact hp
  | step _ _ b => exact b
theorem Conn.symm {ts : List (Nat × Nat)} {B p q : Nat} (hp : B.testBit p = true) (h : Conn ts B p q) : Conn ts B q p := by
  induction h with
  | refl => exact .refl _
  | step h1 t b ih => exact (Conn.step (.refl _) t.symm (h1.inB hp)).trans ih
theorem Conn.sub {ts : List (Nat × Nat)} {B C p q : Nat} (h : Conn ts C p q) (hs : ∀ i, C.testBit i = true → B.testBit i = true) : Conn ts B p q := by
  induction h with
  | refl => exact .refl _
  | step _ t b ih => exact .step ih t (hs _ b)
open Classical in
/-- the piece with a part -/
noncomputable def pieceF (m : Nat) (ts : List (Nat × Nat)) (B p : Nat) : Nat := bm ((List.range m).filter fun q => decide (Conn ts B p q))
open Classical in
theorem piece_bit {m : Nat} {ts : List (Nat × Nat)} {B p q : Nat} (hB : ∀ i, B.testBit i = true → i < m) (hp : B.testBit p = true) : (pieceF m ts B p).testBit q = true ↔ Conn ts B p q := by
  unfold pieceF
  rw [bm_bit, decide_eq_true_eq, List.mem_filter, List.mem_range, decide_eq_true_eq]
  exact ⟨fun h => h.2, fun h => ⟨hB q (h.inB hp), h⟩⟩
theorem ne_bit {b : Nat} (h : b ≠ 0) : ∃ i, b.testBit i = true := Nat.exists_testBit_of_ne_zero h
/-- a piece as it is found -/
structure Pce (m : Nat) (ts : List (Nat × Nat)) (B p f e : Nat) : Prop where
  sub : ∀ i, e.testBit i = true → f.testBit i = true
  has : f.testBit p = true
  ok : ∀ i, f.testBit i = true → Conn ts B p i
  cl : ∀ i, f.testBit i = true → e.testBit i = true ∨ ∀ j, Tied ts i j → B.testBit j = true → f.testBit j = true
section
variable {m : Nat} {ts : List (Nat × Nat)} {B p f e : Nat}
theorem Pce.step (T : Ties m ts) (P : Pce m ts B p f e) : Pce m ts B p (f ||| andN (silF ts (lotOf e) &&& B) f) (andN (silF ts (lotOf e) &&& B) f) := by
  have lt1 : ∀ q ∈ ts, q.1 < q.2 := fun q hq => (T.lt q hq).1
  have sil : ∀ j, (andN (silF ts (lotOf e) &&& B) f).testBit j = true ↔ (∃ q, e.testBit q = true ∧ Tied ts q j) ∧ B.testBit j = true ∧ f.testBit j = false := fun j => by
    rw [andN_bit, Nat.testBit_and, Bool.and_eq_true, Bool.and_eq_true, silF_bit ts lt1, Bool.not_eq_true', and_assoc]
    exact and_congr ⟨fun ⟨q, h1, h2⟩ => ⟨q, mem_lotOf.mp h1, h2⟩, fun ⟨q, h1, h2⟩ => ⟨q, mem_lotOf.mpr h1, h2⟩⟩ Iff.rfl
  have bit : ∀ i, (f ||| andN (silF ts (lotOf e) &&& B) f).testBit i = true ↔ f.testBit i = true ∨ (andN (silF ts (lotOf e) &&& B) f).testBit i = true := fun i => by rw [Nat.testBit_or, Bool.or_eq_true]
  refine ⟨fun i hi => (bit i).mpr (.inr hi), (bit p).mpr (.inl P.has), fun i hi => ?_, fun i hi => ?_⟩
  · rcases (bit i).mp hi with z | z
    · exact P.ok i z
    · obtain ⟨⟨q, h1, h2⟩, h3, _⟩ := (sil i).mp z
      exact .step (P.ok q (P.sub q h1)) h2 h3
  · rcases (bit i).mp hi with z | z
    · right
      intro j ht hj
      rcases P.cl i z with y | y
      · cases hf : f.testBit j with
        | true => exact (bit j).mpr (.inl hf)
        | false => exact (bit j).mpr (.inr ((sil j).mpr ⟨⟨i, y, ht⟩, hj, hf⟩))
      · exact (bit j).mpr (.inl (y j ht hj))
    · exact .inl z
theorem Pce.done (hB : ∀ i, B.testBit i = true → i < m) (hp : B.testBit p = true) (P : Pce m ts B p f 0) : f = pieceF m ts B p := by
  apply Nat.eq_of_testBit_eq
  intro i
  rw [Bool.eq_iff_iff, piece_bit hB hp]
  refine ⟨P.ok i, fun h => ?_⟩
  induction h with
  | refl => exact P.has
  | step _ t b ih =>
    rcases P.cl _ ih with z | z
    · simp at z
    · exact z _ t b
theorem Pce.begin : Pce m ts B p (2 ^ p) (2 ^ p) := by
  have bit : ∀ i, (2 ^ p : Nat).testBit i = true ↔ i = p := fun i => by
    rw [Nat.testBit_two_pow, decide_eq_true_eq]; exact eq_comm
  exact ⟨fun i h => h, (bit p).mpr rfl, fun i h => by rw [(bit i).mp h]; exact .refl _, fun i h => .inl h⟩
end
section
variable {G : GS} [HasF G 19 f19] [HasF G 29 f29] [HasF G 30 f30] [HasF G 0 f0] [HasF G 1 f1] [HasF G 2 f2] [HasF G 7 f7] [HasC G 0 kl0]
variable {n m : Nat} {ts : List (Nat × Nat)} {B p : Nat} {w : M}
/-- lumps of some parts -/
structure Lmps (m : Nat) (ts : List (Nat × Nat)) (B : Nat) (gs : List Nat) (C : Nat) : Prop where
  all : ∀ i, B.testBit i = true ↔ C.testBit i = true ∨ ∃ g ∈ gs, g.testBit i = true
  pc : ∀ g ∈ gs, ∃ p, B.testBit p = true ∧ g = pieceF m ts B p
  off : ∀ g ∈ gs, ∀ i, g.testBit i = true → C.testBit i = false
  cl : ∀ i j, C.testBit i = true → Conn ts B i j → C.testBit j = true
  dis : gs.Pairwise fun g h => ∀ i, ¬ (g.testBit i = true ∧ h.testBit i = true)
theorem conn_in {C i j : Nat} (hC : ∀ i j, C.testBit i = true → Conn ts B i j → C.testBit j = true) (hi : C.testBit i = true) (h : Conn ts B i j) : Conn ts C i j := by
  induction h with
  | refl => exact .refl _
  | step h1 t b ih => exact .step ih t (hC _ _ hi (.step h1 t b))
theorem Lmps.step {gs : List Nat} {C q : Nat} (hB : ∀ i, B.testBit i = true → i < m) (L : Lmps m ts B gs C) (hq : C.testBit q = true) : Lmps m ts B (gs ++ [pieceF m ts C q]) (andN C (pieceF m ts C q)) := by
  have sub : ∀ i, C.testBit i = true → B.testBit i = true := fun i hi => (L.all i).mpr (.inl hi)
  have hC : ∀ i, C.testBit i = true → i < m := fun i hi => hB i (sub i hi)
  have same : ∀ i, (pieceF m ts C q).testBit i = true ↔ Conn ts B q i := fun i => by
    rw [piece_bit hC hq]
    exact ⟨fun h => h.sub sub, fun h => conn_in L.cl hq h⟩
  have eqp : pieceF m ts C q = pieceF m ts B q := by
    apply Nat.eq_of_testBit_eq
    intro i
    rw [Bool.eq_iff_iff, same, piece_bit hB (sub q hq)]
  have bit : ∀ i, (andN C (pieceF m ts C q)).testBit i = true ↔ C.testBit i = true ∧ ¬ Conn ts B q i := fun i => by
    rw [andN_bit, Bool.and_eq_true, Bool.not_eq_true', ← Bool.not_eq_true, same]
  refine ⟨fun i => ?_, fun g hg => ?_, fun g hg i hi => ?_, fun i j hi hj => ?_, List.pairwise_append.mpr ⟨L.dis, List.pairwise_singleton _ _, fun g hg h hh i hi => ?_⟩⟩
  · rw [L.all i, bit]
    constructor
    · rintro (h | ⟨g, h1, h2⟩)
      · by_cases c : Conn ts B q i
        · exact .inr ⟨_, by simp, (same i).mpr c⟩
        · exact .inl ⟨h, c⟩
      · exact .inr ⟨g, by simp [h1], h2⟩
    · rintro (h | ⟨g, h1, h2⟩)
      · exact .inl h.1
      · rcases List.mem_append.mp h1 with z | z
        · exact .inr ⟨g, z, h2⟩
        · rw [List.mem_singleton.mp z, same] at h2
          exact .inl (L.cl q i hq h2)
  · rcases List.mem_append.mp hg with z | z
    · exact L.pc g z
    · rw [List.mem_singleton.mp z]
      exact ⟨q, sub q hq, eqp⟩
  · rw [← Bool.not_eq_true, bit]
    rintro ⟨h1, h2⟩
    rcases List.mem_append.mp hg with z | z
    · rw [L.off g z i hi] at h1; cases h1
    · rw [List.mem_singleton.mp z, same] at hi
      exact h2 hi
  · rw [bit] at hi ⊢
    exact ⟨L.cl i j hi.1 hj, fun h => hi.2 (h.trans (hj.symm (sub i hi.1)))⟩
  · rw [List.mem_singleton.mp hh] at hi
    obtain ⟨h1, h2⟩ := hi
    rw [same] at h2
    have := L.cl q i hq h2
    rw [L.off g hg i h1] at this
    cases this
end

/-! a law's source of numbers (laws k17 to k32) -/
section
variable {G : GS}
end

/-! a law's own web: bits (laws k17 to k32) -/
section
variable {G : GS} [HasC G 0 kl0] [HasF G 0 f0] [HasF G 1 f1] [HasF G 17 f17] [HasF G 18 f18] [HasF G 19 f19] [HasF G 2 f2] [HasF G 21 f21] [HasF G 29 f29] [HasF G 30 f30] [HasF G 7 f7]
variable {n m b p : Nat} {ts : List (Nat × Nat)} {ns : List Nat}
/-- a lump as it grows -/
structure Grow (m : Nat) (ts : List (Nat × Nat)) (C l f : Nat) : Prop where
  has : f.testBit l = true
  ok : ∀ i, f.testBit i = true → Conn ts C l i
theorem Grow.done (T : Ties m ts) {C l f : Nat} (hC : ∀ i, C.testBit i = true → i < m) (hl : C.testBit l = true) (g : Grow m ts C l f) (h : ∀ q, q < m → C.testBit q = true → f.testBit q = false → nearF ts q &&& f = 0) : f = pieceF m ts C l := by
  have lt1 : ∀ q ∈ ts, q.1 < q.2 := fun q hq => (T.lt q hq).1
  apply Nat.eq_of_testBit_eq
  intro i
  rw [Bool.eq_iff_iff, piece_bit hC hl]
  refine ⟨g.ok i, fun c => ?_⟩
  induction c with
  | refl => exact g.has
  | @step q r _ t b ih =>
    cases e : f.testBit r with
    | true => rfl
    | false =>
      have := congrArg (Nat.testBit · q) (h r (hC r b) b e)
      simp only [Nat.testBit_and, Nat.zero_testBit, ih, (nearF_bit ts lt1 r q).mpr t.symm, Bool.and_self] at this
      cases this
theorem Grow.put (T : Ties m ts) {C l f q : Nat} (g : Grow m ts C l f) (hq : C.testBit q = true) (h : nearF ts q &&& f ≠ 0) : Grow m ts C l (f ||| 2 ^ q) := by
  have lt1 : ∀ q ∈ ts, q.1 < q.2 := fun q hq => (T.lt q hq).1
  refine ⟨by rw [Nat.testBit_or, g.has]; rfl, fun i hi => ?_⟩
  rw [Nat.testBit_or, Nat.testBit_two_pow, Bool.or_eq_true, decide_eq_true_eq] at hi
  rcases hi with z | z
  · exact g.ok i z
  · subst z
    obtain ⟨j, hj⟩ := ne_bit h
    rw [Nat.testBit_and, Bool.and_eq_true] at hj
    exact .step (g.ok j hj.2) ((nearF_bit ts lt1 q j).mp hj.1).symm hq
end

/-! how far calls lead: layers of stands, as bits -/
noncomputable def rowN (ts : List (Nat × Nat)) (b : Nat) (ps : List Nat) : Nat := ps.foldl (afterF ts) b
theorem rowN_snoc {ts : List (Nat × Nat)} {b p : Nat} {ps : List Nat} : rowN ts b (ps ++ [p]) = afterF ts (rowN ts b ps) p := by unfold rowN; rw [List.foldl_append]; rfl
theorem afterN_lt {m : Nat} {ts : List (Nat × Nat)} {b p : Nat} (hb : ∀ i, b.testBit i = true → i < m) (hp : p < m) : ∀ i, (afterF ts b p).testBit i = true → i < m := fun i hi => by
  unfold afterF at hi
  split at hi
  · rw [Nat.testBit_or, Nat.testBit_two_pow, Bool.or_eq_true, decide_eq_true_eq] at hi
    rcases hi with z | z
    · exact hb i z
    · omega
  · rw [andN_bit, Bool.and_eq_true] at hi
    exact hb i hi.1
theorem bits_lt {m b : Nat} (hb : ∀ i, b.testBit i = true → i < m) : b < 2 ^ m := Nat.lt_pow_two_of_testBit _ fun i hi => by
  cases e : b.testBit i with
  | false => rfl
  | true => exact absurd (hb i e) (by omega)
structure Keys (m : Nat) (ts : List (Nat × Nat)) (B : Nat) (ps : List (Nat × Nat)) : Prop where
  nd : (ps.map (·.1)).Nodup
  lt : ∀ q ∈ ps, ∀ i, q.1.testBit i = true → i < m
  ok : ∀ q ∈ ps, ∃ row : List Nat, (∀ p ∈ row, p < m) ∧ row.length = q.2 ∧ rowN ts B row = q.1
theorem Keys.len {m : Nat} {ts : List (Nat × Nat)} {B : Nat} {ps : List (Nat × Nat)} (K : Keys m ts B ps) : ps.length ≤ 2 ^ m := by
  have := nodup_len K.nd (ys := List.range (2 ^ m)) fun x hx => by
    obtain ⟨q, hq, rfl⟩ := List.mem_map.mp hx
    exact List.mem_range.mpr (bits_lt (K.lt q hq))
  rwa [List.length_map, List.length_range] at this
/-- a layer -/
structure Wave (m : Nat) (ts : List (Nat × Nat)) (B : Nat) (ps : List (Nat × Nat)) (lay : List Nat) (d : Nat) : Prop where
  keys : Keys m ts B ps
  all : ∀ row : List Nat, (∀ p ∈ row, p < m) → row.length ≤ d → ∃ v, (rowN ts B row, v) ∈ ps ∧ v ≤ row.length
  lay : ∀ x, x ∈ lay ↔ (x, d) ∈ ps
  top : ∀ q ∈ ps, q.2 ≤ d
/-- within a layer -/
structure Wav2 (m : Nat) (ts : List (Nat × Nat)) (B d : Nat) (ps0 ps : List (Nat × Nat)) (later : List Nat) (Dn : Nat → Nat → Prop) : Prop where
  keys : Keys m ts B ps
  old : ∀ q ∈ ps0, q ∈ ps
  new : ∀ q ∈ ps, q ∈ ps0 ∨ q.2 = d + 1
  lay : ∀ x, x ∈ later ↔ (x, d + 1) ∈ ps
  dn : ∀ x p, Dn x p → ∃ v, (afterF ts x p, v) ∈ ps
section
variable {m : Nat} {ts : List (Nat × Nat)} {B d : Nat} {ps ps0 : List (Nat × Nat)} {lay later : List Nat}
theorem Wave.begin (hB : ∀ i, B.testBit i = true → i < m) : Wave m ts B [(B, 0)] [B] 0 := by
  refine ⟨⟨by simp, fun q hq => ?_, fun q hq => ?_⟩, fun row hr hl => ?_, fun x => by simp, fun q hq => ?_⟩
  · rw [List.mem_singleton.mp hq]; exact hB
  · rw [List.mem_singleton.mp hq]; exact ⟨[], fun _ h => (nomatch h), rfl, rfl⟩
  · have : row = [] := List.eq_nil_of_length_eq_zero (by omega)
    subst this
    exact ⟨0, by simp [rowN], by simp⟩
  · rw [List.mem_singleton.mp hq]; exact Nat.le_refl _
theorem Wave.open (W : Wave m ts B ps lay d) : Wav2 m ts B d ps ps [] fun _ _ => False :=
  ⟨W.keys, fun _ h => h, fun _ h => .inl h, fun x => ⟨fun h => (nomatch h), fun h => absurd (W.top _ h) (by simp)⟩, fun _ _ h => h.elim⟩
theorem Wave.end (W : Wave m ts B ps [] d) : ∀ row : List Nat, (∀ p ∈ row, p < m) → ∃ v, (rowN ts B row, v) ∈ ps ∧ v ≤ row.length := by
  intro row
  induction row using List.reverseRecOn' with
  | h0 => exact fun h => W.all [] h (by simp)
  | h1 row p ih =>
    intro h
    obtain ⟨v, h1, h2⟩ := ih fun q hq => h q (by simp [hq])
    have h3 : v < d := by
      have := W.top _ h1
      refine Nat.lt_of_le_of_ne this fun e => ?_
      have e' : v = d := e
      rw [e'] at h1
      exact absurd ((W.lay _).mpr h1) (by simp)
    obtain ⟨r2, h4, h5, h6⟩ := W.keys.ok _ h1
    simp only at h5 h6
    obtain ⟨v2, h7, h8⟩ := W.all (r2 ++ [p]) (fun q hq => by
      rcases List.mem_append.mp hq with z | z
      · exact h4 q z
      · exact h q (by simp [List.mem_singleton.mp z])) (by rw [List.length_append, List.length_singleton]; omega)
    rw [rowN_snoc, h6, ← rowN_snoc] at h7
    rw [List.length_append, List.length_singleton] at h8 ⊢
    exact ⟨v2, h7, by omega⟩
theorem Wav2.mono {D1 D2 : Nat → Nat → Prop} (V : Wav2 m ts B d ps0 ps later D1) (h : ∀ x p, D2 x p → D1 x p) : Wav2 m ts B d ps0 ps later D2 := ⟨V.keys, V.old, V.new, V.lay, fun x p q => V.dn x p (h x p q)⟩
theorem Wav2.put {Dn : Nat → Nat → Prop} {x p : Nat} (V : Wav2 m ts B d ps0 ps later Dn) (hx : (x, d) ∈ ps) (hp : p < m) (hin : afterF ts x p ∉ ps.map (·.1)) : Wav2 m ts B d ps0 (ps ++ [(afterF ts x p, d + 1)]) (later ++ [afterF ts x p]) fun y q => Dn y q ∨ (y = x ∧ q = p) := by
  refine ⟨⟨?_, fun q hq => ?_, fun q hq => ?_⟩, fun q hq => by simp [V.old q hq], fun q hq => ?_, fun y => ?_, fun y q h => ?_⟩
  · rw [List.map_append]
    refine List.nodup_append.mpr ⟨V.keys.nd, by simp, fun a ha b hb e => ?_⟩
    simp only [List.map_cons, List.map_nil, List.mem_singleton] at hb
    rw [e, hb] at ha
    exact hin ha
  · rcases List.mem_append.mp hq with z | z
    · exact V.keys.lt q z
    · rw [List.mem_singleton.mp z]
      exact afterN_lt (V.keys.lt _ hx) hp
  · rcases List.mem_append.mp hq with z | z
    · exact V.keys.ok q z
    · rw [List.mem_singleton.mp z]
      obtain ⟨r, h1, h2, h3⟩ := V.keys.ok _ hx
      refine ⟨r ++ [p], fun q hq => ?_, by rw [List.length_append, h2]; rfl, by rw [rowN_snoc, h3]⟩
      rcases List.mem_append.mp hq with z | z
      · exact h1 q z
      · rw [List.mem_singleton.mp z]; exact hp
  · rcases List.mem_append.mp hq with z | z
    · exact V.new q z
    · rw [List.mem_singleton.mp z]; exact .inr rfl
  · rw [List.mem_append, List.mem_append, V.lay, List.mem_singleton, List.mem_singleton]
    constructor
    · rintro (h | h)
      · exact .inl h
      · exact .inr (by rw [h])
    · rintro (h | h)
      · exact .inl h
      · exact .inr (by injection h)
  · rcases h with h | ⟨rfl, rfl⟩
    · obtain ⟨v, hv⟩ := V.dn y q h
      exact ⟨v, by simp [hv]⟩
    · exact ⟨d + 1, by simp⟩
end
section
variable {G : GS} [HasC G 0 kl0] [HasF G 0 f0] [HasF G 1 f1] [HasF G 17 f17] [HasF G 18 f18] [HasF G 19 f19] [HasF G 2 f2] [HasF G 21 f21] [HasF G 29 f29] [HasF G 30 f30] [HasF G 7 f7]
variable {n m : Nat} {ts : List (Nat × Nat)}
end

/-! how many greatest free lots of some parts there are that silence others, too (plain) -/
theorem nodup_map_on {α β : Type} {f : α → β} {l : List α} (nd : l.Nodup) (h : ∀ a ∈ l, ∀ b ∈ l, f a = f b → a = b) : (l.map f).Nodup :=
  List.pairwise_map.mpr (List.Pairwise.imp_of_mem (fun {a b} ha hb hab e => hab (h a ha b hb e)) nd)
section
variable {m : Nat} {ts : List (Nat × Nat)}
theorem andN_iff {a b i : Nat} : (andN a b).testBit i = true ↔ a.testBit i = true ∧ ¬ b.testBit i = true := by rw [andN_bit, Bool.and_eq_true, Bool.not_eq_true', Bool.not_eq_true]
/-- blocks that are not tied to one another -/
structure Blk (ts : List (Nat × Nat)) (U : Nat) (gs : List Nat) : Prop where
  all : ∀ i, U.testBit i = true ↔ ∃ g ∈ gs, g.testBit i = true
  dis : gs.Pairwise fun g h => (∀ i, ¬ (g.testBit i = true ∧ h.testBit i = true)) ∧ ∀ i j, g.testBit i = true → h.testBit j = true → ¬ Tied ts i j
theorem Lmps.blk {B : Nat} (hB : ∀ i, B.testBit i = true → i < m) {gs : List Nat} (L : Lmps m ts B gs 0) : Blk ts B gs := by
  refine ⟨fun i => ?_, List.Pairwise.imp_of_mem (fun {g h} hg hh q => ⟨q, fun i j hi hj t => ?_⟩) L.dis⟩
  · rw [L.all i]; simp
  · obtain ⟨p, hp, e⟩ := L.pc g hg
    have hj2 : B.testBit j = true := (L.all j).mpr (.inr ⟨h, hh, hj⟩)
    refine q j ⟨?_, hj⟩
    rw [e, piece_bit hB hp] at hi ⊢
    exact .step hi t hj2
end

/-! rests: fork, Counter, listed_from -/
theorem up_nodup {ns : List Nat} (h : ns.Pairwise (· < ·)) : ns.Nodup := h.imp fun h => Nat.ne_of_lt h
noncomputable def szN (U : Nat) : Nat := (lotOf U).length
theorem sz_two {X Y U : Nat} (hX : ∀ i, X.testBit i = true → U.testBit i = true) (hY : ∀ i, Y.testBit i = true → U.testBit i = true) (hd : ∀ i, ¬ (X.testBit i = true ∧ Y.testBit i = true)) : szN X + szN Y ≤ szN U := by
  have nd : (lotOf X ++ lotOf Y).Nodup := List.nodup_append.mpr ⟨up_nodup (lotOf_up X), up_nodup (lotOf_up Y), fun a ha b hb e => hd a ⟨mem_lotOf.mp ha, by rw [e]; exact mem_lotOf.mp hb⟩⟩
  have := nodup_len nd (ys := lotOf U) fun x hx => by
    rcases List.mem_append.mp hx with z | z
    · exact mem_lotOf.mpr (hX x (mem_lotOf.mp z))
    · exact mem_lotOf.mpr (hY x (mem_lotOf.mp z))
  rw [List.length_append] at this
  exact this
theorem Blk.size {ts : List (Nat × Nat)} {gs : List Nat} : ∀ {U : Nat}, Blk ts U gs → (gs.map szN).sum ≤ szN U := by
  induction gs with
  | nil => intro U _; exact Nat.zero_le _
  | cons g gs ih =>
    intro U b
    obtain ⟨d1, d2⟩ := List.pairwise_cons.mp b.dis
    have bit : ∀ i, (andN U g).testBit i = true ↔ ∃ h ∈ gs, h.testBit i = true := fun i => by
      rw [andN_iff, b.all i]
      constructor
      · rintro ⟨⟨h, hh, hi⟩, hg⟩
        rcases List.mem_cons.mp hh with rfl | hh
        · exact absurd hi hg
        · exact ⟨h, hh, hi⟩
      · rintro ⟨h, hh, hi⟩
        exact ⟨⟨h, by simp [hh], hi⟩, fun z => (d1 h hh).1 i ⟨z, hi⟩⟩
    have h1 := ih (U := andN U g) ⟨bit, d2⟩
    have h2 := sz_two (X := g) (Y := andN U g) (U := U) (fun i hi => (b.all i).mpr ⟨g, by simp, hi⟩) (fun i hi => (andN_iff.mp hi).1) fun i h => (andN_iff.mp h.2).2 h.1
    rw [List.map_cons, List.sum_cons]
    omega
/-- what a counter knows -/
noncomputable def kK (q : Nat × Nat × Nat) : List L2.Key := [.inl (q.1 : Int), .inl (q.2.1 : Int)]
noncomputable def kV (q : Nat × Nat × Nat) : D := I q.2.2
noncomputable abbrev CT (m : Nat) (ts : List (Nat × Nat)) (ps : List (Nat × Nat × Nat)) : M := .ins 1 [(6, .v (webD m ts)), (7, .dT (ps.map kK) (ps.map kV))]
section
variable {G : GS} [HasC G 0 kl0] [HasF G 0 f0] [HasF G 1 f1] [HasF G 19 f19] [HasF G 2 f2] [HasF G 29 f29] [HasF G 30 f30] [HasF G 7 f7]
variable {n m : Nat} {ts : List (Nat × Nat)} {w : M}
end

/-! rests: listed_from, rests_within, all_rests, many_rests, rests -/
/-- how many turns a pair of lots of so many parts takes -/
noncomputable def vT (s : Nat) : Nat := ([1, 2, 3, 5, 7, 11, 16, 23, 34, 49, 70, 103, 148, 211, 310, 445, 634, 931, 1336, 1903, 2794, 4009, 5710, 8383, 12028] : List Nat).getD s 0
section
variable {G : GS} [HasC G 0 kl0] [HasF G 0 f0] [HasF G 1 f1] [HasF G 19 f19] [HasF G 2 f2] [HasF G 29 f29] [HasF G 30 f30] [HasF G 7 f7]
variable {n m : Nat} {ts : List (Nat × Nat)} {w : M}
end

/-! rests of a web: counted, listed -/
section
variable {m : Nat} {ts : List (Nat × Nat)}
end
section
variable {G : GS} [HasC G 0 kl0] [HasF G 0 f0] [HasF G 1 f1] [HasF G 17 f17] [HasF G 18 f18] [HasF G 19 f19] [HasF G 2 f2] [HasF G 21 f21] [HasF G 29 f29] [HasF G 30 f30] [HasF G 7 f7] [HasG G 0 (.int 24)]
variable {n m : Nat} {ts : List (Nat × Nat)} {w : M}
end

/-! webs beside one another: ties, and how many rests (plain) -/
section
variable {m u : Nat} {ts us : List (Nat × Nat)}
end

/-! webs joined, renamed: ties, and how many rests (plain) -/
section
variable {m u : Nat} {ts us : List (Nat × Nat)}
end

/-! webs renamed (plain): ties, and how many rests -/
/-- names for all parts, each once -/
structure Nms (m : Nat) (f : Nat → Nat) : Prop where
  lt : ∀ i, i < m → f i < m
  inj : ∀ i j, i < m → j < m → f i = f j → i = j
section
variable {m : Nat} {ts : List (Nat × Nat)} {f : Nat → Nat}
/-- every part has a name that is its -/
theorem Nms.onto (N : Nms m f) {p : Nat} (hp : p < m) : ∃ i, i < m ∧ f i = p := by
  have hnd : ((List.range m).map f).Nodup := nodup_map_on List.nodup_range fun a ha b hb e => N.inj a b (List.mem_range.mp ha) (List.mem_range.mp hb) e
  refine Classical.byContradiction fun hn => ?_
  have hn' : p ∉ (List.range m).map f := fun h => by
    obtain ⟨i, hi, e⟩ := List.mem_map.mp h
    exact hn ⟨i, List.mem_range.mp hi, e⟩
  have := nodup_len (xs := p :: (List.range m).map f) (ys := List.range m) (List.nodup_cons.mpr ⟨hn', hnd⟩) fun x hx => by
    rw [List.mem_range]
    rcases List.mem_cons.mp hx with rfl | hx
    · exact hp
    · obtain ⟨i, hi, rfl⟩ := List.mem_map.mp hx
      exact N.lt i (List.mem_range.mp hi)
  rw [List.length_cons, List.length_map, List.length_range] at this
  omega
theorem Ties.ext {us : List (Nat × Nat)} (T : Ties m ts) (U : Ties m us) (h : ∀ i j, i < m → j < m → (Tied ts i j ↔ Tied us i j)) : ts = us := by
  refine tl_ext T.up U.up fun p => ?_
  have one : ∀ {ts us : List (Nat × Nat)}, Ties m ts → Ties m us → (∀ i j, i < m → j < m → (Tied ts i j → Tied us i j)) → ∀ p ∈ ts, p ∈ us := fun {ts us} T U h p hp => by
    have hl := T.lt p hp
    rcases h p.1 p.2 (by omega) hl.2 (.inl hp) with z | z
    · exact z
    · have := U.lt _ z; simp only at this; omega
  exact ⟨one T U (fun i j hi hj => (h i j hi hj).mp) p, one U T (fun i j hi hj => (h i j hi hj).mpr) p⟩
/-- names back -/
theorem Nms.back (N : Nms m f) : ∃ g, Nms m g ∧ ∀ i, i < m → g (f i) = i := by
  classical
  let g : Nat → Nat := fun p => if h : p < m then Classical.choose (N.onto h) else p
  have hg : ∀ p (h : p < m), g p < m ∧ f (g p) = p := fun p h => by
    have : g p = Classical.choose (N.onto h) := dif_pos h
    rw [this]
    exact Classical.choose_spec (N.onto h)
  refine ⟨g, ⟨fun i hi => (hg i hi).1, fun i j hi hj e => ?_⟩, fun i hi => ?_⟩
  · rw [← (hg i hi).2, e, (hg j hj).2]
  · exact N.inj _ _ (hg _ (N.lt i hi)).1 hi (hg _ (N.lt i hi)).2
end

/-! webs joined, renamed: the walks -/
section
variable {G : GS} [HasC G 0 kl0] [HasF G 0 f0] [HasF G 1 f1] [HasF G 2 f2] [HasF G 29 f29] [HasF G 30 f30] [HasF G 39 f39] [HasF G 7 f7] [HasG G 0 (.int 24)]
variable {n m u : Nat} {ts us : List (Nat × Nat)} {w v : M}
end

/-! lots, each once, ascending: sorted(set(..)); lists of stands -/
noncomputable def LLt (a b : List Nat) : Prop := leL a b = true ∧ a ≠ b
theorem LLt.trans {a b c : List Nat} (h1 : LLt a b) (h2 : LLt b c) : LLt a c := ⟨leL_tr a b c h1.1 h2.1, fun e => by
  subst e
  exact h1.2 (leL_anti a b h1.1 h2.1)⟩
/-- stands as a list takes them -/
structure LsOk (p : Nat) (xss : List (List Nat)) : Prop where
  up : xss.Pairwise LLt
  lot : ∀ ns ∈ xss, ns.Pairwise (· < ·) ∧ ∀ x ∈ ns, x < p
  pos : xss ≠ []
  len : xss.length ≤ 64
theorem LsOk.sub {p : Nat} {xss yss : List (List Nat)} (h : LsOk p xss) (hs : yss.Sublist xss) (h0 : yss ≠ []) : LsOk p yss where
  up := h.up.sublist hs
  lot := fun ns hn => h.lot ns (hs.subset hn)
  pos := h0
  len := Nat.le_trans hs.length_le h.len
/-! lists of stands: the class, lists of some lots, of both, of either -/
section
variable {G : GS} [HasF G 0 f0] [HasF G 1 f1] [HasF G 2 f2] [HasF G 7 f7]
variable {n p q : Nat} {xss yss lots a b : List (List Nat)}
end

/-! laws of lists of stands: what is drawn *) -/
section
variable {G : GS} [HasC G 0 kl0] [HasF G 0 f0] [HasF G 1 f1] [HasF G 17 f17] [HasF G 18 f18] [HasF G 19 f19] [HasF G 2 f2] [HasF G 21 f21] [HasF G 29 f29] [HasF G 30 f30] [HasF G 7 f7]
variable {n p m k : Nat} {xs : List D}
end

/-! few rests: at most 63 of seven or eight parts -/
section
variable {m a b : Nat} {ts : List (Nat × Nat)}
noncomputable def othR (a b k : Nat) : Nat := ((List.range 8).filter fun x => decide (x ≠ a ∧ x ≠ b)).getD k 0
noncomputable def okR (a b : Nat) : Bool := decide (othR a b 0 < 8) && decide (othR a b 1 < 8) && decide (othR a b 2 < 8) && decide (othR a b 0 ≠ othR a b 1) && decide (othR a b 0 ≠ othR a b 2) && decide (othR a b 1 ≠ othR a b 2) && decide (othR a b 0 ≠ a) && decide (othR a b 0 ≠ b) && decide (othR a b 1 ≠ a) && decide (othR a b 1 ≠ b) && decide (othR a b 2 ≠ a) && decide (othR a b 2 ≠ b)
end

/-! what webs show at places -/
section
variable {G : GS} [HasC G 0 kl0] [HasF G 0 f0] [HasF G 1 f1] [HasF G 17 f17] [HasF G 18 f18] [HasF G 19 f19] [HasF G 2 f2] [HasF G 21 f21] [HasF G 29 f29] [HasF G 30 f30] [HasF G 7 f7] [HasG G 0 (.int 24)]
variable {n m p : Nat} {ts : List (Nat × Nat)} {sh : List Nat} {w l : M}
end

/-! showings judged: odd things, too -/
section
variable {G : GS} [HasC G 0 kl0] [HasF G 0 f0] [HasF G 1 f1] [HasF G 17 f17] [HasF G 18 f18] [HasF G 19 f19] [HasF G 2 f2] [HasF G 21 f21] [HasF G 29 f29] [HasF G 30 f30] [HasF G 7 f7] [HasG G 0 (.int 24)]
variable {n m p : Nat} {ts : List (Nat × Nat)} {yss : List (List Nat)} {d : D} {w l : M} {xs : List D}
end

/-! a law's pool of numbers (laws k77 to k93) -/
section
variable {G : GS}
variable {n : Nat}
/-- ties as they are drawn: below (i, j) -/
structure Low (m : Nat) (ts : List (Nat × Nat)) (i j : Nat) : Prop where
  T : Ties m ts
  lt : ∀ p ∈ ts, p.1 < i ∨ (p.1 = i ∧ p.2 < j)
theorem Low.len {m i j : Nat} {ts : List (Nat × Nat)} (h : Low m ts i j) : ts.length ≤ m * m := ties_len h.T
theorem Low.next {m i j : Nat} {ts : List (Nat × Nat)} (h : Low m ts i j) : Low m ts (i + 1) 0 := ⟨h.T, fun p hp => by have := h.lt p hp; omega⟩
theorem Low.skip {m i j k : Nat} {ts : List (Nat × Nat)} (h : Low m ts i j) (hk : j ≤ k) : Low m ts i k := ⟨h.T, fun p hp => by have := h.lt p hp; omega⟩
theorem Low.put {m i j : Nat} {ts : List (Nat × Nat)} (h : Low m ts i j) (h1 : i < j) (h2 : j < m) : Low m (ts ++ [(i, j)]) i (j + 1) := ⟨⟨List.pairwise_append.mpr ⟨h.T.up, List.pairwise_singleton _ _, fun a ha b hb => by
    rw [List.mem_singleton.mp hb]
    exact h.lt a ha⟩, fun p hp => by
    rcases List.mem_append.mp hp with q | q
    · exact h.T.lt p q
    · rw [List.mem_singleton.mp q]; exact ⟨h1, h2⟩⟩, fun p hp => by
    rcases List.mem_append.mp hp with q | q
    · have := h.lt p q; omega
    · rw [List.mem_singleton.mp q]; simp⟩
end

/-! parts called at once (k84): both sides' own going on, from stand to stand -/
section
variable {m : Nat} {ts : List (Nat × Nat)} {ns ls ds : List Nat} {p i : Nat}
end
section
variable {κ : Type} [DecidableEq κ]
end
section
variable {m : Nat} {ts : List (Nat × Nat)} {ls s : List Nat} {k i : Nat}
end
section
variable {G : GS} [HasC G 0 kl0] [HasF G 0 f0] [HasF G 1 f1] [HasF G 19 f19] [HasF G 2 f2] [HasF G 21 f21] [HasF G 29 f29] [HasF G 30 f30] [HasF G 7 f7] [HasG G 0 (.int 24)]
variable {n m : Nat} {ts : List (Nat × Nat)} {ns ls s : List Nat}
/-- things of which the parts can be asked -/
noncomputable def visC (d : D) : Prop := vis d = true ∧ ∀ xs, d = .tup xs → xs.length < 1000 ∧ ∀ x ∈ xs, vis x = true
noncomputable def visP (d : D) : Prop := vis d = true ∧ ∀ xs, d = .tup xs → xs.length < 1000 ∧ ∀ x ∈ xs, visC x
theorem visC.A {d : D} (h : visC d) : visA d := ⟨h.1, fun xs e => ⟨by have := (h.2 xs e).1; omega, (h.2 xs e).2⟩⟩
theorem visP.C {d : D} (h : visP d) : visC d := ⟨h.1, fun xs e => ⟨(h.2 xs e).1, fun x hx => ((h.2 xs e).2 x hx).1⟩⟩
end

/-! @PLAIN things drawn by laws with a pool (k77 to k93) -/
theorem visC_flat {d : D} (h : vis d = true) (ht : isTupB d = false) : visC d := ⟨h, fun xs e => by rw [e] at ht; cases ht⟩
theorem visP_flat {d : D} (h : vis d = true) (ht : isTupB d = false) : visP d := ⟨h, fun xs e => by rw [e] at ht; cases ht⟩
theorem visC_tup {xs : List D} (h : xs.length < 1000) (hv : ∀ x ∈ xs, vis x = true) : visC (.tup xs) := ⟨rfl, fun ys e => by injection e with e; subst e; exact ⟨h, hv⟩⟩
theorem visP_tup {xs : List D} (h : xs.length < 1000) (hv : ∀ x ∈ xs, visC x) : visP (.tup xs) := ⟨rfl, fun ys e => by injection e with e; subst e; exact ⟨h, hv⟩⟩
section
variable {ns : List Nat}
end

/-! lists of stands that are refused: what is due, what List raises -/
/-! lists of stands that are refused: the code -/
section
variable {G : GS} [HasC G 0 kl0] [HasF G 0 f0] [HasF G 1 f1] [HasF G 19 f19] [HasF G 2 f2] [HasF G 21 f21] [HasF G 29 f29] [HasF G 30 f30] [HasF G 47 f47] [HasF G 7 f7] [HasG G 0 (.int 24)]
variable {n : Nat} {q s d : D}
end

/-! lists of stands that are refused: the try, bent stands -/
section
variable {G : GS} [HasC G 0 kl0] [HasF G 0 f0] [HasF G 1 f1] [HasF G 19 f19] [HasF G 2 f2] [HasF G 21 f21] [HasF G 29 f29] [HasF G 30 f30] [HasF G 47 f47] [HasF G 48 f48] [HasF G 7 f7] [HasG G 0 (.int 24)]
variable {n p m0 : Nat} {q s d : D} {xs : List D} {xss : List (List Nat)} {ts : List (Nat × Nat)} {w : M}
theorem c_deepP : WC (callN G (n + 1) 48 []) fun m os => ∃ d, m = .v d ∧ visP d ∧ os = [] := by
  refine call_wp ⟨rfl, by decide⟩ ?_
  simp? -implicitDefEqProofs only [f48, b48_0]
  refine ⟨by decide, ?_⟩
  simp? -implicitDefEqProofs only [b48_1]
  refine ⟨by decide, ?_⟩
  have one : ∀ {a : D}, visC a → visP (.tup [a]) := fun ha => visP_tup (by simp) fun x hx => by rw [List.mem_singleton.mp hx]; exact ha
  refine for_rng (n := 32) (fun k τ => ∃ m l1, τ = [some m, l1] ∧ ((∃ d, m = .v d ∧ visP d) ∨ (∃ x, m = .lst [x]) ∧ k ≤ 16)) ⟨_, none, rfl, .inl ⟨_, rfl, one (visC_flat rfl rfl)⟩⟩ ?_ ?_
  · rintro k τ hk ⟨m, l1, rfl, ⟨d, rfl, hd⟩ | ⟨⟨x, rfl⟩, h16⟩⟩
    · simp? -implicitDefEqProofs only [b48_2]
      by_cases q : (k : Int) < 16
      · simp? -implicitDefEqProofs only [q, if_true]
        exact ⟨by decide, _, _, rfl, .inr ⟨⟨_, rfl⟩, by omega⟩⟩
      · simp? -implicitDefEqProofs only [q, if_false]
        exact ⟨by decide, _, _, rfl, .inl ⟨_, rfl, one hd.C⟩⟩
    · simp? -implicitDefEqProofs only [b48_2]
      by_cases q : (k : Int) < 16
      · simp? -implicitDefEqProofs only [q, if_true]
        exact ⟨by decide, _, _, rfl, .inr ⟨⟨_, rfl⟩, by omega⟩⟩
      · simp? -implicitDefEqProofs only [q, if_false]
        exact ⟨by decide, _, _, rfl, .inl ⟨_, rfl, one (visC_flat rfl rfl)⟩⟩
  · rintro τ ⟨m, l1, rfl, ⟨d, rfl, hd⟩ | ⟨⟨x, rfl⟩, h16⟩⟩
    · simp? -implicitDefEqProofs only [b48_3]
      exact ⟨d, rfl, hd⟩
    · omega
end

/-! webs that are refused: what is at fault -/
noncomputable def ltT (p q : Nat × Nat) : Bool := decide (p.1 < q.1 ∨ (p.1 = q.1 ∧ p.2 < q.2))
theorem ltT_iff {p q : Nat × Nat} : ltT p q = true ↔ TLt p q := by unfold ltT TLt; exact decide_eq_true_iff
theorem cmp_ltP {p q : Nat × Nat} : cmpD .Lt (P2 p) (P2 q) = some (ltT p q) := by
  show some (!(lexLe [(q.1 : Int), (q.2 : Int)] [(p.1 : Int), (p.2 : Int)])) = _
  unfold ltT
  congr 1
  rw [Bool.eq_iff_iff]
  simp only [lexLe, Bool.not_eq_true', decide_eq_true_eq]
  split <;> simp <;> omega
theorem cmp_leP {p q : Nat × Nat} : cmpD .LtE (P2 p) (P2 q) = some (!ltT q p) := by
  show some (lexLe [(p.1 : Int), (p.2 : Int)] [(q.1 : Int), (q.2 : Int)]) = _
  unfold ltT
  congr 1
  rw [Bool.eq_iff_iff]
  simp only [lexLe, Bool.not_eq_true', decide_eq_true_eq]
  split <;> simp <;> omega
noncomputable def tieB (m : Nat) : D → Bool
  | .tup [a, b] => btwB a 0 ((m : Int) - 1) && btwB b (intD a + 1) ((m : Int) - 1)
  | _ => false
noncomputable def tieN : D → Nat × Nat
  | .tup [a, b] => ((intD a).toNat, (intD b).toNat)
  | _ => (0, 0)
theorem tieN_P (p : Nat × Nat) : tieN (P2 p) = p := by
  show ((p.1 : Int).toNat, (p.2 : Int).toNat) = p
  rw [Int.toNat_natCast, Int.toNat_natCast]
theorem btw_nat {d : D} {l m : Int} (h : btwB d l m = true) (hl : 0 ≤ l) : ∃ a : Nat, d = I a ∧ l ≤ (a : Int) ∧ (a : Int) ≤ m := by
  cases d with
  | int i =>
    simp only [btwB, Bool.and_eq_true, decide_eq_true_eq] at h
    obtain ⟨p, rfl⟩ := Int.eq_ofNat_of_zero_le (show 0 ≤ i by omega)
    exact ⟨p, rfl, h.1, h.2⟩
  | _ => cases h
theorem tieB_iff {m : Nat} {d : D} : tieB m d = true ↔ ∃ p : Nat × Nat, d = P2 p ∧ p.1 < p.2 ∧ p.2 < m := by
  constructor
  · intro h
    unfold tieB at h
    split at h
    · rename_i a b
      rw [Bool.and_eq_true] at h
      obtain ⟨x, rfl, h1, h2⟩ := btw_nat h.1 (by omega)
      obtain ⟨y, rfl, h3, h4⟩ := btw_nat h.2 (by show 0 ≤ (x : Int) + 1; omega)
      have h3' : (x : Int) + 1 ≤ (y : Int) := h3
      exact ⟨(x, y), rfl, by show x < y; omega, by show y < m; omega⟩
    · cases h
  · rintro ⟨p, rfl, h1, h2⟩
    show (btwB (I p.1) 0 ((m : Int) - 1) && btwB (I p.2) ((p.1 : Int) + 1) ((m : Int) - 1)) = true
    simp only [btwB, Bool.and_eq_true, decide_eq_true_eq]
    omega
theorem lot_two {m : Nat} {a b : D} : lotB m (.tup [a, b]) = tieB m (.tup [a, b]) := by
  show (btwB a (-1 + 1) ((m : Int) - 1) && (btwB b (intD a + 1) ((m : Int) - 1) && true)) = _
  rw [Bool.and_true]
  rfl
noncomputable def badT (m : Nat) : Nat → Nat × Nat → List D → Option Nat
  | _, _, [] => none
  | k, pv, x :: r => if (tieB m x && (decide (k = 0) || ltT pv (tieN x))) = true then badT m (k + 1) (tieN x) r else some k
theorem TLt.trans {p q r : Nat × Nat} (h1 : TLt p q) (h2 : TLt q r) : TLt p r := by unfold TLt at *; omega
theorem badT_none {m : Nat} : ∀ {xs : List D} {k : Nat} {pv : Nat × Nat}, badT m k pv xs = none ↔ ∃ ts : List (Nat × Nat), xs = ts.map P2 ∧ ts.Pairwise TLt ∧ (∀ p ∈ ts, p.1 < p.2 ∧ p.2 < m) ∧ (k ≠ 0 → ∀ p ∈ ts, TLt pv p)
  | [], k, pv => ⟨fun _ => ⟨[], rfl, List.Pairwise.nil, fun _ h => (nomatch h), fun _ _ h => (nomatch h)⟩, fun _ => rfl⟩
  | x :: r, k, pv => by
    rw [badT]
    by_cases hb : (tieB m x && (decide (k = 0) || ltT pv (tieN x))) = true
    · rw [if_pos hb, badT_none]
      rw [Bool.and_eq_true, Bool.or_eq_true, decide_eq_true_eq, ltT_iff] at hb
      obtain ⟨hb1, hb2⟩ := hb
      obtain ⟨p, rfl, h1, h2⟩ := tieB_iff.mp hb1
      rw [tieN_P] at hb2 ⊢
      constructor
      · rintro ⟨ts, rfl, q1, q2, q3⟩
        refine ⟨p :: ts, rfl, List.pairwise_cons.mpr ⟨fun y hy => q3 (by omega) y hy, q1⟩, fun y hy => ?_, fun hk y hy => ?_⟩
        · rcases List.mem_cons.mp hy with rfl | hy
          · exact ⟨h1, h2⟩
          · exact q2 y hy
        · have h0 := hb2.resolve_left hk
          rcases List.mem_cons.mp hy with rfl | hy
          · exact h0
          · exact h0.trans (q3 (by omega) y hy)
      · rintro ⟨ts, e, q1, q2, q3⟩
        cases ts with
        | nil => cases e
        | cons a ts =>
          rw [List.map_cons] at e
          obtain ⟨e1, rfl⟩ := List.cons.inj e
          have e2 : p = a := by have := congrArg tieN e1; rwa [tieN_P, tieN_P] at this
          subst e2
          exact ⟨ts, rfl, (List.pairwise_cons.mp q1).2, fun y hy => q2 y (List.mem_cons_of_mem _ hy), fun _ y hy => (List.pairwise_cons.mp q1).1 y hy⟩
    · rw [if_neg hb]
      refine ⟨fun h => (by cases h), ?_⟩
      rintro ⟨ts, e, q1, q2, q3⟩
      cases ts with
      | nil => cases e
      | cons a ts =>
        rw [List.map_cons] at e
        obtain ⟨rfl, rfl⟩ := List.cons.inj e
        refine absurd ?_ hb
        rw [Bool.and_eq_true, Bool.or_eq_true, decide_eq_true_eq, ltT_iff, tieN_P]
        refine ⟨tieB_iff.mpr ⟨a, rfl, q2 a (by simp)⟩, ?_⟩
        by_cases hk : k = 0
        · exact .inl hk
        · exact .inr (q3 hk a (by simp))
noncomputable def tupN : D → Nat
  | .tup xs => xs.length
  | _ => 0
noncomputable def wrongO (q s : D) : Option D := if btwB q 1 24 = true then (match s with
  | .tup xs => (badT (intD q).toNat 0 (0, 0) xs).map fun k => I k
  | _ => some (.str "ties")) else some (.str "size")
noncomputable def wrongD (q s : D) : D := (wrongO q s).getD .non
theorem wrong_size {q s : D} (h : btwB q 1 24 = false) : wrongO q s = some (.str "size") := by unfold wrongO; rw [h]; rfl
theorem wrong_ties {q s : D} (h : btwB q 1 24 = true) (ht : isTupB s = false) : wrongO q s = some (.str "ties") := by
  unfold wrongO
  rw [h]
  cases s <;> first | rfl | cases ht
theorem wrong_at {m : Nat} {xs : List D} (h : btwB (I m) 1 24 = true) : wrongO (I m) (.tup xs) = (badT m 0 (0, 0) xs).map fun k => I k := by
  unfold wrongO
  rw [h, if_pos rfl]
  rfl
theorem wrong_none {q s : D} (h : wrongO q s = none) : ∃ (m : Nat) (ts : List (Nat × Nat)), q = I m ∧ s = TS ts ∧ 1 ≤ m ∧ m ≤ 24 ∧ Ties m ts := by
  by_cases hb : btwB q 1 24 = true
  · obtain ⟨m, rfl, h1, h2⟩ := btw_nat hb (by decide)
    by_cases ht : isTupB s = true
    · cases s with
      | tup xs =>
        rw [wrong_at hb] at h
        have h' : badT m 0 (0, 0) xs = none := by simpa using h
        obtain ⟨ts, rfl, q1, q2, _⟩ := badT_none.mp h'
        exact ⟨m, ts, rfl, rfl, by omega, by omega, ⟨q1, q2⟩⟩
      | _ => cases ht
    · rw [wrong_ties hb (by simpa using ht)] at h; cases h
  · rw [wrong_size (by simpa using hb)] at h; cases h
theorem wrong_ok {m : Nat} {ts : List (Nat × Nat)} (h : Ties m ts) (h1 : 1 ≤ m) (hm : m ≤ 24) : wrongO (I m) (TS ts) = none := by
  rw [wrong_at (by simp only [btwB, Bool.and_eq_true, decide_eq_true_eq]; omega), badT_none.mpr ⟨ts, rfl, h.up, h.lt, fun q => absurd rfl q⟩]
  rfl
theorem wrong_kind {q s d : D} (h : wrongO q s = some d) : d = .str "size" ∨ d = .str "ties" ∨ ∃ k : Nat, d = I k := by
  unfold wrongO at h
  split at h
  · split at h
    · obtain ⟨k, _, rfl⟩ := Option.map_eq_some_iff.mp h
      exact .inr (.inr ⟨k, rfl⟩)
    · cases h; exact .inr (.inl rfl)
  · cases h; exact .inl rfl
theorem badT_step {m k : Nat} {pv : Nat × Nat} {xs : List D} {x : D} (e : xs[k]? = some x) : badT m k pv (xs.drop k) = if (tieB m x && (decide (k = 0) || ltT pv (tieN x))) = true then badT m (k + 1) (tieN x) (xs.drop (k + 1)) else some k := by
  obtain ⟨hk, e2⟩ := List.getElem?_eq_some_iff.mp e
  rw [List.drop_eq_getElem_cons hk, e2, badT]
theorem at_prevT {xs : List D} {j : Nat} {pv : Nat × Nat} (h : xs[j]? = some (P2 pv)) : idxD (.tup xs) (.int (((j + 1 : Nat) : Int) - 1)) = some (P2 pv) := by
  rw [show (((j + 1 : Nat) : Int) - 1) = (j : Int) by omega]
  exact L2.atI_nat h

/-! webs that are refused: the code -/
theorem rse_1 {d : D} : rseX ec1 1 [d] = some (1, [(44, d)]) := rfl
noncomputable def toldD (q s : D) : D := match wrongO q s with
  | none => .tup [.str "web", q, s]
  | some d => .tup [.str "bad", d]
section
variable {G : GS} [HasC G 0 kl0] [HasF G 0 f0] [HasF G 1 f1] [HasF G 19 f19] [HasF G 2 f2] [HasF G 21 f21] [HasF G 29 f29] [HasF G 30 f30] [HasF G 47 f47] [HasF G 574 f574] [HasF G 7 f7] [HasG G 0 (.int 24)] [HasX G 1 ec1]
variable {n m : Nat} {q s d : D}
theorem o_tie (h : visC d) : callN G (n + 3) 7 [.v d, .v (I m)] = some (.v (.bl (tieB m d)), [.v d, .v (I m)]) := by
  refine wc_eq (call_wp ⟨rfl, by decide⟩ ?_)
  have hp : callN G (n + 2) 2 [.v d] = some (.v (.bl (isTupB d && decide ((tupN d : Int) = 2))), [.v d]) := by
    refine wc_eq (call_wp ⟨rfl, by decide⟩ ?_)
    by_cases ht : isTupB d = true
    · cases d with
      | tup xs =>
        simp? -implicitDefEqProofs only [f2, b2_0, tupN, isTupB]
        exact congrArg (fun b => M.v (.bl b)) (decide_eq_decide.mpr Iff.rfl)
      | _ => cases ht
    · have ht' : isTupB d = false := by simpa using ht
      simp? -implicitDefEqProofs only [f2, b2_0, isi_tupleB h.1, ht']
  by_cases h2 : (isTupB d && decide ((tupN d : Int) = 2)) = true
  · cases d with
    | tup xs =>
      obtain ⟨hl, hv⟩ := h.2 xs rfl
      rw [Bool.and_eq_true, decide_eq_true_eq] at h2
      match xs, (show xs.length = 2 by have := h2.2; simp only [tupN] at this; omega) with
      | [a, b], _ =>
        have va := hv a (by simp)
        have vb := hv b (by simp)
        have et : tieB m (.tup [a, b]) = (btwB a 0 ((m : Int) - 1) && btwB b (intD a + 1) ((m : Int) - 1)) := rfl
        rw [et]
        by_cases h1 : btwB a 0 ((m : Int) - 1) = true
        · cases a with
          | int i =>
            rw [h1, Bool.true_and]
            have e2 : intD (.int i) = i := rfl
            rw [e2]
            simp? -implicitDefEqProofs only [f7, b7_0, f2, hp, h2, f1, o_btw va, o_btw vb, h1]
          | _ => cases h1
        · have h1' : btwB a 0 ((m : Int) - 1) = false := by simpa using h1
          rw [h1', Bool.false_and]
          simp? -implicitDefEqProofs only [f7, b7_0, f2, hp, h2, f1, o_btw va, h1']
    | _ => rw [Bool.and_eq_true] at h2; cases h2.1
  · have h2' : (isTupB d && decide ((tupN d : Int) = 2)) = false := by simpa using h2
    have e : tieB m d = false := by
      unfold tieB
      split
      · rename_i a b; exact absurd rfl h2
      · rfl
    simp? -implicitDefEqProofs only [f7, b7_0, f2, hp, h2', e]
theorem w_fault (hq : vis q = true) (hs : visP s) : callN G (n + 3) 574 [.v q, .v s] = some (.v (wrongD q s), [.v q, .v s]) := by
  refine wc_eq (call_wp ⟨rfl, by decide⟩ ?_)
  have t2 : decide (((2 : Nat) : Int) = 2) = true := by decide
  by_cases hb : btwB q 1 24 = true
  · obtain ⟨m, rfl, h1, h2⟩ := btw_nat hb (by decide)
    have hi : isIntB (I m) = true := rfl
    simp? -implicitDefEqProofs only [f574, b574_0, f19, o_int19 hq, hi, h1, h2, decide_true]
    by_cases ht : isTupB s = true
    · cases s with
      | tup xs =>
        obtain ⟨hlen, hv⟩ := hs.2 xs rfl
        have hd : wrongD (I m) (.tup xs) = ((badT m 0 (0, 0) xs).map fun k => I k).getD .non := by unfold wrongD; rw [wrong_at hb]
        rw [hd]
        simp? -implicitDefEqProofs only [b574_2]
        simp? -implicitDefEqProofs only [b574_4]
        refine ⟨rng_ok (by omega) (by omega) (by omega) (by omega), ?_⟩
        refine for_rng (n := xs.length) (fun k τ => ∃ l2 l3 pv, τ = [some (.v (I m)), some (.v (.tup xs)), l2, l3] ∧ badT m k pv (xs.drop k) = badT m 0 (0, 0) xs ∧ ∀ j, k = j + 1 → xs[j]? = some (P2 pv)) ⟨none, none, (0, 0), rfl, rfl, fun j e => by omega⟩ ?_ ?_
        · rintro k τ hk0 ⟨l2, l3, pv, rfl, hk, hp⟩
          have ek : xs[k]? = some xs[k] := List.getElem?_eq_getElem hk0
          have ei : idxD (.tup xs) (I k) = some xs[k] := L2.atI_nat ek
          generalize xs[k] = x at ek ei
          have hx := hv x (List.mem_of_getElem? ek)
          rw [badT_step ek] at hk
          simp? -implicitDefEqProofs only [b574_5, ei]
          by_cases hp2 : (isTupB x && decide ((tupN x : Int) = 2)) = true
          · cases x with
            | tup ys =>
              rw [Bool.and_eq_true, decide_eq_true_eq] at hp2
              match ys, (show ys.length = 2 by have := hp2.2; simp only [tupN] at this; omega) with
              | [a, b], _ =>
                by_cases hl : tieB m (.tup [a, b]) = true
                · obtain ⟨p, ep, hn⟩ := tieB_iff.mp hl
                  obtain ⟨rfl, rfl⟩ : a = I p.1 ∧ b = I p.2 := by
                    injection ep with e
                    injection e with e1 e
                    injection e with e2
                    exact ⟨e1, e2⟩
                  rw [hl, Bool.true_and, show tieN (.tup [I p.1, I p.2]) = p from tieN_P p] at hk
                  simp? -implicitDefEqProofs only [b574_6, f47, a_islot hx.A, lot_two, hl, t2]
                  simp? -implicitDefEqProofs only [b574_8]
                  split
                  · rename_i hk0
                    obtain ⟨j, rfl⟩ : ∃ j, k = j + 1 := ⟨k - 1, by omega⟩
                    have hc := cmp_ltP (p := pv) (q := p)
                    simp? -implicitDefEqProofs only [at_prevT (hp j rfl), hc]
                    cases hc : ltT pv p with
                    | true =>
                      rw [hc, Bool.or_true, if_pos rfl] at hk
                      simp? -implicitDefEqProofs only [wo_some]
                      exact ⟨_, _, p, rfl, hk, fun j' e => by cases e; exact ek⟩
                    | false =>
                      rw [hc, Bool.or_false, if_neg (by simp)] at hk
                      simp? -implicitDefEqProofs only [b574_9]
                      rw [← hk]; rfl
                  · rename_i hk0
                    have h0 : k = 0 := by omega
                    rw [h0] at hk
                    rw [show (decide (0 = 0) || ltT pv p) = true from rfl, if_pos rfl] at hk
                    refine ⟨_, _, p, rfl, ?_, fun j' e => by cases e; exact ek⟩
                    rw [h0]; exact hk
                · have hl' : tieB m (.tup [a, b]) = false := by simpa using hl
                  rw [hl', Bool.false_and, if_neg (by simp)] at hk
                  simp? -implicitDefEqProofs only [b574_6, f47, a_islot hx.A, lot_two, hl', b574_7, t2]
                  rw [← hk]; rfl
            | _ => rw [Bool.and_eq_true] at hp2; cases hp2.1
          · have hl' : tieB m x = false := by
              unfold tieB
              split
              · rename_i a b; exact absurd rfl hp2
              · rfl
            rw [hl', Bool.false_and, if_neg (by simp)] at hk
            by_cases ht : isTupB x = true
            · cases x with
              | tup ys =>
                have hn : decide ((ys.length : Int) = 2) = false := by
                  have : ¬ ((ys.length : Int) = 2) := fun e => hp2 (by simp only [isTupB, tupN, Bool.true_and]; exact decide_eq_true e)
                  exact decide_eq_false this
                simp? -implicitDefEqProofs only [b574_6, hn, b574_7]
                rw [← hk]; rfl
              | _ => cases ht
            · have ht' : isTupB x = false := by simpa using ht
              simp? -implicitDefEqProofs only [b574_6, isi_tupleB hx.1, ht', b574_7]
              rw [← hk]; rfl
        · rintro τ ⟨l2, l3, pv, rfl, hk, hp⟩
          rw [List.drop_length] at hk
          simp? -implicitDefEqProofs only [b574_10]
          rw [← hk]; rfl
      | _ => cases ht
    · have ht' : isTupB s = false := by simpa using ht
      have hd : wrongD (I m) s = .str "ties" := by unfold wrongD; rw [wrong_ties hb ht']; rfl
      rw [hd]
      simp? -implicitDefEqProofs only [b574_2, isi_tupleB hs.1, ht', b574_3]
  · have hb' : btwB q 1 24 = false := by simpa using hb
    have hd : wrongD q s = .str "size" := by unfold wrongD; rw [wrong_size hb']; rfl
    rw [hd]
    by_cases hi : isIntB q = true
    · cases q with
      | int i =>
        have hz : (decide ((1 : Int) ≤ i) && decide (i ≤ 24)) = false := hb'
        by_cases h1 : (1 : Int) ≤ i
        · have h2 : ¬ i ≤ 24 := fun h2 => by simp [h1, h2] at hz
          simp? -implicitDefEqProofs only [f574, b574_0, f19, o_int19 hq, hi, h1, h2, decide_true, decide_false, b574_1]
        · simp? -implicitDefEqProofs only [f574, b574_0, f19, o_int19 hq, hi, h1, decide_false, b574_1]
      | _ => cases hi
    · have hi' : isIntB q = false := by simpa using hi
      simp? -implicitDefEqProofs only [f574, b574_0, f19, o_int19 hq, hi', b574_1]
end

/-! webs that are refused: what Web raises, the try -/
section
variable {G : GS} [HasC G 0 kl0] [HasF G 0 f0] [HasF G 1 f1] [HasF G 19 f19] [HasF G 2 f2] [HasF G 21 f21] [HasF G 29 f29] [HasF G 30 f30] [HasF G 47 f47] [HasF G 574 f574] [HasF G 576 f576] [HasF G 7 f7] [HasG G 0 (.int 24)] [HasX G 1 ec1]
variable {n m : Nat} {q s d : D}
theorem x_web (hq : vis q = true) (hs : visP s) (h : wrongO q s = some d) : WR ((callN G (n + 4)).exc 29 [.ins 0 [], .v q, .v s]) fun x os => x = (1, [(44, d)]) ∧ os = [.ins 0 [], .v q, .v s] := by
  refine call_wr ⟨rfl, by decide⟩ ?_
  by_cases hb : btwB q 1 24 = true
  · obtain ⟨m, rfl, h1, h2⟩ := btw_nat hb (by decide)
    refine wrSs_next ?_
    simp? -implicitDefEqProofs only [f1, o_btw hq, hb]
    by_cases ht : isTupB s = true
    · cases s with
      | tup xs =>
        obtain ⟨hlen, hv⟩ := hs.2 xs rfl
        rw [wrong_at hb] at h
        obtain ⟨k0, hk0, rfl⟩ := Option.map_eq_some_iff.mp h
        refine wrSs_next ?_
        simp? -implicitDefEqProofs only [wo_some]
        refine wrSs_here ?_
        refine wrS_loop (fun pre rs τ => pre ++ rs = enumD 0 xs ∧ ∃ l3 l4 pv, τ = [some (.ins 0 []), some (.v (I m)), some (.v (.tup xs)), l3, l4] ∧ badT m pre.length pv (xs.drop pre.length) = some k0 ∧ ∀ j, pre.length = j + 1 → xs[j]? = some (P2 pv)) ?_ ?_
        · simp? -implicitDefEqProofs only [wo_some]
          refine ⟨⟨none, none, (0, 0), rfl, hk0⟩, ?_⟩
          rintro τ ⟨_, l3, l4, pv, rfl, hk, _⟩
          rw [List.drop_eq_nil_of_le (by rw [show (enumD 0 xs).length = xs.length from enum_len 0]; exact Nat.le_refl _)] at hk
          cases hk
        · rintro pre y rs τ ⟨ep, l3, l4, pv, rfl, hk, hp⟩
          have e : (enumD 0 xs)[pre.length]? = some y := by rw [← ep]; simp
          generalize hkk : pre.length = k at *
          rw [enum_get] at e
          cases ek : xs[k]? with
          | none => rw [ek] at e; cases e
          | some x =>
            rw [ek] at e
            cases e
            have hx := hv x (List.mem_of_getElem? ek)
            rw [badT_step ek] at hk
            simp? -implicitDefEqProofs only [Nat.zero_add]
            by_cases hl : tieB m x = true
            · obtain ⟨p, rfl, hn⟩ := tieB_iff.mp hl
              rw [hl, Bool.true_and, tieN_P] at hk
              have hc := cmp_leP (p := p) (q := pv)
              by_cases h0 : k = 0
              · left
                rw [h0] at hk
                rw [show (decide (0 = 0) || ltT pv p) = true from rfl, if_pos rfl] at hk
                subst h0
                simp? -implicitDefEqProofs only [b29_5, o_tie hx, f7, hl]
                rw [if_neg (by omega)]
                refine ⟨by rw [List.append_assoc]; exact ep, _, _, p, rfl, ?_, fun j hj => ?_⟩
                · rw [List.length_append, hkk]; exact hk
                · rw [List.length_append, hkk] at hj
                  have : j = 0 := by simp at hj; omega
                  rw [this]; exact ek
              · obtain ⟨j, rfl⟩ : ∃ j, k = j + 1 := ⟨k - 1, by omega⟩
                cases hcc : ltT pv p with
                | true =>
                  left
                  rw [hcc, Bool.or_true, if_pos rfl] at hk
                  rw [hcc] at hc
                  simp? -implicitDefEqProofs only [b29_5, f7, o_tie hx, hl]
                  rw [if_pos (by omega)]
                  simp? -implicitDefEqProofs only [at_prevT (hp j rfl), hc]
                  refine ⟨by rw [← ep]; simp, _, _, p, rfl, ?_, fun j' hj => ?_⟩
                  · rw [List.length_append, hkk]; exact hk
                  · rw [List.length_append, hkk] at hj
                    have : j' = j + 1 := by simp at hj; omega
                    rw [this]; exact ek
                | false =>
                  right
                  rw [hcc, Bool.or_false, if_neg (by simp)] at hk
                  rw [hcc] at hc
                  cases hk
                  refine wrSs_here ?_
                  simp? -implicitDefEqProofs only [f7, o_tie hx, hl]
                  rw [if_pos (by omega)]
                  simp? -implicitDefEqProofs only [at_prevT (hp j rfl), hc]
                  refine wrSs_here ?_
                  simp? -implicitDefEqProofs only [rse_1]
                  rfl
            · have hl' : tieB m x = false := by simpa using hl
              rw [hl', Bool.false_and, if_neg (by simp)] at hk
              cases hk
              right
              refine wrSs_here ?_
              simp? -implicitDefEqProofs only [f7, o_tie hx, hl']
              refine wrSs_here ?_
              simp? -implicitDefEqProofs only [rse_1]
              rfl
      | _ => cases ht
    · have ht' : isTupB s = false := by simpa using ht
      rw [wrong_ties hb ht'] at h
      cases h
      refine wrSs_here ?_
      simp? -implicitDefEqProofs only [isi_tupleB hs.1, ht']
      refine wrSs_here ?_
      simp? -implicitDefEqProofs only [rse_1]
      rfl
  · have hb' : btwB q 1 24 = false := by simpa using hb
    rw [wrong_size hb'] at h
    cases h
    refine wrSs_here ?_
    simp? -implicitDefEqProofs only [f1, o_btw hq, hb']
    refine wrSs_here ?_
    simp? -implicitDefEqProofs only [rse_1]
    rfl
theorem c_told (hq : vis q = true) (hs : visP s) : callN G (n + 5) 576 [.v q, .v s] = some (.v (toldD q s), [.v q, .v s]) := by
  refine wc_eq (call_wp ⟨rfl, by decide⟩ ?_)
  cases hd : wrongO q s with
  | none =>
    obtain ⟨m, ts, rfl, rfl, h1, h2, T⟩ := wrong_none hd
    have e : toldD (I m) (TS ts) = .tup [.str "web", I m, TS ts] := by unfold toldD; rw [hd]
    rw [e]
    simp? -implicitDefEqProofs only [f576, b576_0]
    refine ⟨by decide, ?_⟩
    simp? -implicitDefEqProofs only [b576_1]
    refine try_nx ?_
    simp? -implicitDefEqProofs only [b576_2, kl0, f29, c_web T h1 h2]
    simp? -implicitDefEqProofs only [b576_3, b576_5]
    decide
  | some d =>
    have e : toldD q s = .tup [.str "bad", d] := by unfold toldD; rw [hd]
    rw [e]
    simp? -implicitDefEqProofs only [f576, b576_0]
    refine ⟨by decide, ?_⟩
    simp? -implicitDefEqProofs only [b576_1]
    refine try_rs ?_
    refine wrSs_here ?_
    simp? -implicitDefEqProofs only [kl0, f29]
    refine WR.mono (x_web hq hs hd) ?_
    rintro _ _ ⟨rfl, rfl⟩
    simp? -implicitDefEqProofs only [wo_some]
    refine wpH_yes ?_ rfl fun N => ?_
    · rw [isX_s (e := ec1)]; rfl
    simp? -implicitDefEqProofs only [b576_4]
    rw [if_pos (show ec1.up.contains 0 = true from rfl)]
    refine ⟨by decide, ?_⟩
    simp only [Wh.clr]
    simp? -implicitDefEqProofs only [b576_5]
end

/-! webs that are refused: bent ties -/
theorem visC_P (p : Nat × Nat) : visC (P2 p) := visC_tup (by simp) fun x hx => by
  simp only [List.mem_cons, List.mem_nil_iff, or_false] at hx
  rcases hx with rfl | rfl <;> rfl
theorem visC_TS {ts : List (Nat × Nat)} {x : D} (hm : x ∈ ts.map P2) : visC x := by
  obtain ⟨a, _, rfl⟩ := List.mem_map.mp hm
  exact visC_P a
theorem cutT_le {ts : List (Nat × Nat)} {l h : Option Int} : (cutD (ts.map P2) l h).length ≤ ts.length := by
  have := cut_len (xs := ts.map P2) (lo := l) (hi := h)
  rwa [List.length_map] at this
section
variable {G : GS} [HasC G 0 kl0] [HasF G 0 f0] [HasF G 1 f1] [HasF G 17 f17] [HasF G 18 f18] [HasF G 19 f19] [HasF G 2 f2] [HasF G 21 f21] [HasF G 22 f22] [HasF G 23 f23] [HasF G 29 f29] [HasF G 30 f30] [HasF G 47 f47] [HasF G 48 f48] [HasF G 49 f49] [HasF G 575 f575] [HasF G 7 f7] [HasG G 0 (.int 24)]
theorem c_oddC {n m m0 : Nat} {ts : List (Nat × Nat)} {xs : List D} {w : M} (hw : IsWeb w m0 ts) (ht : TapeL xs) : WC (callN G (n + 3) 49 [.lst xs, .v (I m), w]) fun r os => ∃ d xs', r = .v d ∧ visC d ∧ os = [.lst xs', .v (I m), .v (webD m0 ts)] ∧ TapeL xs' := by
  refine call_wp ⟨rfl, by decide⟩ ?_
  have fin : ∀ (x : D), vis x = true → wpSs G (callN G (n + 2)) [0, 1, 2] b49_1 [some (.lst xs), some (.v (I m)), some (.v (webD m0 ts)), some (.lst [I m, .int (-1), .bl true, .bl false, .non, .str "0", .str "", .tup [.int 0], .lst [.int 0], .dK [] [], .int (10 ^ 59), .tup [x], webD m0 ts, .int 0])]
      { nx := fun τ => WO (outs [0, 1, 2] 0 [.lst xs, .v (I m), w] τ) fun os => ∃ d xs', M.v .non = .v d ∧ visC d ∧ os = [.lst xs', .v (I m), .v (webD m0 ts)] ∧ TapeL xs',
        rt := fun r τ => WO (outs [0, 1, 2] 0 [.lst xs, .v (I m), w] τ) fun os => ∃ d xs', r = .v d ∧ visC d ∧ os = [.lst xs', .v (I m), .v (webD m0 ts)] ∧ TapeL xs' } := by
    intro x hx
    simp? -implicitDefEqProofs only [b49_1, f22]
    refine WC.mono (c_anyM ht (by simp) (by simp)) ?_
    rintro _ _ ⟨d, hd, xs, rfl, rfl, ht⟩
    have hv : visC d := by
      simp only [List.mem_cons, List.mem_nil_iff, or_false] at hd
      rcases hd with rfl | rfl | rfl | rfl | rfl | rfl | rfl | rfl | rfl | rfl | rfl | rfl | rfl | rfl
      case inr.inr.inr.inr.inr.inr.inr.inl => exact visC_tup (by simp) fun y hy => by rw [List.mem_singleton.mp hy]; rfl
      case inr.inr.inr.inr.inr.inr.inr.inr.inr.inr.inr.inl => exact visC_tup (by simp) fun y hy => by rw [List.mem_singleton.mp hy]; exact hx
      all_goals exact visC_flat rfl rfl
    rcases hw with rfl | rfl
    · simp? -implicitDefEqProofs only [wo_some]
      exact ⟨_, _, rfl, hv, rfl, ht⟩
    · simp? -implicitDefEqProofs only [wo_some]
      exact ⟨_, _, rfl, hv, rfl, ht⟩
  rcases id hw with rfl | rfl
  · simp? -implicitDefEqProofs only [f49, b49_0, f48]
    refine ⟨by decide, by decide, by decide, ?_⟩
    refine WC.mono c_deep ?_
    rintro _ _ ⟨x, rfl, hx, rfl⟩
    simp? -implicitDefEqProofs only [wo_some]
    exact ⟨by decide, fin x hx⟩
  · simp? -implicitDefEqProofs only [f49, b49_0, f48]
    refine ⟨by decide, by decide, by decide, ?_⟩
    refine WC.mono c_deep ?_
    rintro _ _ ⟨x, rfl, hx, rfl⟩
    simp? -implicitDefEqProofs only [wo_some]
    exact ⟨by decide, fin x hx⟩
variable {n m m0 a : Nat} {xs : List D} {p : Nat × Nat} {o : D} {ts ts0 : List (Nat × Nat)} {w : M}
theorem w_tail2 {its : List D} {l6 : Option M} (ht : TapeL xs) (hl : ts.length < 400) (hi0 : 0 < its.length) (hi1 : its.length < 1000) (hits : ∀ x ∈ its, visC x) {W : Wh}
    (hW : ∀ d xs l4 l5 l6 l7 l8, visP d → TapeL xs → W.rt (.v d) [some (.lst xs), some (.v (I m)), some (.v (TS ts)), some (.v (webD m0 ts0)), l4, l5, l6, l7, l8]) :
    wpSs G (callN G (n + 2)) [0, 1, 2, 3] b575_5 [some (.lst xs), some (.v (I m)), some (.v (TS ts)), some (.v (webD m0 ts0)), some (.v (I a)), some (.v (P2 p)), l6, some (.lst its), none] W := by
  have la : ∀ {l h : Option Int}, (cutD (ts.map P2) l h).length < 400 := fun {l h} => Nat.lt_of_le_of_lt cutT_le hl
  have hc : ∀ {x : D} {l h : Option Int}, x ∈ cutD (ts.map P2) l h → visC x := fun hm => visC_TS (cut_sub hm)
  have s1 : ∀ {l h : Option Int} {k : Nat}, k ≤ 2 → (cutD (ts.map P2) l h).length + k ≤ SL := fun {l h k} hk => by
    have := la (l := l) (h := h)
    show _ ≤ 16777216; omega
  have s2 : ∀ {l h l' h' : Option Int} {o : D}, (cutD (ts.map P2) l h ++ [o]).length + (cutD (ts.map P2) l' h').length ≤ SL := fun {l h l' h' o} => by
    have := la (l := l) (h := h)
    have := la (l := l') (h := h')
    rw [List.length_append, List.length_singleton]
    show _ ≤ 16777216; omega
  have s3 : ∀ {l h l' h' : Option Int}, (cutD (ts.map P2) l h).length + (cutD (ts.map P2) l' h').length ≤ SL := fun {l h l' h'} => by
    have := la (l := l) (h := h)
    have := la (l := l') (h := h')
    show _ ≤ 16777216; omega
  simp? -implicitDefEqProofs only [b575_5, isNonK, slc_t, f22]
  refine WC.mono (c_anyM ht hi0 (by omega)) ?_
  rintro _ _ ⟨o1, ho1, xs, rfl, rfl, ht⟩
  simp? -implicitDefEqProofs only [isNonK, slc_t]
  refine ⟨by decide, s1 (by decide), s2, by decide, s1 (by decide), s2, by decide, ?_⟩
  simp? -implicitDefEqProofs only [b575_6, isNonK, slc_t, f22]
  refine WC.mono (c_anyM ht hi0 (by omega)) ?_
  rintro _ _ ⟨o2, ho2, xs, rfl, rfl, ht⟩
  simp? -implicitDefEqProofs only [isNonK, slc_t]
  refine ⟨by decide, s1 (by decide), s2, s3, by decide, by decide, ?_⟩
  simp? -implicitDefEqProofs only [b575_7, f48, f22]
  refine WC.mono (c_deepP (n := n + 1)) ?_
  rintro _ _ ⟨dp, rfl, hdp, rfl⟩
  simp? -implicitDefEqProofs only [wo_some]
  refine ⟨by decide, by decide, by decide, ?_⟩
  refine WC.mono (c_any ht (by simp) (by simp)) ?_
  rintro _ _ ⟨d, hd, xs, rfl, rfl, ht⟩
  simp? -implicitDefEqProofs only [wo_some]
  refine hW _ _ _ _ _ _ _ ?_ ht
  have P : ∀ (zs : List D), zs.length < 1000 → (∀ x ∈ zs, visC x) → visP (.tup zs) := fun zs h1 h2 => visP_tup h1 h2
  simp only [List.mem_cons, List.mem_nil_iff, or_false] at hd
  rcases hd with rfl | rfl | rfl | rfl | rfl | rfl | rfl | rfl | rfl | rfl | rfl | rfl | rfl
  · refine P _ ?_ fun x hm => ?_
    · have := la (l := none) (h := some (a : Int))
      have := la (l := some ((a : Int) + 1)) (h := none)
      rw [List.length_append, List.length_append, List.length_singleton]; omega
    · simp only [List.mem_append, List.mem_singleton] at hm
      rcases hm with (h | rfl) | h
      · exact hc h
      · exact hits _ ho1
      · exact hc h
  · refine P _ ?_ fun x hm => ?_
    · have := la (l := none) (h := some (a : Int))
      have := la (l := some (a : Int)) (h := none)
      rw [List.length_append, List.length_append, List.length_singleton]; omega
    · simp only [List.mem_append, List.mem_singleton] at hm
      rcases hm with (h | rfl) | h
      · exact hc h
      · exact visC_P p
      · exact hc h
  · exact P _ (by rw [List.length_reverse, List.length_map]; omega) fun x hm => visC_TS (List.mem_reverse.mp hm)
  · refine P _ ?_ fun x hm => ?_
    · have := la (l := none) (h := some (a : Int))
      have := la (l := some (a : Int)) (h := none)
      rw [List.length_append, List.length_append, List.length_singleton]; omega
    · simp only [List.mem_append, List.mem_singleton] at hm
      rcases hm with (h | rfl) | h
      · exact hc h
      · exact hits _ ho2
      · exact hc h
  · refine P _ ?_ fun x hm => ?_
    · have := la (l := none) (h := some (a : Int))
      have := la (l := some ((a : Int) + 1)) (h := none)
      rw [List.length_append]; omega
    · rcases List.mem_append.mp hm with h | h
      · exact hc h
      · exact hc h
  · exact visP_flat rfl rfl
  · exact visP_flat rfl rfl
  · exact visP_flat rfl rfl
  · exact visP_flat rfl rfl
  · exact visP_flat rfl rfl
  · exact hdp
  · exact visP_flat rfl rfl
  · refine P _ (by simp) fun x hm => ?_
    rw [List.mem_singleton.mp hm]
    exact visC_tup (by rw [List.length_map]; omega) fun x hx => (visC_TS hx).1
theorem w_tail (ht : TapeL xs) (hl : ts.length < 400) (ho : visC o) {W : Wh}
    (hW : ∀ d xs l4 l5 l6 l7 l8, visP d → TapeL xs → W.rt (.v d) [some (.lst xs), some (.v (I m)), some (.v (TS ts)), some (.v (webD m0 ts0)), l4, l5, l6, l7, l8]) :
    wpSs G (callN G (n + 2)) [0, 1, 2, 3] b575_3 [some (.lst xs), some (.v (I m)), some (.v (TS ts)), some (.v (webD m0 ts0)), some (.v (I a)), some (.v (P2 p)), some (.v o), none, none] W := by
  have la : ∀ {l h : Option Int}, (cutD (ts.map P2) l h).length < 400 := fun {l h} => Nat.lt_of_le_of_lt cutT_le hl
  simp? -implicitDefEqProofs only [b575_3, isNonK, slc_t]
  refine ⟨by decide, by decide, by decide, by decide, by decide, by decide, by decide, ?_⟩
  simp? -implicitDefEqProofs only [b575_4]
  refine ⟨by decide, by decide, by decide, by decide, by decide, ?_⟩
  refine w_tail2 (n := n) ht hl (by simp) (by simp) (fun x hx => ?_) hW
  have one : ∀ {a : D}, vis a = true → visC (.tup [a]) := fun ha => visC_tup (by simp) fun x hx => by rw [List.mem_singleton.mp hx]; exact ha
  have two : ∀ {a b : D}, vis a = true → vis b = true → visC (.tup [a, b]) := fun ha hb => visC_tup (by simp) fun x hx => by
    simp only [List.mem_cons, List.mem_nil_iff, or_false] at hx
    rcases hx with rfl | rfl
    · exact ha
    · exact hb
  simp only [List.mem_cons, List.mem_nil_iff, or_false] at hx
  rcases hx with rfl | rfl | rfl | rfl | rfl | rfl | rfl | rfl | rfl | rfl | rfl | rfl
  · exact two rfl rfl
  · exact two rfl rfl
  · exact two rfl rfl
  · exact two ho.1 rfl
  · exact two rfl ho.1
  · refine visC_tup (by simp) fun x hx => ?_
    simp only [List.mem_cons, List.mem_nil_iff, or_false] at hx
    rcases hx with rfl | rfl | rfl <;> rfl
  · refine visC_tup (by have := cut_len (xs := [I p.1, I p.2]) (lo := none) (hi := some 1); simp at this; omega) fun x hx => ?_
    have := cut_sub hx
    simp only [List.mem_cons, List.mem_nil_iff, or_false] at this
    rcases this with rfl | rfl <;> rfl
  · exact visC_flat rfl rfl
  · exact ho
  · exact one rfl
  · exact one rfl
  · exact visC_tup (xs := []) (by simp) fun x hx => (List.not_mem_nil hx).elim
theorem w_bent (hw : IsWeb w m0 ts0) (hl : ts.length < 400) (ht : TapeL xs) : WC (callN G (n + 4) 575 [.lst xs, .v (I m), .v (TS ts), w]) fun r os => ∃ d xs', r = .v d ∧ visP d ∧ os = [.lst xs', .v (I m), .v (TS ts), .v (webD m0 ts0)] ∧ TapeL xs' := by
  refine call_wp ⟨rfl, by decide⟩ ?_
  have e1 : (((ts.map P2).length : Int) + 1) = ((ts.length + 1 : Nat) : Int) := by rw [List.length_map]; omega
  rcases id hw with rfl | rfl
  all_goals
    simp? -implicitDefEqProofs only [f575, b575_0, f18]
    refine WC.mono (c_pickL (ts.length + 1) e1 ht (by omega) (by omega)) ?_
    rintro _ _ ⟨a, xs, rfl, rfl, ha, ht⟩
    simp? -implicitDefEqProofs only [b575_1, List.length_map]
    obtain ⟨p, hp⟩ : ∃ p : Nat × Nat, p = if h : a < ts.length then ts[a] else (0, 1) := ⟨_, rfl⟩
    split
    · rename_i h
      have h' : a < ts.length := by omega
      have ei : idxD (TS ts) (I a) = some (P2 ts[a]) := L2.atI_nat (by rw [List.getElem?_map, List.getElem?_eq_getElem h']; rfl)
      simp? -implicitDefEqProofs only [ei]
      simp? -implicitDefEqProofs only [b575_2, f49]
      refine WC.mono (c_oddC hw ht) ?_
      rintro _ _ ⟨o, xs, rfl, ho, rfl, ht⟩
      simp? -implicitDefEqProofs only [wo_some]
      refine w_tail (n := n + 1) ht hl ho fun d xs l4 l5 l6 l7 l8 hd ht => ?_
      simp? -implicitDefEqProofs only [wo_some]
      exact ⟨_, _, rfl, hd, rfl, ht⟩
    · rename_i h
      refine ⟨by decide, ?_⟩
      simp? -implicitDefEqProofs only [b575_2, f49]
      refine WC.mono (c_oddC hw ht) ?_
      rintro _ _ ⟨o, xs, rfl, ho, rfl, ht⟩
      simp? -implicitDefEqProofs only [wo_some]
      refine w_tail (n := n + 1) (p := (0, 1)) ht hl ho fun d xs l4 l5 l6 l7 l8 hd ht => ?_
      simp? -implicitDefEqProofs only [wo_some]
      exact ⟨_, _, rfl, hd, rfl, ht⟩
end

/-! law k01: webs judged -/
theorem ties_276 {m : Nat} {ts : List (Nat × Nat)} (T : Ties m ts) (hm : m ≤ 24) : ts.length ≤ 276 := by
  have up : (ts.map fun p => p.1 * 24 + p.2).Pairwise (· < ·) := by
    rw [List.pairwise_map]
    refine List.Pairwise.imp_of_mem (fun {a b} ha hb q => ?_) T.up
    have h1 := T.lt a ha
    have h2 := T.lt b hb
    rcases q with q | ⟨q1, q2⟩ <;> omega
  have e : (ts.map fun p => p.1 * 24 + p.2) = (List.range 576).filter (fun i => decide (i ∈ ts.map fun p => p.1 * 24 + p.2)) := up_ext up (List.Pairwise.filter _ List.pairwise_lt_range) fun i => by
    simp only [List.mem_filter, List.mem_range, decide_eq_true_eq]
    refine ⟨fun q => ⟨?_, q⟩, fun q => q.2⟩
    obtain ⟨p, hp, rfl⟩ := List.mem_map.mp q
    have h1 := T.lt p hp
    omega
  have h := congrArg List.length e
  rw [List.length_map, ← List.countP_eq_length_filter] at h
  have h2 : List.countP (fun i => decide (i ∈ ts.map fun p => p.1 * 24 + p.2)) (List.range 576) ≤ List.countP (fun i => decide (i / 24 < i % 24)) (List.range 576) := List.countP_mono_left fun i _ hi => by
    simp only [decide_eq_true_eq] at hi ⊢
    obtain ⟨p, hp, rfl⟩ := List.mem_map.mp hi
    have h1 := T.lt p hp
    omega
  have h3 : List.countP (fun i => decide (i / 24 < i % 24)) (List.range 576) = 276 := by decide +kernel
  omega
theorem zip_sameD {xs : List D} : zipD xs xs = xs.map fun x => .tup [x, x] := by
  induction xs with
  | nil => rfl
  | cons n ns ih => rw [zipD, ih, List.map_cons]
theorem bools_trueD {xs : List D} : boolsOf (xs.map fun _ => .bl true) = some (xs.map fun _ => true) := by
  induction xs with
  | nil => rfl
  | cons x xs ih => rw [List.map_cons, boolsOf, ih]; rfl
section
variable {G : GS} [HasC G 0 kl0] [HasF G 0 f0] [HasF G 1 f1] [HasF G 17 f17] [HasF G 18 f18] [HasF G 19 f19] [HasF G 2 f2] [HasF G 21 f21] [HasF G 22 f22] [HasF G 23 f23] [HasF G 24 f24] [HasF G 29 f29] [HasF G 30 f30] [HasF G 47 f47] [HasF G 48 f48] [HasF G 49 f49] [HasF G 574 f574] [HasF G 575 f575] [HasF G 576 f576] [HasF G 577 f577] [HasF G 7 f7] [HasG G 0 (.int 24)] [HasX G 1 ec1]
variable {n m : Nat} {xs : List D} {ts : List (Nat × Nat)}
theorem same_str {x : Str} (hx : cmpD .Eq (.str x) (.str x) = some true) : callN G (n + 1) 21 [.v (.str x), .v (.str x)] = some (.v (.bl true), [.v (.str x), .v (.str x)]) := by
  refine wc_eq (call_wp ⟨rfl, by decide⟩ ?_)
  simp? -implicitDefEqProofs only [f21, b21_0]
  simp? -implicitDefEqProofs only [b21_6]
  simp? -implicitDefEqProofs only [b21_8]
  simp? -implicitDefEqProofs only [b21_10]
  refine ⟨by decide, ?_⟩
  simp? -implicitDefEqProofs only [b21_11, hx]
theorem same_tup (h : ∀ x ∈ xs, callN G n 21 [.v x, .v x] = some (.v (.bl true), [.v x, .v x])) (hl : xs.length < 1000000) : callN G (n + 1) 21 [.v (.tup xs), .v (.tup xs)] = some (.v (.bl true), [.v (.tup xs), .v (.tup xs)]) := by
  refine wc_eq (call_wp ⟨rfl, by decide⟩ ?_)
  simp? -implicitDefEqProofs only [f21, b21_0]
  simp? -implicitDefEqProofs only [b21_1, decide_true]
  simp? -implicitDefEqProofs only [b21_3, decide_true]
  simp? -implicitDefEqProofs only [b21_5, zip_sameD]
  refine ⟨by decide, by decide, ?_⟩
  refine lc_map (f := fun k : D => .tup [k, k]) (fun ds rs acc τ => τ = [some (.v (.tup xs)), some (.v (.tup xs)), none, none] ∧ acc = ds.map fun _ => .bl true) ⟨rfl, rfl⟩ ?_ ?_
  · rintro ds x rs acc τ e hl' ⟨rfl, rfl⟩
    have hlen : ds.length ≤ xs.length := by rw [e, List.length_append]; omega
    have hx := h x (by rw [e]; simp)
    simp? -implicitDefEqProofs only [f21, hx]
    refine ⟨show (ds.map _).length < 16777216 by rw [List.length_map]; omega, ?_⟩
    simp
  · rintro acc τ ⟨rfl, rfl⟩
    simp? -implicitDefEqProofs only [bools_trueD]
    simp
theorem same_TS (hl : ts.length < 1000000) : callN G (n + 4) 21 [.v (TS ts), .v (TS ts)] = some (.v (.bl true), [.v (TS ts), .v (TS ts)]) := by
  refine same_tup (fun x hx => ?_) (by rw [List.length_map]; exact hl)
  obtain ⟨p, _, rfl⟩ := List.mem_map.mp hx
  exact a_same (n := n) (ns := [p.1, p.2]) (by simp)
theorem same_web (hl : ts.length < 1000000) : callN G (n + 5) 21 [.v (.tup [.str "web", I m, TS ts]), .v (.tup [.str "web", I m, TS ts])] = some (.v (.bl true), [.v (.tup [.str "web", I m, TS ts]), .v (.tup [.str "web", I m, TS ts])]) := by
  refine same_tup (n := n + 4) (fun x hx => ?_) (by simp)
  simp only [List.mem_cons, List.mem_nil_iff, or_false] at hx
  rcases hx with rfl | rfl | rfl
  · exact same_str (n := n + 3) (by decide +kernel)
  · exact a_same1 (n := n + 2)
  · exact same_TS hl
theorem same_bad {q s d : D} (h : wrongO q s = some d) : callN G (n + 5) 21 [.v (.tup [.str "bad", d]), .v (.tup [.str "bad", d])] = some (.v (.bl true), [.v (.tup [.str "bad", d]), .v (.tup [.str "bad", d])]) := by
  refine same_tup (n := n + 4) (fun x hx => ?_) (by simp)
  simp only [List.mem_cons, List.mem_nil_iff, or_false] at hx
  rcases hx with rfl | rfl
  · exact same_str (n := n + 3) (by decide +kernel)
  · rcases wrong_kind h with rfl | rfl | ⟨k, rfl⟩
    · exact same_str (n := n + 3) (by decide +kernel)
    · exact same_str (n := n + 3) (by decide +kernel)
    · exact a_same1 (n := n + 2)
theorem ne_web (hl : ts.length < 1000000) : cmpD .NotEq (.tup [.str "web", I m, TS ts]) (.tup [.str "web", I m, TS ts]) = some false := by
  have k1 : PyData.strOk "web" = true := by decide +kernel
  have e : toPy (.tup [.str "web", I m, TS ts]) = some (.tuple [.str "web", gI m, .tuple (ts.map gP)]) := by
    have h1 := toPy_I m
    have h2 := toPy_TS ts
    unfold I at h1
    unfold TS at h2
    unfold I TS
    rw [toPy, toPys, toPy, toPys, h1, toPys, h2, toPys]
    rfl
  have sh : SeqAt.shaped (.tuple [.str "web", gI m, .tuple (ts.map gP)]) = true := by
    refine shp_tup ?_ ?_
    · simp only [PyData.canLayAll0, lI, Bool.true_and, PyData.canLay0, lay_map lP ts, k1]
    · have := depth_map dP ts
      simp only [PyData.depthAll, PyData.depth]
      omega
  rw [cmp_nex, eqD_self e sh]
  rfl
theorem tail01 {l1 l2 l3 l4 l5 l6 l9 l10 : Option M} {scr q bd : D} {W : Wh} (hq : vis q = true) (hbd : visP bd)
    (hW : ∀ l9 l10, W.nx [some (.v scr), l1, l2, l3, l4, l5, l6, some (.v bd), some (.v q), l9, l10]) :
    wpSs G (callN G (n + 6)) [0] b577_11 [some (.v scr), l1, l2, l3, l4, l5, l6, some (.v bd), some (.v q), l9, l10] W := by
  have dd := w_fault (n := n + 3) (G := G) hq hbd
  have tt := c_told (n := n + 1) (G := G) hq hbd
  simp? -implicitDefEqProofs only [b577_11, f574, dd]
  simp? -implicitDefEqProofs only [b577_12, f576, tt]
  cases hd : wrongO q bd with
  | none =>
    obtain ⟨m, ts, rfl, rfl, h1, h2, T⟩ := wrong_none hd
    have hl := ties_276 T h2
    have r1 : toldD (I m) (TS ts) = .tup [.str "web", I m, TS ts] := by unfold toldD; rw [hd]
    have r2 : wrongD (I m) (TS ts) = .non := by unfold wrongD; rw [hd]; rfl
    have c1 := ne_web (m := m) (ts := ts) (by omega)
    simp? -implicitDefEqProofs only [r1, r2, b577_13, cmp_is, cmp_isn, isN_non]
    simp? -implicitDefEqProofs only [b577_15, cmp_is, isN_non, c1]
    exact ⟨by decide, hW _ _⟩
  | some d =>
    have r1 : toldD q bd = .tup [.str "bad", d] := by unfold toldD; rw [hd]
    have r2 : wrongD q bd = d := by unfold wrongD; rw [hd]; rfl
    have nd : isNon d = false := by rcases wrong_kind hd with rfl | rfl | ⟨k, rfl⟩ <;> rfl
    have sb := same_bad (n := n + 1) (G := G) hd
    simp? -implicitDefEqProofs only [r1, r2, b577_13, cmp_isn, nd, f21, sb]
    refine ⟨by decide, ?_⟩
    simp? -implicitDefEqProofs only [b577_15, cmp_is, nd]
    exact hW _ _
theorem inner01 {xs : List D} {k : Nat} {l2 l7 l8 l9 l10 : Option M} {scr : D} {w : M} {W : Wh} (hw : IsWeb w m ts) (T : Ties m ts) (h1 : 1 ≤ m) (hm : m ≤ 24) (ht : TapeL xs)
    (hW : ∀ xs w l7 l8 l9 l10, IsWeb w m ts → TapeL xs → W.nx [some (.v scr), some (.lst xs), l2, some (.v (I m)), some (.v (TS ts)), some w, some (.v (I k)), l7, l8, l9, l10]) :
    wpSs G (callN G (n + 6)) [0] b577_7 [some (.v scr), some (.lst xs), l2, some (.v (I m)), some (.v (TS ts)), some w, some (.v (I k)), l7, l8, l9, l10] W := by
  have hl := ties_276 T hm
  rcases id hw with rfl | rfl
  all_goals
    simp? -implicitDefEqProofs only [b577_7, f575]
    refine WC.mono (w_bent (n := n + 2) hw (by omega) ht) ?_
    rintro _ _ ⟨bd, xs, rfl, hbd, rfl, ht⟩
    simp? -implicitDefEqProofs only [b577_8]
    simp? -implicitDefEqProofs only [b577_9, f18]
    refine WC.mono (c_pickL 3 rfl ht (by decide) (by decide)) ?_
    rintro _ _ ⟨z, xs, rfl, rfl, hz, ht⟩
    simp? -implicitDefEqProofs only [wo_some]
    split
    · simp? -implicitDefEqProofs only [b577_10, f48]
      refine ⟨by decide, ?_⟩
      refine WC.mono (c_deepP (n := n + 5)) ?_
      rintro _ _ ⟨dp, rfl, hdp, rfl⟩
      simp? -implicitDefEqProofs only [f22]
      refine ⟨by decide, ?_⟩
      refine WC.mono (c_any (n := n + 4) ht (by simp) (by simp)) ?_
      rintro _ _ ⟨q, hq, xs, rfl, rfl, ht⟩
      simp? -implicitDefEqProofs only [wo_some]
      refine tail01 ?_ hbd fun l9 l10 => hW _ _ _ _ _ _ (.inr rfl) ht
      simp only [List.mem_cons, List.mem_nil_iff, or_false] at hq
      rcases hq with rfl | rfl | rfl | rfl | rfl | rfl | rfl | rfl | rfl | rfl | rfl | rfl | rfl
      all_goals first
        | rfl
        | exact hdp.1
    · exact tail01 rfl hbd fun l9 l10 => hW _ _ _ _ _ _ (.inr rfl) ht
theorem turn01 {xs : List D} {l2 l5 l6 l7 l8 l9 l10 : Option M} {scr : D} {W : Wh} (T : Ties m ts) (h1 : 1 ≤ m) (hm : m ≤ 24) (ht : TapeL xs)
    (hW : ∀ xs l2 l3 l4 l5 l6 l7 l8 l9 l10, TapeL xs → W.nx [some (.v scr), some (.lst xs), l2, l3, l4, l5, l6, l7, l8, l9, l10]) :
    wpSs G (callN G (n + 6)) [0] b577_3 [some (.v scr), some (.lst xs), l2, some (.v (I m)), some (.v (TS ts)), l5, l6, l7, l8, l9, l10] W := by
  have hl := ties_276 T hm
  have vT : visP (TS ts) := visP_tup (by rw [List.length_map]; omega) fun x hx => visC_TS hx
  have tt := c_told (n := n + 1) (G := G) (q := I m) (s := TS ts) rfl vT
  have r1 : toldD (I m) (TS ts) = .tup [.str "web", I m, TS ts] := by unfold toldD; rw [wrong_ok T h1 hm]
  have sw := same_web (n := n + 1) (G := G) (m := m) (ts := ts) (by omega)
  have cw := c_web (n := n + 2) (G := G) T h1 hm
  simp? -implicitDefEqProofs only [b577_3, f576, tt, r1, f21, sw]
  refine ⟨by decide, ?_⟩
  simp? -implicitDefEqProofs only [b577_5, kl0, f29, cw]
  simp? -implicitDefEqProofs only [b577_6]
  refine ⟨by decide, ?_⟩
  refine for_rng (n := 3) (fun k τ => ∃ xs w l6 l7 l8 l9 l10, τ = [some (.v scr), some (.lst xs), l2, some (.v (I m)), some (.v (TS ts)), some w, l6, l7, l8, l9, l10] ∧ IsWeb w m ts ∧ TapeL xs) ⟨_, _, _, _, _, _, _, rfl, .inl rfl, ht⟩ ?_ ?_
  · rintro k τ hk ⟨xs, w, l6, l7, l8, l9, l10, rfl, hw, ht⟩
    simp? -implicitDefEqProofs only [wo_some]
    exact inner01 hw T h1 hm ht fun xs w l7 l8 l9 l10 hw ht => ⟨_, _, _, _, _, _, _, rfl, hw, ht⟩
  · rintro τ ⟨xs, w, l6, l7, l8, l9, l10, rfl, hw, ht⟩
    simp? -implicitDefEqProofs only [wo_some]
    exact hW _ _ _ _ _ _ _ _ _ _ ht
theorem main01 {sc : List Int} : callN G (n + 7) 577 [.v (.scr sc)] = some (.v (.bl true), [.v (.scr sc)]) := by
  refine wc_eq (call_wp ⟨rfl, by decide⟩ ?_)
  simp? -implicitDefEqProofs only [f577, b577_0, f17]
  refine WC.mono (c_tape (n := n + 5)) ?_
  rintro _ _ ⟨xs, rfl, rfl, ht⟩
  simp? -implicitDefEqProofs only [b577_1]
  refine ⟨by decide, ?_⟩
  refine for_rng (n := 4) (fun k τ => ∃ xs l2 l3 l4 l5 l6 l7 l8 l9 l10, τ = [some (.v (.scr sc)), some (.lst xs), l2, l3, l4, l5, l6, l7, l8, l9, l10] ∧ TapeL xs) ⟨_, _, _, _, _, _, _, _, _, _, rfl, ht⟩ ?_ ?_
  · rintro k τ hk ⟨xs, l2, l3, l4, l5, l6, l7, l8, l9, l10, rfl, ht⟩
    simp? -implicitDefEqProofs only [wo_some]
    simp? -implicitDefEqProofs only [b577_2, f18]
    refine WC.mono (c_pickL 6 rfl ht (by decide) (by decide)) ?_
    rintro _ _ ⟨z, xs, rfl, rfl, hz, ht⟩
    simp? -implicitDefEqProofs only [wo_some]
    split
    · simp? -implicitDefEqProofs only [f24]
      refine WC.mono (c_lwebL (n := n + 3) 24 rfl ht (by decide) (by decide)) ?_
      rintro _ _ ⟨m, ts, xs, rfl, h1, hm, T, rfl, ht⟩
      simp? -implicitDefEqProofs only [wo_some]
      exact turn01 T h1 (by omega) ht fun xs l2 l3 l4 l5 l6 l7 l8 l9 l10 ht => ⟨_, _, _, _, _, _, _, _, _, _, rfl, ht⟩
    · simp? -implicitDefEqProofs only [f24]
      refine WC.mono (c_lwebL (n := n + 3) 6 rfl ht (by decide) (by decide)) ?_
      rintro _ _ ⟨m, ts, xs, rfl, h1, hm, T, rfl, ht⟩
      simp? -implicitDefEqProofs only [wo_some]
      exact turn01 T h1 (by omega) ht fun xs l2 l3 l4 l5 l6 l7 l8 l9 l10 ht => ⟨_, _, _, _, _, _, _, _, _, _, rfl, ht⟩
  · rintro τ ⟨xs, l2, l3, l4, l5, l6, l7, l8, l9, l10, rfl, ht⟩
    simp? -implicitDefEqProofs only [b577_17]
theorem main_ok : ∀ ns : List Int, ns.length ≤ 63 → callN G 110 577 [.v (.scr ns)] = some (.v (.bl true), [.v (.scr ns)]) := fun ns _ => main01 (n := 103)
end

end Tx
namespace Tx
open PySem L2 Ev
noncomputable def G : GS := ⟨[(0, f0), (1, f1), (2, f2), (7, f7), (17, f17), (18, f18), (19, f19), (47, f47), (21, f21), (48, f48), (22, f22), (23, f23), (24, f24), (49, f49), (574, f574), (575, f575), (576, f576), (577, f577), (29, f29), (30, f30), (39, f39)], [(0, kl0)], [.int 24], [(0, ec0), (1, ec1)], none⟩
noncomputable def tb : Tb := ⟨[(0, ("is_integer" : Str)), (1, ("is_between" : Str)), (2, ("is_pair" : Str)), (7, ("is_tie" : Str)), (17, ("_law_tape" : Str)), (18, ("_law_pick" : Str)), (19, ("_law_is_integer" : Str)), (47, ("_law_is_lot" : Str)), (21, ("_law_same" : Str)), (48, ("_law_deep" : Str)), (22, ("_law_any" : Str)), (23, ("_law_mixed" : Str)), (24, ("_law_web" : Str)), (49, ("_law_odd" : Str)), (574, ("_law_fault" : Str)), (575, ("_law_bent" : Str)), (576, ("_law_told" : Str)), (577, ("law" : Str))], [(0, "Web")], [("size" : Str), ("near" : Str), ("whole" : Str), ("begin" : Str), ("ties" : Str), ("of" : Str), ("web" : Str), ("known" : Str), ("of_piece" : Str), ("stand" : Str), ("log" : Str), ("changes" : Str), ("back" : Str), ("copy" : Str), ("call" : Str), ("kept_web" : Str), ("begun" : Str), ("past" : Str), ("now" : Str), ("trying" : Str), ("places" : Str), ("stands" : Str), ("ends" : Str), ("sure" : Str), ("up" : Str), ("down" : Str), ("free" : Str), ("loose" : Str), ("middles" : Str), ("late" : Str), ("is_quiet" : Str), ("first_row" : Str), ("course" : Str), ("end_of" : Str), ("is_end" : Str), ("two_middles" : Str), ("two_ends" : Str), ("by" : Str), ("onto" : Str), ("order" : Str), ("arrows" : Str), ("net" : Str), ("came" : Str), ("row_to" : Str), ("part" : Str)], [("MOST_PARTS", 0)], G, [(0, "WebError"), (1, "BadWeb")]⟩
noncomputable instance hf0 : HasF G 0 f0 := ⟨rfl⟩
noncomputable instance hf1 : HasF G 1 f1 := ⟨rfl⟩
noncomputable instance hf2 : HasF G 2 f2 := ⟨rfl⟩
noncomputable instance hf7 : HasF G 7 f7 := ⟨rfl⟩
noncomputable instance hf17 : HasF G 17 f17 := ⟨rfl⟩
noncomputable instance hf18 : HasF G 18 f18 := ⟨rfl⟩
noncomputable instance hf19 : HasF G 19 f19 := ⟨rfl⟩
noncomputable instance hf47 : HasF G 47 f47 := ⟨rfl⟩
noncomputable instance hf21 : HasF G 21 f21 := ⟨rfl⟩
noncomputable instance hf48 : HasF G 48 f48 := ⟨rfl⟩
noncomputable instance hf22 : HasF G 22 f22 := ⟨rfl⟩
noncomputable instance hf23 : HasF G 23 f23 := ⟨rfl⟩
noncomputable instance hf24 : HasF G 24 f24 := ⟨rfl⟩
noncomputable instance hf49 : HasF G 49 f49 := ⟨rfl⟩
noncomputable instance hf574 : HasF G 574 f574 := ⟨rfl⟩
noncomputable instance hf575 : HasF G 575 f575 := ⟨rfl⟩
noncomputable instance hf576 : HasF G 576 f576 := ⟨rfl⟩
noncomputable instance hf577 : HasF G 577 f577 := ⟨rfl⟩
noncomputable instance hf29 : HasF G 29 f29 := ⟨rfl⟩
noncomputable instance hf30 : HasF G 30 f30 := ⟨rfl⟩
noncomputable instance hf39 : HasF G 39 f39 := ⟨rfl⟩
noncomputable instance hc0 : HasC G 0 kl0 := ⟨rfl⟩
noncomputable instance hg0 : HasG G 0 (.int 24) := ⟨rfl⟩
noncomputable instance hx0 : HasX G 0 ec0 := ⟨rfl⟩
noncomputable instance hx1 : HasX G 1 ec1 := ⟨rfl⟩

theorem law_ok : ∀ ns : List Int, ns.length ≤ 63 → callN G 110 577 [.v (.scr ns)] = some (.v (.bl true), [.v (.scr ns)]) := main_ok

def top (i : Nat) : Stmt := PySem.Challenge.pw_silencers_k01_webs_judged.main.body.getD i (.Pass ⟨0, 0, 0, 0⟩)
abbrev s0 : Stmt := top 4
def Nm0 : List Str := ["thing"]
def Pm0 : List Str := ["thing"]
theorem sc0 : FnScope Nm0 Pm0 (defScope s0) := ⟨rfl, rfl, rfl, by decide +kernel, rfl, by decide +kernel, by decide +kernel⟩
theorem ch0 : chSs tb ⟨Nm0, (defScope s0).names, true, [], true, true⟩ f0.body (defBody s0) = true := by decide +kernel
abbrev s1 : Stmt := top 5
def Nm1 : List Str := ["thing", "least", "most"]
def Pm1 : List Str := ["thing", "least", "most"]
theorem sc1 : FnScope Nm1 Pm1 (defScope s1) := ⟨rfl, rfl, rfl, by decide +kernel, rfl, by decide +kernel, by decide +kernel⟩
theorem ch1 : chSs tb ⟨Nm1, (defScope s1).names, true, [], true, true⟩ f1.body (defBody s1) = true := by decide +kernel
abbrev s2 : Stmt := top 6
def Nm2 : List Str := ["thing"]
def Pm2 : List Str := ["thing"]
theorem sc2 : FnScope Nm2 Pm2 (defScope s2) := ⟨rfl, rfl, rfl, by decide +kernel, rfl, by decide +kernel, by decide +kernel⟩
theorem ch2 : chSs tb ⟨Nm2, (defScope s2).names, true, [], true, true⟩ f2.body (defBody s2) = true := by decide +kernel
abbrev s7 : Stmt := top 9
def Nm7 : List Str := ["thing", "size"]
def Pm7 : List Str := ["thing", "size"]
theorem sc7 : FnScope Nm7 Pm7 (defScope s7) := ⟨rfl, rfl, rfl, by decide +kernel, rfl, by decide +kernel, by decide +kernel⟩
theorem ch7 : chSs tb ⟨Nm7, (defScope s7).names, true, [], true, true⟩ f7.body (defBody s7) = true := by decide +kernel
abbrev s17 : Stmt := top 12
def Nm17 : List Str := ["_law_script"]
def Pm17 : List Str := ["_law_script"]
theorem sc17 : FnScope Nm17 Pm17 (defScope s17) := ⟨rfl, rfl, rfl, by decide +kernel, rfl, by decide +kernel, by decide +kernel⟩
theorem ch17 : chSs tb ⟨Nm17, (defScope s17).names, true, [], true, true⟩ f17.body (defBody s17) = true := by decide +kernel
abbrev s18 : Stmt := top 13
def Nm18 : List Str := ["_law_tape_here", "_law_many", "_law_digit", "_law_cell", "_law_mixed_here"]
def Pm18 : List Str := ["_law_tape_here", "_law_many"]
theorem sc18 : FnScope Nm18 Pm18 (defScope s18) := ⟨rfl, rfl, rfl, by decide +kernel, rfl, by decide +kernel, by decide +kernel⟩
theorem ch18 : chSs tb ⟨Nm18, (defScope s18).names, true, [], true, true⟩ f18.body (defBody s18) = true := by decide +kernel
abbrev s19 : Stmt := top 14
def Nm19 : List Str := ["_law_thing"]
def Pm19 : List Str := ["_law_thing"]
theorem sc19 : FnScope Nm19 Pm19 (defScope s19) := ⟨rfl, rfl, rfl, by decide +kernel, rfl, by decide +kernel, by decide +kernel⟩
theorem ch19 : chSs tb ⟨Nm19, (defScope s19).names, true, [], true, true⟩ f19.body (defBody s19) = true := by decide +kernel
abbrev s47 : Stmt := top 15
def Nm47 : List Str := ["_law_size", "_law_thing", "_law_at", "_law_part"]
def Pm47 : List Str := ["_law_size", "_law_thing"]
theorem sc47 : FnScope Nm47 Pm47 (defScope s47) := ⟨rfl, rfl, rfl, by decide +kernel, rfl, by decide +kernel, by decide +kernel⟩
theorem ch47 : chSs tb ⟨Nm47, (defScope s47).names, true, [], true, true⟩ f47.body (defBody s47) = true := by decide +kernel
abbrev s21 : Stmt := top 16
def Nm21 : List Str := ["_law_told_here", "_law_due", "_law_one", "_law_other"]
def Pm21 : List Str := ["_law_told_here", "_law_due"]
theorem sc21 : FnScope Nm21 Pm21 (defScope s21) := ⟨rfl, rfl, rfl, by decide +kernel, rfl, by decide +kernel, by decide +kernel⟩
theorem ch21 : chSs tb ⟨Nm21, (defScope s21).names, true, [], true, true⟩ f21.body (defBody s21) = true := by decide +kernel
abbrev s48 : Stmt := top 17
def Nm48 : List Str := ["_law_thing", "_law_turn"]
def Pm48 : List Str := []
theorem sc48 : FnScope Nm48 Pm48 (defScope s48) := ⟨rfl, rfl, rfl, by decide +kernel, rfl, by decide +kernel, by decide +kernel⟩
theorem ch48 : chSs tb ⟨Nm48, (defScope s48).names, true, [], true, true⟩ f48.body (defBody s48) = true := by decide +kernel
abbrev s22 : Stmt := top 18
def Nm22 : List Str := ["_law_tape_here", "_law_things"]
def Pm22 : List Str := ["_law_tape_here", "_law_things"]
theorem sc22 : FnScope Nm22 Pm22 (defScope s22) := ⟨rfl, rfl, rfl, by decide +kernel, rfl, by decide +kernel, by decide +kernel⟩
theorem ch22 : chSs tb ⟨Nm22, (defScope s22).names, true, [], true, true⟩ f22.body (defBody s22) = true := by decide +kernel
abbrev s23 : Stmt := top 19
def Nm23 : List Str := ["_law_tape_here", "_law_things", "_law_left", "_law_found", "_law_turn"]
def Pm23 : List Str := ["_law_tape_here", "_law_things"]
theorem sc23 : FnScope Nm23 Pm23 (defScope s23) := ⟨rfl, rfl, rfl, by decide +kernel, rfl, by decide +kernel, by decide +kernel⟩
theorem ch23 : chSs tb ⟨Nm23, (defScope s23).names, true, [], true, true⟩ f23.body (defBody s23) = true := by decide +kernel
abbrev s24 : Stmt := top 20
def Nm24 : List Str := ["_law_tape_here", "_law_most", "_law_size", "_law_style", "_law_names", "_law_found", "_law_one", "_law_other", "_law_take"]
def Pm24 : List Str := ["_law_tape_here", "_law_most"]
theorem sc24 : FnScope Nm24 Pm24 (defScope s24) := ⟨rfl, rfl, rfl, by decide +kernel, rfl, by decide +kernel, by decide +kernel⟩
theorem ch24 : chSs tb ⟨Nm24, (defScope s24).names, true, [], true, true⟩ f24.body (defBody s24) = true := by decide +kernel
abbrev s49 : Stmt := top 21
def Nm49 : List Str := ["_law_tape_here", "_law_size", "_law_thing", "_law_things"]
def Pm49 : List Str := ["_law_tape_here", "_law_size", "_law_thing"]
theorem sc49 : FnScope Nm49 Pm49 (defScope s49) := ⟨rfl, rfl, rfl, by decide +kernel, rfl, by decide +kernel, by decide +kernel⟩
theorem ch49 : chSs tb ⟨Nm49, (defScope s49).names, true, [], true, true⟩ f49.body (defBody s49) = true := by decide +kernel
abbrev s574 : Stmt := top 22
def Nm574 : List Str := ["_law_size", "_law_ties", "_law_at", "_law_item"]
def Pm574 : List Str := ["_law_size", "_law_ties"]
theorem sc574 : FnScope Nm574 Pm574 (defScope s574) := ⟨rfl, rfl, rfl, by decide +kernel, rfl, by decide +kernel, by decide +kernel⟩
theorem ch574 : chSs tb ⟨Nm574, (defScope s574).names, true, [], true, true⟩ f574.body (defBody s574) = true := by decide +kernel
abbrev s575 : Stmt := top 23
def Nm575 : List Str := ["_law_tape_here", "_law_size", "_law_ties", "_law_thing", "_law_at", "_law_item", "_law_odd_here", "_law_items", "_law_things"]
def Pm575 : List Str := ["_law_tape_here", "_law_size", "_law_ties", "_law_thing"]
theorem sc575 : FnScope Nm575 Pm575 (defScope s575) := ⟨rfl, rfl, rfl, by decide +kernel, rfl, by decide +kernel, by decide +kernel⟩
theorem ch575 : chSs tb ⟨Nm575, (defScope s575).names, true, [], true, true⟩ f575.body (defBody s575) = true := by decide +kernel
abbrev s576 : Stmt := top 24
def Nm576 : List Str := ["_law_size", "_law_ties", "_law_found", "_law_made", "error"]
def Pm576 : List Str := ["_law_size", "_law_ties"]
theorem sc576 : FnScope Nm576 Pm576 (defScope s576) := ⟨rfl, rfl, rfl, by decide +kernel, rfl, by decide +kernel, by decide +kernel⟩
theorem ch576 : chSs tb ⟨Nm576, (defScope s576).names, true, [], true, true⟩ f576.body (defBody s576) = true := by decide +kernel
abbrev s577 : Stmt := top 25
def Nm577 : List Str := ["_law_script", "_law_tape_here", "_law_turn", "_law_size", "_law_ties", "_law_thing", "_law_change", "_law_later", "_law_other", "_law_due", "_law_told_here"]
def Pm577 : List Str := ["_law_script"]
theorem sc577 : FnScope Nm577 Pm577 (defScope s577) := ⟨rfl, rfl, rfl, by decide +kernel, rfl, by decide +kernel, by decide +kernel⟩
theorem ch577 : chSs tb ⟨Nm577, (defScope s577).names, true, [], true, true⟩ f577.body (defBody s577) = true := by decide +kernel
abbrev s29 : Stmt := inClass (top 10) 0
def Nm29 : List Str := ["self", "size", "ties", "number", "item"]
def Pm29 : List Str := ["self", "size", "ties"]
theorem sc29 : FnScope Nm29 Pm29 (defScope s29) := ⟨rfl, rfl, rfl, by decide +kernel, rfl, by decide +kernel, by decide +kernel⟩
theorem ch29 : chSs tb ⟨Nm29, (defScope s29).names, true, [], true, true⟩ f29.body (defBody s29) = true := by decide +kernel
abbrev s30 : Stmt := inClass (top 10) 1
def Nm30 : List Str := ["self", "size", "ties", "one", "other"]
def Pm30 : List Str := ["self", "size", "ties"]
theorem sc30 : FnScope Nm30 Pm30 (defScope s30) := ⟨rfl, rfl, rfl, by decide +kernel, rfl, by decide +kernel, by decide +kernel⟩
theorem ch30 : chSs tb ⟨Nm30, (defScope s30).names, true, [], true, true⟩ f30.body (defBody s30) = true := by decide +kernel
abbrev s39 : Stmt := inClass (top 10) 2
def Nm39 : List Str := ["self", "other"]
def Pm39 : List Str := ["self", "other"]
theorem sc39 : FnScope Nm39 Pm39 (defScope s39) := ⟨rfl, rfl, rfl, by decide +kernel, rfl, by decide +kernel, by decide +kernel⟩
theorem ch39 : chSs tb ⟨Nm39, (defScope s39).names, true, [], false, true⟩ f39.body (defBody s39) = true := by decide +kernel
abbrev xs1 : Stmt := inClass (top 2) 0
theorem xb1 : InitB "part" (defBody xs1) := ⟨_, _, _, _, _, _, _, _, _, _, _, _, rfl, rfl⟩
theorem all_mk {P : Program} {w : World} {K : PySem.W.Frag} {h : Heap} {mg : Str → Option Value} {f0 f1 f2 f7 f17 f18 f19 f47 f21 f48 f22 f23 f24 f49 f574 f575 f576 f577 f29 f30 f39 C0 fl : Addr} {od0 an0 : Option Addr} {sl0 : Array (Option Value)} {oc0 kV0 dc0 pm0 cd0 ct0 : Value} {od1 an1 : Option Addr} {sl1 : Array (Option Value)} {oc1 kV1 dc1 pm1 cd1 ct1 : Value} {od2 an2 : Option Addr} {sl2 : Array (Option Value)} {oc2 kV2 dc2 pm2 cd2 ct2 : Value} {od7 an7 : Option Addr} {sl7 : Array (Option Value)} {oc7 kV7 dc7 pm7 cd7 ct7 : Value} {od17 an17 : Option Addr} {sl17 : Array (Option Value)} {oc17 kV17 dc17 pm17 cd17 ct17 : Value} {od18 an18 : Option Addr} {sl18 : Array (Option Value)} {oc18 kV18 dc18 pm18 cd18 ct18 : Value} {od19 an19 : Option Addr} {sl19 : Array (Option Value)} {oc19 kV19 dc19 pm19 cd19 ct19 : Value} {od47 an47 : Option Addr} {sl47 : Array (Option Value)} {oc47 kV47 dc47 pm47 cd47 ct47 : Value} {od21 an21 : Option Addr} {sl21 : Array (Option Value)} {oc21 kV21 dc21 pm21 cd21 ct21 : Value} {od48 an48 : Option Addr} {sl48 : Array (Option Value)} {oc48 kV48 dc48 pm48 cd48 ct48 : Value} {od22 an22 : Option Addr} {sl22 : Array (Option Value)} {oc22 kV22 dc22 pm22 cd22 ct22 : Value} {od23 an23 : Option Addr} {sl23 : Array (Option Value)} {oc23 kV23 dc23 pm23 cd23 ct23 : Value} {od24 an24 : Option Addr} {sl24 : Array (Option Value)} {oc24 kV24 dc24 pm24 cd24 ct24 : Value} {od49 an49 : Option Addr} {sl49 : Array (Option Value)} {oc49 kV49 dc49 pm49 cd49 ct49 : Value} {od574 an574 : Option Addr} {sl574 : Array (Option Value)} {oc574 kV574 dc574 pm574 cd574 ct574 : Value} {od575 an575 : Option Addr} {sl575 : Array (Option Value)} {oc575 kV575 dc575 pm575 cd575 ct575 : Value} {od576 an576 : Option Addr} {sl576 : Array (Option Value)} {oc576 kV576 dc576 pm576 cd576 ct576 : Value} {od577 an577 : Option Addr} {sl577 : Array (Option Value)} {oc577 kV577 dc577 pm577 cd577 ct577 : Value} {od29 an29 : Option Addr} {sl29 : Array (Option Value)} {oc29 kV29 dc29 pm29 cd29 ct29 : Value} {od30 an30 : Option Addr} {sl30 : Array (Option Value)} {oc30 kV30 dc30 pm30 cd30 ct30 : Value} {od39 an39 : Option Addr} {sl39 : Array (Option Value)} {oc39 kV39 dc39 pm39 cd39 ct39 : Value} {X0 xN0 : Addr} {xnm0 xq0 : Str} {xbs0 xsub0 : List Value} {xsn0 : List Str} {xab0 : Bool} {xcol0 : Option Bool} {xdd0 : Option Addr} {xm00 xm10 xm20 xm30 xm50 : Option Value} {X1 xN1 : Addr} {xnm1 xq1 : Str} {xbs1 xsub1 : List Value} {xsn1 : List Str} {xab1 : Bool} {xcol1 : Option Bool} {xdd1 : Option Addr} {xm01 xm11 xm21 xm31 xm51 : Option Value} {xg1 xcda1 xcc1 : Addr} {xoc1 xkV1 xdoc1 xpm1 xct1 xccl1 xcl1 : Value} {xod1 xan1 xcdd1 xcld1 : Option Addr} {xsl1 xccs1 xcsl1 : Array (Option Value)} {xvs1 : Array Value} {xfile1 : Str} {xtf1 : Tok} {t0 : Tok} (X : K.In h) (G : h.Ns mainGlobals mg) (hfa : mg "law" = some (.ref fl))
    (aC0 : PySem.W.nsIn K mainGlobals "Web" = some (some (.ref C0)))
    (a0 : PySem.W.nsIn K mainGlobals "is_integer" = some (some (.ref f0)))
    (l0 : K.lookup f0 = some ⟨oc0, od0, .func (PySem.W.fnOf "is_integer" "is_integer" (defArgs s0) (defBody s0) (defScope s0) .none kV0 dc0 pm0 an0 cd0 ct0), sl0⟩)
    (c0 : PySem.W.codeIn K cd0 "is_integer" = true)
    (k0 : PySem.W.keepIn K (.ref f0) = true)
    (a1 : PySem.W.nsIn K mainGlobals "is_between" = some (some (.ref f1)))
    (l1 : K.lookup f1 = some ⟨oc1, od1, .func (PySem.W.fnOf "is_between" "is_between" (defArgs s1) (defBody s1) (defScope s1) .none kV1 dc1 pm1 an1 cd1 ct1), sl1⟩)
    (c1 : PySem.W.codeIn K cd1 "is_between" = true)
    (k1 : PySem.W.keepIn K (.ref f1) = true)
    (a2 : PySem.W.nsIn K mainGlobals "is_pair" = some (some (.ref f2)))
    (l2 : K.lookup f2 = some ⟨oc2, od2, .func (PySem.W.fnOf "is_pair" "is_pair" (defArgs s2) (defBody s2) (defScope s2) .none kV2 dc2 pm2 an2 cd2 ct2), sl2⟩)
    (c2 : PySem.W.codeIn K cd2 "is_pair" = true)
    (k2 : PySem.W.keepIn K (.ref f2) = true)
    (a7 : PySem.W.nsIn K mainGlobals "is_tie" = some (some (.ref f7)))
    (l7 : K.lookup f7 = some ⟨oc7, od7, .func (PySem.W.fnOf "is_tie" "is_tie" (defArgs s7) (defBody s7) (defScope s7) .none kV7 dc7 pm7 an7 cd7 ct7), sl7⟩)
    (c7 : PySem.W.codeIn K cd7 "is_tie" = true)
    (k7 : PySem.W.keepIn K (.ref f7) = true)
    (a17 : PySem.W.nsIn K mainGlobals "_law_tape" = some (some (.ref f17)))
    (l17 : K.lookup f17 = some ⟨oc17, od17, .func (PySem.W.fnOf "_law_tape" "_law_tape" (defArgs s17) (defBody s17) (defScope s17) .none kV17 dc17 pm17 an17 cd17 ct17), sl17⟩)
    (c17 : PySem.W.codeIn K cd17 "_law_tape" = true)
    (k17 : PySem.W.keepIn K (.ref f17) = true)
    (a18 : PySem.W.nsIn K mainGlobals "_law_pick" = some (some (.ref f18)))
    (l18 : K.lookup f18 = some ⟨oc18, od18, .func (PySem.W.fnOf "_law_pick" "_law_pick" (defArgs s18) (defBody s18) (defScope s18) .none kV18 dc18 pm18 an18 cd18 ct18), sl18⟩)
    (c18 : PySem.W.codeIn K cd18 "_law_pick" = true)
    (k18 : PySem.W.keepIn K (.ref f18) = true)
    (a19 : PySem.W.nsIn K mainGlobals "_law_is_integer" = some (some (.ref f19)))
    (l19 : K.lookup f19 = some ⟨oc19, od19, .func (PySem.W.fnOf "_law_is_integer" "_law_is_integer" (defArgs s19) (defBody s19) (defScope s19) .none kV19 dc19 pm19 an19 cd19 ct19), sl19⟩)
    (c19 : PySem.W.codeIn K cd19 "_law_is_integer" = true)
    (k19 : PySem.W.keepIn K (.ref f19) = true)
    (a47 : PySem.W.nsIn K mainGlobals "_law_is_lot" = some (some (.ref f47)))
    (l47 : K.lookup f47 = some ⟨oc47, od47, .func (PySem.W.fnOf "_law_is_lot" "_law_is_lot" (defArgs s47) (defBody s47) (defScope s47) .none kV47 dc47 pm47 an47 cd47 ct47), sl47⟩)
    (c47 : PySem.W.codeIn K cd47 "_law_is_lot" = true)
    (k47 : PySem.W.keepIn K (.ref f47) = true)
    (a21 : PySem.W.nsIn K mainGlobals "_law_same" = some (some (.ref f21)))
    (l21 : K.lookup f21 = some ⟨oc21, od21, .func (PySem.W.fnOf "_law_same" "_law_same" (defArgs s21) (defBody s21) (defScope s21) .none kV21 dc21 pm21 an21 cd21 ct21), sl21⟩)
    (c21 : PySem.W.codeIn K cd21 "_law_same" = true)
    (k21 : PySem.W.keepIn K (.ref f21) = true)
    (a48 : PySem.W.nsIn K mainGlobals "_law_deep" = some (some (.ref f48)))
    (l48 : K.lookup f48 = some ⟨oc48, od48, .func (PySem.W.fnOf "_law_deep" "_law_deep" (defArgs s48) (defBody s48) (defScope s48) .none kV48 dc48 pm48 an48 cd48 ct48), sl48⟩)
    (c48 : PySem.W.codeIn K cd48 "_law_deep" = true)
    (k48 : PySem.W.keepIn K (.ref f48) = true)
    (a22 : PySem.W.nsIn K mainGlobals "_law_any" = some (some (.ref f22)))
    (l22 : K.lookup f22 = some ⟨oc22, od22, .func (PySem.W.fnOf "_law_any" "_law_any" (defArgs s22) (defBody s22) (defScope s22) .none kV22 dc22 pm22 an22 cd22 ct22), sl22⟩)
    (c22 : PySem.W.codeIn K cd22 "_law_any" = true)
    (k22 : PySem.W.keepIn K (.ref f22) = true)
    (a23 : PySem.W.nsIn K mainGlobals "_law_mixed" = some (some (.ref f23)))
    (l23 : K.lookup f23 = some ⟨oc23, od23, .func (PySem.W.fnOf "_law_mixed" "_law_mixed" (defArgs s23) (defBody s23) (defScope s23) .none kV23 dc23 pm23 an23 cd23 ct23), sl23⟩)
    (c23 : PySem.W.codeIn K cd23 "_law_mixed" = true)
    (k23 : PySem.W.keepIn K (.ref f23) = true)
    (a24 : PySem.W.nsIn K mainGlobals "_law_web" = some (some (.ref f24)))
    (l24 : K.lookup f24 = some ⟨oc24, od24, .func (PySem.W.fnOf "_law_web" "_law_web" (defArgs s24) (defBody s24) (defScope s24) .none kV24 dc24 pm24 an24 cd24 ct24), sl24⟩)
    (c24 : PySem.W.codeIn K cd24 "_law_web" = true)
    (k24 : PySem.W.keepIn K (.ref f24) = true)
    (a49 : PySem.W.nsIn K mainGlobals "_law_odd" = some (some (.ref f49)))
    (l49 : K.lookup f49 = some ⟨oc49, od49, .func (PySem.W.fnOf "_law_odd" "_law_odd" (defArgs s49) (defBody s49) (defScope s49) .none kV49 dc49 pm49 an49 cd49 ct49), sl49⟩)
    (c49 : PySem.W.codeIn K cd49 "_law_odd" = true)
    (k49 : PySem.W.keepIn K (.ref f49) = true)
    (a574 : PySem.W.nsIn K mainGlobals "_law_fault" = some (some (.ref f574)))
    (l574 : K.lookup f574 = some ⟨oc574, od574, .func (PySem.W.fnOf "_law_fault" "_law_fault" (defArgs s574) (defBody s574) (defScope s574) .none kV574 dc574 pm574 an574 cd574 ct574), sl574⟩)
    (c574 : PySem.W.codeIn K cd574 "_law_fault" = true)
    (k574 : PySem.W.keepIn K (.ref f574) = true)
    (a575 : PySem.W.nsIn K mainGlobals "_law_bent" = some (some (.ref f575)))
    (l575 : K.lookup f575 = some ⟨oc575, od575, .func (PySem.W.fnOf "_law_bent" "_law_bent" (defArgs s575) (defBody s575) (defScope s575) .none kV575 dc575 pm575 an575 cd575 ct575), sl575⟩)
    (c575 : PySem.W.codeIn K cd575 "_law_bent" = true)
    (k575 : PySem.W.keepIn K (.ref f575) = true)
    (a576 : PySem.W.nsIn K mainGlobals "_law_told" = some (some (.ref f576)))
    (l576 : K.lookup f576 = some ⟨oc576, od576, .func (PySem.W.fnOf "_law_told" "_law_told" (defArgs s576) (defBody s576) (defScope s576) .none kV576 dc576 pm576 an576 cd576 ct576), sl576⟩)
    (c576 : PySem.W.codeIn K cd576 "_law_told" = true)
    (k576 : PySem.W.keepIn K (.ref f576) = true)
    (a577 : PySem.W.nsIn K mainGlobals "law" = some (some (.ref f577)))
    (l577 : K.lookup f577 = some ⟨oc577, od577, .func (PySem.W.fnOf "law" "law" (defArgs s577) (defBody s577) (defScope s577) .none kV577 dc577 pm577 an577 cd577 ct577), sl577⟩)
    (c577 : PySem.W.codeIn K cd577 "law" = true)
    (k577 : PySem.W.keepIn K (.ref f577) = true)
    (a29 : PySem.W.findIn K (.ref C0) "__init__" = some (some (.ref f29)))
    (i29 : PySem.W.isFn K (.ref f29) = true)
    (l29 : K.lookup f29 = some ⟨oc29, od29, .func (PySem.W.fnOf "__init__" "Web.__init__" (defArgs s29) (defBody s29) (defScope s29) .none kV29 dc29 pm29 an29 cd29 ct29), sl29⟩)
    (c29 : PySem.W.codeIn K cd29 "Web.__init__" = true)
    (k29 : PySem.W.keepIn K (.ref f29) = true)
    (a30 : PySem.W.findIn K (.ref C0) "begin" = some (some (.ref f30)))
    (i30 : PySem.W.isFn K (.ref f30) = true)
    (l30 : K.lookup f30 = some ⟨oc30, od30, .func (PySem.W.fnOf "begin" "Web.begin" (defArgs s30) (defBody s30) (defScope s30) .none kV30 dc30 pm30 an30 cd30 ct30), sl30⟩)
    (c30 : PySem.W.codeIn K cd30 "Web.begin" = true)
    (k30 : PySem.W.keepIn K (.ref f30) = true)
    (a39 : PySem.W.findIn K (.ref C0) "__eq__" = some (some (.ref f39)))
    (i39 : PySem.W.isFn K (.ref f39) = true)
    (l39 : K.lookup f39 = some ⟨oc39, od39, .func (PySem.W.fnOf "__eq__" "Web.__eq__" (defArgs s39) (defBody s39) (defScope s39) .none kV39 dc39 pm39 an39 cd39 ct39), sl39⟩)
    (c39 : PySem.W.codeIn K cd39 "Web.__eq__" = true)
    (k39 : PySem.W.keepIn K (.ref f39) = true)
    (pg0 : PySem.W.plainGet K C0 Str.empty = true)
    (hd0 : PySem.W.hasDictIn K C0 = true)
    (po0 : PySem.W.plainOver K C0 = true)
    (sa0 : PySem.W.findIn K (.ref C0) "__setattr__" = some (some (.builtin "object.__setattr__")))
    (mk0 : PySem.W.makesIn K C0 = true)
    (kc0 : PySem.W.keepIn K (.ref C0) = true)
    (ne0 : PySem.W.findIn K (.ref C0) "__ne__" = some (some (.builtin "object.__ne__")))
    (ia0 : PySem.W.findIn K (.ref C0) "__class__" = some (some (.builtin "object.__class__")))
    (im0 : PySem.W.mroIn K C0 (.type "object") = some true)
    (it0_0 : PySem.W.mroIn K C0 (.type "NoneType") = some false)
    (it0_1 : PySem.W.mroIn K C0 (.type "bool") = some false)
    (it0_2 : PySem.W.mroIn K C0 (.type "int") = some false)
    (it0_3 : PySem.W.mroIn K C0 (.type "str") = some false)
    (it0_4 : PySem.W.mroIn K C0 (.type "list") = some false)
    (it0_5 : PySem.W.mroIn K C0 (.type "tuple") = some false)
    (it0_6 : PySem.W.mroIn K C0 (.type "dict") = some false)
    (iy0 : PySem.W.typeIn K (.ref C0) = some (.type "type"))
    (ic0_0 : PySem.W.mroIn K C0 (.ref C0) = some true)
    (n0_0 : PySem.W.findIn K (.ref C0) "size" = some none)
    (n0_1 : PySem.W.findIn K (.ref C0) "near" = some none)
    (n0_2 : PySem.W.findIn K (.ref C0) "whole" = some none)
    (n0_4 : PySem.W.findIn K (.ref C0) "ties" = some none)
    (xn0 : PySem.W.nsIn K mainGlobals "WebError" = some (some (.ref X0)))
    (xn1 : PySem.W.nsIn K mainGlobals "BadWeb" = some (some (.ref X1)))
    (xL0 : K.lookup X0 = some (excClassObj xnm0 xq0 X0 xN0 xbs0 [.type "ValueError", .type "Exception", .type "BaseException", .type "object"] true xsn0 xsub0 xab0 xcol0 xdd0 xm00 xm10 xm20 xm30 xm50 "ValueError.__new__"))
    (xsa0 : PySem.W.findIn K (.ref X0) "__setattr__" = some (some (.builtin "object.__setattr__")))
    (xe0 : PySem.W.subIn K (.ref X0) (.type "BaseException") = some true)
    (xt0 : PySem.W.typeIn K (.ref X0) = some (.type "type"))
    (xk0 : PySem.W.keepIn K (.ref X0) = true)
    (xga0 : PySem.W.findIn K (.ref X0) "__getattribute__" = some (some (.builtin "BaseException.__getattribute__")))
    (xgg0 : PySem.W.findIn K (.ref X0) "__getattr__" = some none)
    (xhd0 : PySem.W.hasDictIn K X0 = true)
    (xha0 : PySem.W.findIn K (.ref X0) "__class__" = some (some (.builtin "object.__class__")))
    (xo0 : PySem.W.mroIn K X0 (.type "object") = some true)
    (xmv0 : PySem.W.mroIn K X0 (.type "ValueError") = some true)
    (xm0_0 : PySem.W.mroIn K X0 (.ref X0) = some true)
    (xm0_1 : PySem.W.mroIn K X0 (.ref X1) = some false)
    (xf0_44 : PySem.W.findIn K (.ref X0) "part" = some none)
    (xii0 : PySem.W.findIn K (.ref X0) "__init__" = some (some (.builtin "ValueError.__init__")))
    (xL1 : K.lookup X1 = some (excClassObj xnm1 xq1 X1 xN1 xbs1 [.ref X0, .type "ValueError", .type "Exception", .type "BaseException", .type "object"] true xsn1 xsub1 xab1 xcol1 xdd1 xm01 xm11 xm21 xm31 xm51 "ValueError.__new__"))
    (xsa1 : PySem.W.findIn K (.ref X1) "__setattr__" = some (some (.builtin "object.__setattr__")))
    (xe1 : PySem.W.subIn K (.ref X1) (.type "BaseException") = some true)
    (xt1 : PySem.W.typeIn K (.ref X1) = some (.type "type"))
    (xk1 : PySem.W.keepIn K (.ref X1) = true)
    (xga1 : PySem.W.findIn K (.ref X1) "__getattribute__" = some (some (.builtin "BaseException.__getattribute__")))
    (xgg1 : PySem.W.findIn K (.ref X1) "__getattr__" = some none)
    (xhd1 : PySem.W.hasDictIn K X1 = true)
    (xha1 : PySem.W.findIn K (.ref X1) "__class__" = some (some (.builtin "object.__class__")))
    (xo1 : PySem.W.mroIn K X1 (.type "object") = some true)
    (xmv1 : PySem.W.mroIn K X1 (.type "ValueError") = some true)
    (xm1_0 : PySem.W.mroIn K X1 (.ref X0) = some true)
    (xm1_1 : PySem.W.mroIn K X1 (.ref X1) = some true)
    (xf1_44 : PySem.W.findIn K (.ref X1) "part" = some none)
    (xi1 : PySem.W.findIn K (.ref X1) "__init__" = some (some (.ref xg1)))
    (xti1 : PySem.W.typeIn K (.ref xg1) = some (.type "function"))
    (xli1 : K.lookup xg1 = some ⟨xoc1, xod1, .func (PySem.W.ksFn "__init__" "BadWeb.__init__" (defArgs xs1) (defBody xs1) (defScope xs1) .none xkV1 xdoc1 xpm1 xan1 (.ref xcda1) xct1 xcc1), xsl1⟩)
    (xci1 : PySem.W.codeIn K (.ref xcda1) "BadWeb.__init__" = true)
    (xdi1 : K.lookup xcda1 = some ⟨xccl1, xcdd1, .fields xvs1, xccs1⟩)
    (xvi1 : xvs1[2]? = some (.str xfile1 xtf1))
    (xfi1 : ((P.main.file : Str) == xfile1) = true)
    (xch1 : K.lookup xcc1 = some ⟨xcl1, xcld1, .cell (some (.ref X1)), xcsl1⟩)
    (xsv1 : PySem.W.subIn K (.ref X1) (.type "ValueError") = some true)
    (xop : PySem.W.nsIn K cStatics "thirdparty.any" = some none)
    (xzs : PySem.W.nsIn K mainGlobals "super" = some none)
    (xht : (P.main.scope.names.lookup ("super" : Str)).isSome = false)
    (xzv : PySem.W.nsIn K mainGlobals "ValueError" = some none)
    (igt : PySem.W.specialIn K (.builtin "object.__class__") "__get__" = some (some (.builtin "getset_descriptor.__get__")))
    (itk : PySem.W.takesIn K (.builtin "object.__class__") = some true)
    (z0 : PySem.W.nsIn K mainGlobals "len" = some none)
    (z1 : PySem.W.nsIn K mainGlobals "isinstance" = some none)
    (z2 : PySem.W.nsIn K mainGlobals "int" = some none)
    (z3 : PySem.W.nsIn K mainGlobals "min" = some none)
    (z4 : PySem.W.nsIn K mainGlobals "max" = some none)
    (z5 : PySem.W.nsIn K mainGlobals "abs" = some none)
    (z6 : PySem.W.nsIn K mainGlobals "tuple" = some none)
    (z7 : PySem.W.nsIn K mainGlobals "list" = some none)
    (z8 : PySem.W.nsIn K mainGlobals "sorted" = some none)
    (z9 : PySem.W.nsIn K mainGlobals "all" = some none)
    (z10 : PySem.W.nsIn K mainGlobals "any" = some none)
    (z11 : PySem.W.nsIn K mainGlobals "sum" = some none)
    (z12 : PySem.W.nsIn K mainGlobals "bool" = some none)
    (z13 : PySem.W.nsIn K mainGlobals "str" = some none)
    (z14 : PySem.W.nsIn K mainGlobals "dict" = some none)
    (z15 : PySem.W.nsIn K mainGlobals "range" = some none)
    (z16 : PySem.W.nsIn K mainGlobals "enumerate" = some none)
    (z17 : PySem.W.nsIn K mainGlobals "zip" = some none)
    (z18 : PySem.W.nsIn K mainGlobals "set" = some none)
    (z19 : PySem.W.nsIn K mainGlobals "repr" = some none)
    (vc0 : PySem.W.nsIn K mainGlobals "MOST_PARTS" = some (some (.int 24 t0)))
    : ∃ fd : FuncData, (∀ (s : Shared) (v : Value), BindsTo s fd ⟨[v], []⟩ [("_law_script", v)]) ∧ ∃ c : Cn, c.K = K ∧ c.ex = none ∧ ∀ base : Heap, ∀ n : Nat, FnR true P w K mg base (L2.CX P w) (2 * n + 1) fl fd ["_law_script"] (spC c (callN Tx.G n) 577) := by
  have e := hfa.symm.trans (PySem.W.mg_of X G a577)
  cases e
  have F0 := fun_mk (st := s0) l0 c0 k0
  have B0 := F0.binds (ps := Pm0) fun _ _ _ _ _ _ us hl => match us, hl with | [_], _ => rfl
  have F1 := fun_mk (st := s1) l1 c1 k1
  have B1 := F1.binds (ps := Pm1) fun _ _ _ _ _ _ us hl => match us, hl with | [_, _, _], _ => rfl
  have F2 := fun_mk (st := s2) l2 c2 k2
  have B2 := F2.binds (ps := Pm2) fun _ _ _ _ _ _ us hl => match us, hl with | [_], _ => rfl
  have F7 := fun_mk (st := s7) l7 c7 k7
  have B7 := F7.binds (ps := Pm7) fun _ _ _ _ _ _ us hl => match us, hl with | [_, _], _ => rfl
  have F17 := fun_mk (st := s17) l17 c17 k17
  have B17 := F17.binds (ps := Pm17) fun _ _ _ _ _ _ us hl => match us, hl with | [_], _ => rfl
  have F18 := fun_mk (st := s18) l18 c18 k18
  have B18 := F18.binds (ps := Pm18) fun _ _ _ _ _ _ us hl => match us, hl with | [_, _], _ => rfl
  have F19 := fun_mk (st := s19) l19 c19 k19
  have B19 := F19.binds (ps := Pm19) fun _ _ _ _ _ _ us hl => match us, hl with | [_], _ => rfl
  have F47 := fun_mk (st := s47) l47 c47 k47
  have B47 := F47.binds (ps := Pm47) fun _ _ _ _ _ _ us hl => match us, hl with | [_, _], _ => rfl
  have F21 := fun_mk (st := s21) l21 c21 k21
  have B21 := F21.binds (ps := Pm21) fun _ _ _ _ _ _ us hl => match us, hl with | [_, _], _ => rfl
  have F48 := fun_mk (st := s48) l48 c48 k48
  have B48 := F48.binds (ps := Pm48) fun _ _ _ _ _ _ us hl => match us, hl with | [], _ => rfl
  have F22 := fun_mk (st := s22) l22 c22 k22
  have B22 := F22.binds (ps := Pm22) fun _ _ _ _ _ _ us hl => match us, hl with | [_, _], _ => rfl
  have F23 := fun_mk (st := s23) l23 c23 k23
  have B23 := F23.binds (ps := Pm23) fun _ _ _ _ _ _ us hl => match us, hl with | [_, _], _ => rfl
  have F24 := fun_mk (st := s24) l24 c24 k24
  have B24 := F24.binds (ps := Pm24) fun _ _ _ _ _ _ us hl => match us, hl with | [_, _], _ => rfl
  have F49 := fun_mk (st := s49) l49 c49 k49
  have B49 := F49.binds (ps := Pm49) fun _ _ _ _ _ _ us hl => match us, hl with | [_, _, _], _ => rfl
  have F574 := fun_mk (st := s574) l574 c574 k574
  have B574 := F574.binds (ps := Pm574) fun _ _ _ _ _ _ us hl => match us, hl with | [_, _], _ => rfl
  have F575 := fun_mk (st := s575) l575 c575 k575
  have B575 := F575.binds (ps := Pm575) fun _ _ _ _ _ _ us hl => match us, hl with | [_, _, _, _], _ => rfl
  have F576 := fun_mk (st := s576) l576 c576 k576
  have B576 := F576.binds (ps := Pm576) fun _ _ _ _ _ _ us hl => match us, hl with | [_, _], _ => rfl
  have F577 := fun_mk (st := s577) l577 c577 k577
  have B577 := F577.binds (ps := Pm577) fun _ _ _ _ _ _ us hl => match us, hl with | [_], _ => rfl
  have F29 := fun_mk (st := s29) l29 c29 k29
  have B29 := F29.binds (ps := Pm29) fun _ _ _ _ _ _ us hl => match us, hl with | [_, _, _], _ => rfl
  have F30 := fun_mk (st := s30) l30 c30 k30
  have B30 := F30.binds (ps := Pm30) fun _ _ _ _ _ _ us hl => match us, hl with | [_, _, _], _ => rfl
  have F39 := fun_mk (st := s39) l39 c39 k39
  have B39 := F39.binds (ps := Pm39) fun _ _ _ _ _ _ us hl => match us, hl with | [_, _], _ => rfl
  have K0 : Cls K C0 := ⟨pg0, hd0, po0, sa0⟩
  have isc : ∀ q ∈ ([(0, C0)] : List (Nat × Addr)), IsC K [(0, C0)] q.1 q.2 := mc (isC_mk K0 ia0 igt itk im0 iy0 (fun t => by cases t; exact it0_0; exact it0_1; exact it0_2; exact it0_3; exact it0_4; exact it0_5; exact it0_6) ic0_0 (mc (.inl ⟨rfl, rfl⟩) mc_nil)) mc_nil
  let c : Cn := ⟨K, [(0, C0)], tb.attrs, by decide +kernel, fun ci f => (Tx.G.cls.lookup ci).any fun k => k.fl.contains f, isc, [(0, X0), (1, X1)], none⟩
  let fa : Nat → Addr := fun i => ([((0 : Nat), f0), ((1 : Nat), f1), ((2 : Nat), f2), ((7 : Nat), f7), ((17 : Nat), f17), ((18 : Nat), f18), ((19 : Nat), f19), ((47 : Nat), f47), ((21 : Nat), f21), ((48 : Nat), f48), ((22 : Nat), f22), ((23 : Nat), f23), ((24 : Nat), f24), ((49 : Nat), f49), ((574 : Nat), f574), ((575 : Nat), f575), ((576 : Nat), f576), ((577 : Nat), f577), ((29 : Nat), f29), ((30 : Nat), f30), ((39 : Nat), f39)].lookup i).getD 0
  let fd : Nat → FuncData := fun i => ([((0 : Nat), PySem.W.fnOf "is_integer" "is_integer" (defArgs s0) (defBody s0) (defScope s0) .none kV0 dc0 pm0 an0 cd0 ct0), ((1 : Nat), PySem.W.fnOf "is_between" "is_between" (defArgs s1) (defBody s1) (defScope s1) .none kV1 dc1 pm1 an1 cd1 ct1), ((2 : Nat), PySem.W.fnOf "is_pair" "is_pair" (defArgs s2) (defBody s2) (defScope s2) .none kV2 dc2 pm2 an2 cd2 ct2), ((7 : Nat), PySem.W.fnOf "is_tie" "is_tie" (defArgs s7) (defBody s7) (defScope s7) .none kV7 dc7 pm7 an7 cd7 ct7), ((17 : Nat), PySem.W.fnOf "_law_tape" "_law_tape" (defArgs s17) (defBody s17) (defScope s17) .none kV17 dc17 pm17 an17 cd17 ct17), ((18 : Nat), PySem.W.fnOf "_law_pick" "_law_pick" (defArgs s18) (defBody s18) (defScope s18) .none kV18 dc18 pm18 an18 cd18 ct18), ((19 : Nat), PySem.W.fnOf "_law_is_integer" "_law_is_integer" (defArgs s19) (defBody s19) (defScope s19) .none kV19 dc19 pm19 an19 cd19 ct19), ((47 : Nat), PySem.W.fnOf "_law_is_lot" "_law_is_lot" (defArgs s47) (defBody s47) (defScope s47) .none kV47 dc47 pm47 an47 cd47 ct47), ((21 : Nat), PySem.W.fnOf "_law_same" "_law_same" (defArgs s21) (defBody s21) (defScope s21) .none kV21 dc21 pm21 an21 cd21 ct21), ((48 : Nat), PySem.W.fnOf "_law_deep" "_law_deep" (defArgs s48) (defBody s48) (defScope s48) .none kV48 dc48 pm48 an48 cd48 ct48), ((22 : Nat), PySem.W.fnOf "_law_any" "_law_any" (defArgs s22) (defBody s22) (defScope s22) .none kV22 dc22 pm22 an22 cd22 ct22), ((23 : Nat), PySem.W.fnOf "_law_mixed" "_law_mixed" (defArgs s23) (defBody s23) (defScope s23) .none kV23 dc23 pm23 an23 cd23 ct23), ((24 : Nat), PySem.W.fnOf "_law_web" "_law_web" (defArgs s24) (defBody s24) (defScope s24) .none kV24 dc24 pm24 an24 cd24 ct24), ((49 : Nat), PySem.W.fnOf "_law_odd" "_law_odd" (defArgs s49) (defBody s49) (defScope s49) .none kV49 dc49 pm49 an49 cd49 ct49), ((574 : Nat), PySem.W.fnOf "_law_fault" "_law_fault" (defArgs s574) (defBody s574) (defScope s574) .none kV574 dc574 pm574 an574 cd574 ct574), ((575 : Nat), PySem.W.fnOf "_law_bent" "_law_bent" (defArgs s575) (defBody s575) (defScope s575) .none kV575 dc575 pm575 an575 cd575 ct575), ((576 : Nat), PySem.W.fnOf "_law_told" "_law_told" (defArgs s576) (defBody s576) (defScope s576) .none kV576 dc576 pm576 an576 cd576 ct576), ((577 : Nat), PySem.W.fnOf "law" "law" (defArgs s577) (defBody s577) (defScope s577) .none kV577 dc577 pm577 an577 cd577 ct577), ((29 : Nat), PySem.W.fnOf "__init__" "Web.__init__" (defArgs s29) (defBody s29) (defScope s29) .none kV29 dc29 pm29 an29 cd29 ct29), ((30 : Nat), PySem.W.fnOf "begin" "Web.begin" (defArgs s30) (defBody s30) (defScope s30) .none kV30 dc30 pm30 an30 cd30 ct30), ((39 : Nat), PySem.W.fnOf "__eq__" "Web.__eq__" (defArgs s39) (defBody s39) (defScope s39) .none kV39 dc39 pm39 an39 cd39 ct39)].lookup i).getD (PySem.W.fnOf "" "" (defArgs s0) (defBody s0) (defScope s0) .none kV0 dc0 pm0 an0 cd0 ct0)
  let ps : Nat → List Str := fun i => ([((0 : Nat), Pm0), ((1 : Nat), Pm1), ((2 : Nat), Pm2), ((7 : Nat), Pm7), ((17 : Nat), Pm17), ((18 : Nat), Pm18), ((19 : Nat), Pm19), ((47 : Nat), Pm47), ((21 : Nat), Pm21), ((48 : Nat), Pm48), ((22 : Nat), Pm22), ((23 : Nat), Pm23), ((24 : Nat), Pm24), ((49 : Nat), Pm49), ((574 : Nat), Pm574), ((575 : Nat), Pm575), ((576 : Nat), Pm576), ((577 : Nat), Pm577), ((29 : Nat), Pm29), ((30 : Nat), Pm30), ((39 : Nat), Pm39)].lookup i).getD []
  have qcall : ∀ q ∈ tb.fn, (tb.G.fns.lookup q.1).isSome = true ∧ mg q.2 = some (.ref (fa q.1)) := mc (⟨rfl, PySem.W.mg_of X G a0⟩) (mc (⟨rfl, PySem.W.mg_of X G a1⟩) (mc (⟨rfl, PySem.W.mg_of X G a2⟩) (mc (⟨rfl, PySem.W.mg_of X G a7⟩) (mc (⟨rfl, PySem.W.mg_of X G a17⟩) (mc (⟨rfl, PySem.W.mg_of X G a18⟩) (mc (⟨rfl, PySem.W.mg_of X G a19⟩) (mc (⟨rfl, PySem.W.mg_of X G a47⟩) (mc (⟨rfl, PySem.W.mg_of X G a21⟩) (mc (⟨rfl, PySem.W.mg_of X G a48⟩) (mc (⟨rfl, PySem.W.mg_of X G a22⟩) (mc (⟨rfl, PySem.W.mg_of X G a23⟩) (mc (⟨rfl, PySem.W.mg_of X G a24⟩) (mc (⟨rfl, PySem.W.mg_of X G a49⟩) (mc (⟨rfl, PySem.W.mg_of X G a574⟩) (mc (⟨rfl, PySem.W.mg_of X G a575⟩) (mc (⟨rfl, PySem.W.mg_of X G a576⟩) (mc (⟨rfl, PySem.W.mg_of X G a577⟩) mc_nil)))))))))))))))))
  have qbind : ∀ q ∈ tb.G.fns, PySem.W.keepIn K (.ref (fa q.1)) = true ∧ Binds K (fd q.1) (ps q.1) [] := mc (⟨k0, B0⟩) (mc (⟨k1, B1⟩) (mc (⟨k2, B2⟩) (mc (⟨k7, B7⟩) (mc (⟨k17, B17⟩) (mc (⟨k18, B18⟩) (mc (⟨k19, B19⟩) (mc (⟨k47, B47⟩) (mc (⟨k21, B21⟩) (mc (⟨k48, B48⟩) (mc (⟨k22, B22⟩) (mc (⟨k23, B23⟩) (mc (⟨k24, B24⟩) (mc (⟨k49, B49⟩) (mc (⟨k574, B574⟩) (mc (⟨k575, B575⟩) (mc (⟨k576, B576⟩) (mc (⟨k577, B577⟩) (mc (⟨k29, B29⟩) (mc (⟨k30, B30⟩) (mc (⟨k39, B39⟩) mc_nil))))))))))))))))))))
  have qmake : ∀ q ∈ tb.cls, ∀ kk, tb.G.cls.lookup q.1 = some kk → ∃ C, c.cls.lookup q.1 = some C ∧ Mk K C (fa kk.init) ∧ mg q.2 = some (.ref C) ∧ (tb.G.fns.lookup kk.init).isSome = true := mc (fun kk hk => by cases hk; exact ⟨C0, rfl, ⟨mk0, a29, i29, kc0⟩, PySem.W.mg_of X G aC0, rfl⟩) mc_nil
  have qmeth : ∀ q ∈ tb.G.cls, ∀ r ∈ q.2.ms, ∀ x, tb.attrs[r.1]? = some x → ∃ C, c.cls.lookup q.1 = some C ∧ Cls K C ∧ Meth K C x (fa r.2) ∧ (tb.G.fns.lookup r.2).isSome = true := mc (mc (fun x hx => by cases hx; exact ⟨C0, rfl, K0, ⟨a30, i30, k30⟩, rfl⟩) mc_nil) mc_nil
  have qeqs : ∀ q ∈ tb.G.cls, ∀ f, q.2.eq = some f → ∃ C, c.cls.lookup q.1 = some C ∧ OwnE K C (fa f) ∧ (tb.G.fns.lookup f).isSome = true := mc (fun f hf => by cases hf; exact ⟨C0, rfl, ⟨a39, ne0, i39⟩, rfl⟩) mc_nil
  have qfld : ∀ q ∈ c.cls, Cls K q.2 ∧ ∀ kk, tb.G.cls.lookup q.1 = some kk → ∀ f ∈ kk.fl, ∀ x, tb.attrs[f]? = some x → NoAttr K q.2 x := mc (⟨K0, fun kk hk => by cases hk; exact mc (fun x hx => by cases hx; exact n0_0) (mc (fun x hx => by cases hx; exact n0_1) (mc (fun x hx => by cases hx; exact n0_2) (mc (fun x hx => by cases hx; exact n0_4) mc_nil)))⟩) mc_nil
  have xS1 : SupI K P mg X1 xg1 (defBody xs1) (defScope xs1) ["self", "part"] := ⟨⟨⟨_, _, _, _, _, _, _, _, _, _, _, _, _, _, _, xL1, rfl⟩, xsa1, xe1, xt1, xk1⟩, xi1, xti1, ⟨_, _, _, _, _, _, _, _, _, _, _, _, _, _, _, _, _, _, _, _, _, _, _, xli1, xci1, rfl, rfl, fun us hl => (match us, hl with | [_, _], _ => rfl), xdi1, xvi1, xfi1, xch1⟩, sup_of xL1 xL0 xii0, xsv1, xm1_1, xop, PySem.W.mg_none_of X G xzs, xht, rfl, rfl, rfl, mc (rfl) (mc (rfl) mc_nil), rfl, rfl, by decide +kernel, ⟨_, rfl, by decide +kernel⟩⟩
  have x1 : ∀ q ∈ c.exc, ∃ ec, tb.G.exc.lookup q.1 = some ec ∧ ExcC K q.2 ∧ PySem.W.kitOne K (.ref q.2) (.type "ValueError") = some true ∧ ∀ r ∈ c.exc, PySem.W.kitOne K (.ref q.2) (.ref r.2) = some (ec.up.contains r.1) ∧ PySem.W.exmOne K (.ref q.2) (.ref r.2) = some (ec.up.contains r.1) := mc (⟨ec0, rfl, ⟨xga0, xgg0, xe0, xhd0, xha0, igt, itk, xo0⟩, kit_VE xmv0, mc (pair_ok xm0_0 xt0 xo0 xe0 xhd0 xm0_0) (mc (pair_ok xm0_0 xt1 xo1 xe1 xhd1 xm0_1) mc_nil)⟩) (mc (⟨ec1, rfl, ⟨xga1, xgg1, xe1, xhd1, xha1, igt, itk, xo1⟩, kit_VE xmv1, mc (pair_ok xm1_1 xt0 xo0 xe0 xhd0 xm1_0) (mc (pair_ok xm1_1 xt1 xo1 xe1 xhd1 xm1_1) mc_nil)⟩) mc_nil)
  have x2 : ∀ q ∈ c.exc, ∀ p ∈ tb.G.exc, ∀ f, p.2.fld = some f → ∀ n, tb.attrs[f]? = some n → PySem.W.findIn K (.ref q.2) n = some none := mc (mc (fun f hf => by cases hf) (mc (fun f hf n hn => by cases hf; cases hn; exact xf0_44) mc_nil)) (mc (mc (fun f hf => by cases hf) (mc (fun f hf n hn => by cases hf; cases hn; exact xf1_44) mc_nil)) mc_nil)
  have x3 : ∀ q ∈ tb.xn, ∃ C, c.exc.lookup q.1 = some C ∧ mg q.2 = some (.ref C) := mc (⟨_, rfl, PySem.W.mg_of X G xn0⟩) (mc (⟨_, rfl, PySem.W.mg_of X G xn1⟩) mc_nil)
  have x5 : ∀ q ∈ c.exc, ∀ ec, tb.G.exc.lookup q.1 = some ec → ec.rs = true → (ec.fld = none → RaiseF K P mg q.2 none) ∧ ∀ f, ec.fld = some f → ∃ n, tb.attrs[f]? = some n ∧ RaiseF K P mg q.2 (some n) := mc (fun ec he hr => by cases he; cases hr) (mc (fun ec he hr => by cases he; exact ⟨fun hf => (by cases hf), fun f hf => (by cases hf; exact ⟨_, rfl, raise_B xb1 xS1 xf1_44 (by decide +kernel)⟩)⟩) mc_nil)
  have T : Ev.Txt P K mg c tb fa fd ps :=
    { cK := rfl, attrs := rfl, exc := excOk_mk x1 x2 x3 (PySem.W.mg_none_of X G xzv) x5, ex0 := rfl, cur0 := rfl,
      call := fun f x hx => qcall (f, x) (mem_lk hx)
      bind := fun f fn hf => qbind (f, fn) (mem_lk hf)
      make := fun ci x kk hx hk => qmake (ci, x) (mem_lk hx) kk hk
      meth := fun ci kk m x f hk hm hx => qmeth (ci, kk) (mem_lk hk) (m, f) (mem_lk hm) x hx
      eqs := fun ci kk f hk hf => qeqs (ci, kk) (mem_lk hk) f hf
      blt := fun x hx => by
        simp only [bltNames, List.mem_cons, List.mem_nil_iff, or_false] at hx
        rcases hx with rfl | rfl | rfl | rfl | rfl | rfl | rfl | rfl | rfl | rfl | rfl | rfl | rfl | rfl | rfl | rfl | rfl | rfl | rfl | rfl
        · exact PySem.W.mg_none_of X G z0
        · exact PySem.W.mg_none_of X G z1
        · exact PySem.W.mg_none_of X G z2
        · exact PySem.W.mg_none_of X G z3
        · exact PySem.W.mg_none_of X G z4
        · exact PySem.W.mg_none_of X G z5
        · exact PySem.W.mg_none_of X G z6
        · exact PySem.W.mg_none_of X G z7
        · exact PySem.W.mg_none_of X G z8
        · exact PySem.W.mg_none_of X G z9
        · exact PySem.W.mg_none_of X G z10
        · exact PySem.W.mg_none_of X G z11
        · exact PySem.W.mg_none_of X G z12
        · exact PySem.W.mg_none_of X G z13
        · exact PySem.W.mg_none_of X G z14
        · exact PySem.W.mg_none_of X G z15
        · exact PySem.W.mg_none_of X G z16
        · exact PySem.W.mg_none_of X G z17
        · exact PySem.W.mg_none_of X G z18
        · exact PySem.W.mg_none_of X G z19
      glob := mc (⟨_, _, .int 24, rfl, PySem.W.mg_of X G vc0, ⟨_, rfl⟩, fun y Z => rfl⟩) mc_nil
      fld := fun f x hx ci C hC => ⟨(qfld (ci, C) (mem_lk hC)).1, fun ok => by
        have ok' : ((Tx.G.cls.lookup ci).any fun k => k.fl.contains f) = true := ok
        cases hk : Tx.G.cls.lookup ci with
        | none => rw [hk] at ok'; cases ok'
        | some kk => rw [hk] at ok'; exact (qfld (ci, C) (mem_lk hC)).2 kk hk f (by simpa using ok') x hx⟩
      fok := fun f ci kk hk hf => by
        show ((Tx.G.cls.lookup ci).any fun k => k.fl.contains f) = true
        rw [show Tx.G.cls.lookup ci = some kk from hk]; exact hf }
  have qD : ∀ q ∈ tb.G.fns, DefAt K tb (tb.full q.1) q.2 (fa q.1) (fd q.1) (ps q.1) := mc (⟨_, _, _, Nm0, F0, sc0, rfl, rfl, ch0⟩) (mc (⟨_, _, _, Nm1, F1, sc1, rfl, rfl, ch1⟩) (mc (⟨_, _, _, Nm2, F2, sc2, rfl, rfl, ch2⟩) (mc (⟨_, _, _, Nm7, F7, sc7, rfl, rfl, ch7⟩) (mc (⟨_, _, _, Nm17, F17, sc17, rfl, rfl, ch17⟩) (mc (⟨_, _, _, Nm18, F18, sc18, rfl, rfl, ch18⟩) (mc (⟨_, _, _, Nm19, F19, sc19, rfl, rfl, ch19⟩) (mc (⟨_, _, _, Nm47, F47, sc47, rfl, rfl, ch47⟩) (mc (⟨_, _, _, Nm21, F21, sc21, rfl, rfl, ch21⟩) (mc (⟨_, _, _, Nm48, F48, sc48, rfl, rfl, ch48⟩) (mc (⟨_, _, _, Nm22, F22, sc22, rfl, rfl, ch22⟩) (mc (⟨_, _, _, Nm23, F23, sc23, rfl, rfl, ch23⟩) (mc (⟨_, _, _, Nm24, F24, sc24, rfl, rfl, ch24⟩) (mc (⟨_, _, _, Nm49, F49, sc49, rfl, rfl, ch49⟩) (mc (⟨_, _, _, Nm574, F574, sc574, rfl, rfl, ch574⟩) (mc (⟨_, _, _, Nm575, F575, sc575, rfl, rfl, ch575⟩) (mc (⟨_, _, _, Nm576, F576, sc576, rfl, rfl, ch576⟩) (mc (⟨_, _, _, Nm577, F577, sc577, rfl, rfl, ch577⟩) (mc (⟨_, _, _, Nm29, F29, sc29, rfl, rfl, ch29⟩) (mc (⟨_, _, _, Nm30, F30, sc30, rfl, rfl, ch30⟩) (mc (⟨_, _, _, Nm39, F39, sc39, rfl, rfl, ch39⟩) mc_nil))))))))))))))))))))
  exact ⟨fd 577, fun s v => .of_eq rfl, c, rfl, rfl, fun base n => (fns_ok T (fun f fn hf => qD (f, fn) (mem_lk hf)) n 577 Tx.f577 rfl).weak⟩
end Tx
open PySem PySem.W PyProof.Rows
set_option maxRecDepth 100000 in
set_option maxHeartbeats 0 in
theorem PySem.Challenge.cw_silencers_k01_webs_judged_holds : PySem.Challenge.rw_silencers_k01_webs_judged.Holds := by
  w_on; o_law; k_head; (case hw => w_witness2)
  k_fill
  refine Ev.walk (x := "_law_script") (G := Tx.G) (n := 110) (f := 577) (l := PySem.Challenge.rw_silencers_k01_webs_judged) rfl rfl (fun w h Y => PySem.W.kIn_of Y) ⟨rfl, by decide, by decide⟩ Tx.law_ok ?F
  case F =>
    intro w mg fa h KX G hmg
    refine' Tx.all_mk KX G hmg ?aC0 ?a0 ?l0 ?c0 ?k0 ?a1 ?l1 ?c1 ?k1 ?a2 ?l2 ?c2 ?k2 ?a7 ?l7 ?c7 ?k7 ?a17 ?l17 ?c17 ?k17 ?a18 ?l18 ?c18 ?k18 ?a19 ?l19 ?c19 ?k19 ?a47 ?l47 ?c47 ?k47 ?a21 ?l21 ?c21 ?k21 ?a48 ?l48 ?c48 ?k48 ?a22 ?l22 ?c22 ?k22 ?a23 ?l23 ?c23 ?k23 ?a24 ?l24 ?c24 ?k24 ?a49 ?l49 ?c49 ?k49 ?a574 ?l574 ?c574 ?k574 ?a575 ?l575 ?c575 ?k575 ?a576 ?l576 ?c576 ?k576 ?a577 ?l577 ?c577 ?k577 ?a29 ?i29 ?l29 ?c29 ?k29 ?a30 ?i30 ?l30 ?c30 ?k30 ?a39 ?i39 ?l39 ?c39 ?k39 ?pg0 ?hd0 ?po0 ?sa0 ?mk0 ?kc0 ?ne0 ?ia0 ?im0 ?it0_0 ?it0_1 ?it0_2 ?it0_3 ?it0_4 ?it0_5 ?it0_6 ?iy0 ?ic0_0 ?n0_0 ?n0_1 ?n0_2 ?n0_4 ?xn0 ?xn1 ?xL0 ?xsa0 ?xe0 ?xt0 ?xk0 ?xga0 ?xgg0 ?xhd0 ?xha0 ?xo0 ?xmv0 ?xm0_0 ?xm0_1 ?xf0_44 ?xii0 ?xL1 ?xsa1 ?xe1 ?xt1 ?xk1 ?xga1 ?xgg1 ?xhd1 ?xha1 ?xo1 ?xmv1 ?xm1_0 ?xm1_1 ?xf1_44 ?xi1 ?xti1 ?xli1 ?xci1 ?xdi1 ?xvi1 ?xfi1 ?xch1 ?xsv1 ?xop ?xzs ?xht ?xzv ?igt ?itk ?z0 ?z1 ?z2 ?z3 ?z4 ?z5 ?z6 ?z7 ?z8 ?z9 ?z10 ?z11 ?z12 ?z13 ?z14 ?z15 ?z16 ?z17 ?z18 ?z19 ?vc0
    (case aC0 => k_is)
    (case a0 => k_is)
    (case l0 => k_is)
    (case c0 => k_is)
    (case k0 => k_is)
    (case a1 => k_is)
    (case l1 => k_is)
    (case c1 => k_is)
    (case k1 => k_is)
    (case a2 => k_is)
    (case l2 => k_is)
    (case c2 => k_is)
    (case k2 => k_is)
    (case a7 => k_is)
    (case l7 => k_is)
    (case c7 => k_is)
    (case k7 => k_is)
    (case a17 => k_is)
    (case l17 => k_is)
    (case c17 => k_is)
    (case k17 => k_is)
    (case a18 => k_is)
    (case l18 => k_is)
    (case c18 => k_is)
    (case k18 => k_is)
    (case a19 => k_is)
    (case l19 => k_is)
    (case c19 => k_is)
    (case k19 => k_is)
    (case a47 => k_is)
    (case l47 => k_is)
    (case c47 => k_is)
    (case k47 => k_is)
    (case a21 => k_is)
    (case l21 => k_is)
    (case c21 => k_is)
    (case k21 => k_is)
    (case a48 => k_is)
    (case l48 => k_is)
    (case c48 => k_is)
    (case k48 => k_is)
    (case a22 => k_is)
    (case l22 => k_is)
    (case c22 => k_is)
    (case k22 => k_is)
    (case a23 => k_is)
    (case l23 => k_is)
    (case c23 => k_is)
    (case k23 => k_is)
    (case a24 => k_is)
    (case l24 => k_is)
    (case c24 => k_is)
    (case k24 => k_is)
    (case a49 => k_is)
    (case l49 => k_is)
    (case c49 => k_is)
    (case k49 => k_is)
    (case a574 => k_is)
    (case l574 => k_is)
    (case c574 => k_is)
    (case k574 => k_is)
    (case a575 => k_is)
    (case l575 => k_is)
    (case c575 => k_is)
    (case k575 => k_is)
    (case a576 => k_is)
    (case l576 => k_is)
    (case c576 => k_is)
    (case k576 => k_is)
    (case a577 => k_is)
    (case l577 => k_is)
    (case c577 => k_is)
    (case k577 => k_is)
    (case a29 => k_is)
    (case i29 => k_is)
    (case l29 => k_is)
    (case c29 => k_is)
    (case k29 => k_is)
    (case a30 => k_is)
    (case i30 => k_is)
    (case l30 => k_is)
    (case c30 => k_is)
    (case k30 => k_is)
    (case a39 => k_is)
    (case i39 => k_is)
    (case l39 => k_is)
    (case c39 => k_is)
    (case k39 => k_is)
    (case pg0 => k_is)
    (case hd0 => k_is)
    (case po0 => k_is)
    (case sa0 => k_is)
    (case mk0 => k_is)
    (case kc0 => k_is)
    (case ne0 => k_is)
    (case ia0 => k_is)
    (case im0 => k_is)
    (case it0_0 => k_is)
    (case it0_1 => k_is)
    (case it0_2 => k_is)
    (case it0_3 => k_is)
    (case it0_4 => k_is)
    (case it0_5 => k_is)
    (case it0_6 => k_is)
    (case iy0 => k_is)
    (case ic0_0 => k_is)
    (case n0_0 => k_is)
    (case n0_1 => k_is)
    (case n0_2 => k_is)
    (case n0_4 => k_is)
    (case xn0 => k_is)
    (case xn1 => k_is)
    (case xL0 => k_is)
    (case xsa0 => k_is)
    (case xe0 => k_is)
    (case xt0 => k_is)
    (case xk0 => k_is)
    (case xga0 => k_is)
    (case xgg0 => k_is)
    (case xhd0 => k_is)
    (case xha0 => k_is)
    (case xo0 => k_is)
    (case xmv0 => k_is)
    (case xm0_0 => k_is)
    (case xm0_1 => k_is)
    (case xf0_44 => k_is)
    (case xii0 => k_is)
    (case xL1 => k_is)
    (case xsa1 => k_is)
    (case xe1 => k_is)
    (case xt1 => k_is)
    (case xk1 => k_is)
    (case xga1 => k_is)
    (case xgg1 => k_is)
    (case xhd1 => k_is)
    (case xha1 => k_is)
    (case xo1 => k_is)
    (case xmv1 => k_is)
    (case xm1_0 => k_is)
    (case xm1_1 => k_is)
    (case xf1_44 => k_is)
    (case xi1 => k_is)
    (case xti1 => k_is)
    (case xli1 => k_is)
    (case xci1 => k_is)
    (case xdi1 => k_is)
    (case xvi1 => first | k_is | rfl)
    (case xfi1 => first | k_is | rfl | decide +kernel)
    (case xch1 => k_is)
    (case xsv1 => k_is)
    (case xop => k_is)
    (case xzs => k_is)
    (case xht => first | rfl | decide +kernel)
    (case xzv => k_is)
    (case igt => k_is)
    (case itk => k_is)
    (case z0 => k_is)
    (case z1 => k_is)
    (case z2 => k_is)
    (case z3 => k_is)
    (case z4 => k_is)
    (case z5 => k_is)
    (case z6 => k_is)
    (case z7 => k_is)
    (case z8 => k_is)
    (case z9 => k_is)
    (case z10 => k_is)
    (case z11 => k_is)
    (case z12 => k_is)
    (case z13 => k_is)
    (case z14 => k_is)
    (case z15 => k_is)
    (case z16 => k_is)
    (case z17 => k_is)
    (case z18 => k_is)
    (case z19 => k_is)
    (case vc0 => k_is)
