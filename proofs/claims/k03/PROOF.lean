import PyProof.Rows.All
import Wide.All
import OpenK.AllK
import Wide.FinOn
import KE.DataEq
import KE.IntText
import KE.SortData
import KE.DataMinMax
import HandS.ForMost
import HandS.Evl
import HandS.Exc
import HandS.WordsExc
import HandS.CallSlots
import HandS.Flow
import HandS.Star
import HandS.Style
import HandS.Iter
import HandS.HeadHook1
import HandS.TupAny
import HandS.TupMul
import HandS.Deep
import KE.DataCmp
import HandS.Text
import HandS.SetFor
import HandS.IsInst
import HandS.ExcOwn
import KE.GoesEnum
import HandS.TupSets
import HandS.Strs
import KE.KeyNested
import HandS.ExcIs
import HandS.ExcField
import HandS.ExcInit
import HandS.ExcSuper
import HandS.ExcValue
import KE.KExcSuper
import HandS.Property
import HandS.Zip
import KE.GoesEnumKw
import KE.GoesMore
import HandS.Dict
import HandS.NoneIn
import HandS.Defaults
import HandS.Head0
import HandS.Head1
import HandS.Head2
import HandS.HeadEnd
import HandS.HeadHook2
import Lean
import KE.KStateDown
import HandS.Ends
import HandS.More
import HandS.Words
import PySem.Challenge.RW_fullpieces_k03_web_texts
set_option Elab.async false
set_option linter.all false
set_option maxRecDepth 100000
namespace Pe
open PySem

inductive D where
  | non | bl (b : Bool) | int (i : Int) | str (x : Str) | tup (xs : List D) | lst (xs : List D) | ref (n : Nat) | scr (is : List Int)
  | dct0 | exn (c : Str) (ns : List Str) (xs : List D)
  deriving Inhabited
mutual
def D.py : D → PyData
  | .non => .none
  | .bl b => .bool b
  | .int i => .int i
  | .str x => .str x
  | .tup xs => .tuple (D.pys xs)
  | .lst xs => .list (D.pys xs)
  | .ref _ => .dict []
  | .scr _ => .dict []
  | .dct0 => .dict []
  | .exn _ _ _ => .dict []
def D.pys : List D → List PyData
  | [] => []
  | d :: ds => d.py :: D.pys ds
end
mutual
/-- no reference in it, at most n deep -/
def D.ok : Nat → D → Bool
  | _, .non => true
  | _, .bl _ => true
  | _, .int _ => true
  | _, .str _ => true
  | 0, .tup _ => false
  | 0, .lst _ => false
  | n + 1, .tup xs => D.oks n xs
  | n + 1, .lst xs => D.oks n xs
  | _, .ref _ => false
  | _, .scr _ => false
  | _, .dct0 => false
  | _, .exn _ _ _ => false
def D.oks : Nat → List D → Bool
  | _, [] => true
  | n, d :: ds => d.ok n && D.oks n ds
end
mutual
/-- None, whole numbers, and tuples of such, at most n deep -/
def D.nk : Nat → D → Bool
  | _, .non => true
  | _, .int _ => true
  | n + 1, .tup xs => D.nks n xs
  | _, _ => false
def D.nks : Nat → List D → Bool
  | _, [] => true
  | n, d :: ds => d.nk n && D.nks n ds
end
/-- data that may be compared, and handed to a pure call -/
def D.fine (d : D) : Bool := d.ok 20

structure Exn where
  c : Str
  ns : List Str
  xs : List D

inductive Cell where
  | lst (xs : List D)
  | dct (kvs : List (D × D))
  | obj (c : Str) (fs : List (Str × D))

structure Store where
  nx : Nat
  cs : List (Nat × Cell)

inductive R (α : Type) where
  | ok (a : α) (s : Store)
  | exc (x : Exn) (s : Store)
  | bad

abbrev M (α : Type) := Store → R α
def M.ret {α : Type} (a : α) : M α := fun s => .ok a s
def M.no {α : Type} : M α := fun _ => .bad
def M.bnd {α β : Type} (m : M α) (k : α → M β) : M β := fun s => match m s with
  | .ok a s' => k a s'
  | .exc x s' => .exc x s'
  | .bad => .bad
def M.opt {α : Type} : Option α → M α
  | some a => M.ret a
  | none => M.no

/-- what an expression gives: data that stays as it is, or a new list that nothing else holds -/
inductive Fv where
  | fz (d : D)
  | nw (xs : List D)
def Fv.d : Fv → D
  | .fz d => d
  | .nw xs => .lst xs

def Store.get (s : Store) (n : Nat) : Option Cell := s.cs.lookup n
def setL {α : Type} (n : Nat) (c : α) : List (Nat × α) → List (Nat × α)
  | [] => []
  | (m, d) :: r => if m = n then (m, c) :: r else (m, d) :: setL n c r
def Store.put (s : Store) (n : Nat) (c : Cell) : Store := { s with cs := setL n c s.cs }
def Store.del (s : Store) (n : Nat) : Store := { s with cs := s.cs.filter fun p => p.1 != n }
def Store.new (s : Store) (c : Cell) : Store := ⟨s.nx + 1, (s.nx, c) :: s.cs⟩
def Store.mt : Store := ⟨0, []⟩
/-- a reference to a list is read as the list -/
def Store.see (s : Store) : D → D
  | .ref n => match s.get n with
    | some (.lst xs) => .lst xs
    | _ => .ref n
  | d => d

/-- an object's class and attributes -/
def Store.obj (s : Store) (n : Nat) : Option (Str × List (Str × D)) := match s.get n with
  | some (.obj c fs) => some (c, fs)
  | _ => none
def putA (f : Str) (v : D) : List (Str × D) → List (Str × D)
  | [] => [(f, v)]
  | (g, x) :: r => if g = f then (g, v) :: r else (g, x) :: putA f v r
/-- all references below are read -/
def Store.deep (s : Store) : Nat → D → D
  | 0, d => d
  | k + 1, .ref n => match s.get n with
    | some (.lst xs) => .lst (xs.map (s.deep k))
    | _ => .ref n
  | k + 1, .lst xs => .lst (xs.map (s.deep k))
  | k + 1, .tup xs => .tup (xs.map (s.deep k))
  | _ + 1, d => d
mutual
def D.pure : D → Bool
  | .tup xs => D.pures xs
  | .lst xs => D.pures xs
  | .exn _ _ xs => D.pures xs
  | .ref _ => false
  | .scr _ => false
  | _ => true
def D.pures : List D → Bool
  | [] => true
  | d :: ds => d.pure && D.pures ds
end
def D.flat : D → Bool
  | .non => true
  | .bl _ => true
  | .int _ => true
  | .str _ => true
  | _ => false
mutual
def D.sm : D → D → Bool
  | .non, .non => true
  | .bl a, .bl b => decide (a = b)
  | .int a, .int b => decide (a = b)
  | .str a, .str b => decide (a = b)
  | .tup a, .tup b => D.sms a b
  | .lst a, .lst b => D.sms a b
  | .ref a, .ref b => decide (a = b)
  | .scr a, .scr b => decide (a = b)
  | .dct0, .dct0 => true
  | .exn c n a, .exn d m b => decide (c = d) && (decide (n = m) && D.sms a b)
  | _, _ => false
def D.sms : List D → List D → Bool
  | [], [] => true
  | a :: r, b :: s => D.sm a b && D.sms r s
  | _, _ => false
end

inductive O2 where
  | add | sub | mul | mod | fdv | pow | bor | bxr | ban
  | eq | ne | lt | le | gt | ge | is_ | isn | in_ | nin | ix
inductive O1 where
  | neg | not
inductive Bf where
  | len | int | abs | all | any | tup | srt | lst | str | sum | max | min | max2 | min2 | lrg
  | join | index | count | split
inductive Ty where
  | str | tup | lst | int | bool
inductive T where
  | nm (i : Nat)
  | tp (ts : List Nat)
mutual
inductive E where
  | var (i : Nat)
  | frz (i : Nat)
  | cst (d : D)
  | tup (es : Es)
  | lst (es : Es)
  | op2 (o : O2) (a b : E)
  | op1 (o : O1) (a : E)
  | ch2 (o p : O2) (a b c : E)
  | ch3 (o p q : O2) (a b c d : E)
  | and (a b : E)
  | or (a b : E)
  | ite (c a b : E)
  | slc (a : E) (lo hi : Oe)
  | rev (a : E)
  | call (f : Str) (es : Es)
  | blt (f : Bf) (es : Es)
  | ms (f : Bf) (a : E) (es : Es)
  | isi (a : E) (t : Ty)
  | mix (a b : E)
  | lc (own : List Nat) (gs : Gs) (e : E)
  | ssr (a : E)
  | lse (a : E)
  | mk (a : E)
  | dc0
  | dix (ks : List Str) (vs : List D) (a : E)
  | lzp (a b : E)
  | isx (a : E) (cs ds : List Str)
  | att (a : E) (f : Str) (cs es : List Str)
  | xmk (c : Str) (ns : List Str) (es : Es)
  | new (c k : Str) (es : Es)
  | mth (c m k : Str) (a : E) (es : Es)
  | prp (c k : Str) (a : E)
  | ob2 (o : O2) (c k : Str) (a b : E)
  | mct (a b : E)
  | no
inductive Es where
  | nil
  | cons (star : Bool) (e : E) (es : Es)
inductive Oe where
  | no
  | so (e : E)
inductive It where
  | seq (e : E)
  | r1 (a : E)
  | r2 (a b : E)
  | enm (e : E)
  | zip (a b : E)
inductive Gs where
  | last (it : It) (t : T) (c : Oe)
  | more (it : It) (t : T) (c : Oe) (r : Gs)
end
def T.ns : T → List Nat
  | .nm i => [i]
  | .tp ts => ts
/-- the names of the first target -/
def Gs.tns : Gs → List Nat
  | .last _ t _ => t.ns
  | .more _ t _ r => t.ns ++ r.tns
inductive Tb where
  | nm (i : Nat)
  | ix (o i : E)
mutual
inductive S where
  | asg (i : Nat) (e : E)
  | asu (ts : List Nat) (e : E)
  | asx (ts : List Tb) (es : Es)
  | par (ts : List Nat) (es : Es)
  | sti (o i e : E)
  | app (o e : E)
  | exp (e : E)
  | iff (c : E) (a b : Ss)
  | fr (t : T) (it : It) (b : Ss)
  | whl (c : E) (b : Ss)
  | ret (e : E)
  | rtn
  | rse (c : Str) (ns : List Str) (es : Es)
  | sta (o : E) (f : Str) (cs : List Str) (e : E)
  | tri (b : Ss) (cs ds : List Str) (i j : Nat)
  | stl (i : Nat)
  | pas
  | no
inductive Ss where
  | nil
  | cons (s : S) (r : Ss)
end

def sizeMax : Nat := 16777216
def truthy : D → Option Bool
  | .non => some false
  | .bl b => some b
  | .int i => some (i != 0)
  | .str x => if x.length ≤ sizeMax then some ((x.length : Int) != 0) else none
  | .tup xs => some !xs.isEmpty
  | .lst xs => some !xs.isEmpty
  | .ref _ => none
  | .scr _ => none
  | .dct0 => none
  | .exn _ _ _ => none
mutual
/-- equality, where empty dicts may be -/
def eqx : D → D → Bool
  | .non, .non => true
  | .bl a, .bl b => decide (a = b)
  | .bl a, .int j => decide (j = if a then 1 else 0)
  | .int i, .bl b => decide (i = if b then 1 else 0)
  | .int i, .int j => decide (i = j)
  | .str x, .str y => decide (x = y)
  | .tup a, .tup b => eqxs a b
  | .lst a, .lst b => eqxs a b
  | .dct0, .dct0 => true
  | _, _ => false
def eqxs : List D → List D → Bool
  | [], [] => true
  | a :: r, b :: s => eqx a b && eqxs r s
  | _, _ => false
end
mutual
/-- no reference in it, perhaps empty dicts, at most n deep -/
def D.okx : Nat → D → Bool
  | _, .non => true
  | _, .bl _ => true
  | _, .int _ => true
  | _, .str _ => true
  | _, .dct0 => true
  | 0, .tup _ => false
  | 0, .lst _ => false
  | n + 1, .tup xs => D.okxs n xs
  | n + 1, .lst xs => D.okxs n xs
  | _, .ref _ => false
  | _, .scr _ => false
  | _, .exn _ _ _ => false
def D.okxs : Nat → List D → Bool
  | _, [] => true
  | n, d :: ds => d.okx n && D.okxs n ds
end
def eqD (a b : D) : Option Bool := if a.fine && b.fine then some (PyData.eqv a.py b.py) else none
/-- a != b; an empty dict beside a tuple, and tuples of which those items can be compared that stand at one place -/
def neD (a b : D) : Option Bool := match eqD a b with
  | some r => some (!r)
  | none => (match a, b with
    | .dct0, .tup _ => some true
    | .tup xs, .tup ys => if (xs.zip ys).all (fun p => p.1.fine && p.2.fine) then some (!((xs.zip ys).all (fun p => PyData.eqv p.1.py p.2.py) && xs.length == ys.length)) else none
    | _, _ => none)
def ltS (x y : Str) : Bool := decide (x.cps.toList < y.cps.toList)
/-- a and b are of one make, and may be put in order -/
def ltD (a b : D) : Option Bool := match a, b with
  | .int i, .int j => some (decide (i < j))
  | .str x, .str y => some (ltS x y)
  | .tup _, .tup _ => if a.fine && b.fine && W.alike a.py b.py then some (W.dataLt a.py b.py) else none
  | _, _ => none
def leI (a b : D) : Option Bool := match a, b with
  | .int i, .int j => some (decide (i ≤ j))
  | _, _ => none
def small64 (i : Int) : Bool := decide (-(2 ^ 64) < i ∧ i < 2 ^ 64)
def powOk (i j : Int) : Bool := decide (0 ≤ j ∧ (Builtin.Int.intBits i : Int) * j ≤ 2 ^ 27)
def op2 (o : O2) (a b : D) : Option Fv := match o, a, b with
  | .add, .int i, .int j => some (.fz (.int (i + j)))
  | .add, .str x, .str y => if x.length + y.length ≤ sizeMax then some (.fz (.str (x ++ y))) else none
  | .add, .lst xs, .lst ys => if xs.length + ys.length ≤ sizeMax then some (.nw (xs ++ ys)) else none
  | .add, .tup xs, .tup ys => if xs.length + ys.length ≤ sizeMax then some (.fz (.tup (xs ++ ys))) else none
  | .sub, .int i, .int j => some (.fz (.int (i - j)))
  | .mul, .int i, .int j => if small64 i || small64 j then some (.fz (.int (i * j))) else none
  | .mul, .lst xs, .int k => if decide (-(2 ^ 63) ≤ k ∧ k < 2 ^ 63) && decide (xs.length * k.toNat ≤ sizeMax) then some (.nw (List.replicate k.toNat xs).flatten) else none
  | .mul, .str x, .int k => if decide (0 ≤ k) && decide (k ≤ 1000) && decide (x.length ≤ 1000) then some (.fz (.str (Txt.mul x k))) else none
  | .mul, .tup xs, .int k => if !xs.isEmpty && decide (2 ≤ k) && decide (k ≤ 1000) && decide (xs.length ≤ 1000) then some (.fz (.tup (List.replicate k.toNat xs).flatten)) else none
  | .mod, .int i, .int j => if 0 < j then some (.fz (.int (i % j))) else none
  | .fdv, .int i, .int j => if 0 < j ∧ j < 1073741824 then some (.fz (.int (i / j))) else none
  | .pow, .int i, .int j => if powOk i j then some (.fz (.int (i ^ j.toNat))) else none
  | .bor, .int i, .int j => some (.fz (.int (Builtin.bitOr i j)))
  | .bxr, .int i, .int j => some (.fz (.int (Builtin.bitXor i j)))
  | .ban, .int i, .int j => some (.fz (.int (Builtin.bitAnd i j)))
  | .eq, a, b => (eqD a b).map fun r => .fz (.bl r)
  | .ne, a, b => (neD a b).map fun r => .fz (.bl r)
  | .lt, a, b => (ltD a b).map fun r => .fz (.bl r)
  | .gt, .int i, .int j => some (.fz (.bl (decide (j < i))))
  | .le, a, b => (leI a b).map fun r => .fz (.bl r)
  | .ge, a, b => (leI b a).map fun r => .fz (.bl r)
  | .is_, a, .non => some (.fz (.bl (match a with | .non => true | _ => false)))
  | .isn, a, .non => some (.fz (.bl (match a with | .non => false | _ => true)))
  | .in_, .str x, .str y => match x.cps.toList with
    | [c] => some (.fz (.bl (decide (c ∈ y.cps.toList))))
    | _ => none
  | .nin, .str x, .str y => match x.cps.toList with
    | [c] => some (.fz (.bl !(decide (c ∈ y.cps.toList))))
    | _ => none
  | .in_, x, .lst ys => if x.fine && (D.lst ys).fine then some (.fz (.bl (ys.any fun y => PyData.eqv y.py x.py))) else none
  | .in_, x, .tup ys => if x.fine && (D.lst ys).fine then some (.fz (.bl (ys.any fun y => PyData.eqv y.py x.py))) else none
  | .nin, x, .lst ys => if x.fine && (D.lst ys).fine then some (.fz (.bl !(ys.any fun y => PyData.eqv y.py x.py))) else none
  | .nin, x, .tup ys => if x.fine && (D.lst ys).fine then some (.fz (.bl !(ys.any fun y => PyData.eqv y.py x.py))) else none
  | .ix, .lst xs, .int i => (L2.atI xs i).map .fz
  | .ix, .tup xs, .int i => (L2.atI xs i).map .fz
  | .ix, .str z, .int i => if z.length ≤ sizeMax then (L2.atI z.cps.toList i).map fun c => .fz (.str ⟨#[c]⟩) else none
  | _, _, _ => none
def op1 (o : O1) (a : D) : Option Fv := match o, a with
  | .neg, .int i => some (.fz (.int (-i)))
  | .not, a => (truthy a).map fun b => .fz (.bl !b)
  | _, _ => none
def cutA {α : Type} (xs : List α) (lo hi : Option Int) : List α := (xs.drop (HT.sIx xs.length 0 lo)).take (HT.sIx xs.length xs.length hi - HT.sIx xs.length 0 lo)
def cutO (a : D) (lo hi : Option Int) : Option Fv := match a with
  | .lst xs => some (.nw (cutA xs lo hi))
  | .scr is => some (.nw ((cutA is lo hi).map .int))
  | .tup xs => some (.fz (.tup (cutA xs lo hi)))
  | .str z => if z.length ≤ sizeMax then some (.fz (.str (L2.cutS z lo hi))) else none
  | _ => none
def revO : D → Option Fv
  | .lst xs => some (.nw xs.reverse)
  | _ => none
def isiO (a : D) (t : Ty) : Option Bool := match a, t with
  | .ref _, _ => none
  | .scr _, _ => none
  | .exn _ _ _, _ => none
  | .str _, .str => some true
  | .tup _, .tup => some true
  | .lst _, .lst => some true
  | .int _, .int => some true
  | .bl _, .int => some true
  | .bl _, .bool => some true
  | _, _ => some false

def allAlike (xs : List D) : Bool := xs.all fun a => xs.all fun b => W.alike a.py b.py
def isTup1 : D → Bool
  | .tup (_ :: _) => true
  | _ => false
def noTup : D → Bool
  | .tup _ => false
  | .non => false
  | _ => true
def sortable (xs : List D) : Bool := xs.all isTup1 || xs.all noTup
def leD (a b : D) : Bool := !W.dataLt b.py a.py
def mrgF {α : Type} (le : α → α → Bool) : Nat → List α → List α → List α
  | 0, xs, ys => xs ++ ys
  | _ + 1, [], ys => ys
  | _ + 1, xs, [] => xs
  | n + 1, x :: xs, y :: ys => if le x y then x :: mrgF le n xs (y :: ys) else y :: mrgF le n (x :: xs) ys
/-- mergeSort, by fuel -/
def msF {α : Type} (le : α → α → Bool) : Nat → List α → List α
  | 0, xs => xs
  | _ + 1, [] => []
  | _ + 1, [a] => [a]
  | n + 1, a :: b :: xs =>
    let k := ((a :: b :: xs).length + 1) / 2
    mrgF le (a :: b :: xs).length (msF le n ((a :: b :: xs).take k)) (msF le n ((a :: b :: xs).drop k))
def srt (xs : List D) : Option (List D) := if (D.lst xs).fine && allAlike xs && sortable xs && decide (xs.length ≤ sizeMax) then some (msF leD xs.length xs) else none
def dedup : List D → List D
  | [] => []
  | x :: xs => if xs.any (fun y => PyData.eqv y.py x.py) then dedup xs else x :: dedup xs
def unInts : List D → Option (List Int)
  | [] => some []
  | .int i :: r => (unInts r).map (i :: ·)
  | _ => none
def bools : List D → Option (List Bool)
  | [] => some []
  | .bl b :: r => (bools r).map (b :: ·)
  | _ => none
def unStrs : List D → Option (List Str)
  | [] => some []
  | .str x :: r => (unStrs r).map (x :: ·)
  | _ => none
def noNon : D → Bool
  | .non => false
  | _ => true
def minO (x : D) (xs : List D) : D := xs.foldl (fun a y => if W.dataLt y.py a.py then y else a) x
def maxO (x : D) (xs : List D) : D := xs.foldl (fun a y => if W.dataLt a.py y.py then y else a) x
def joinS (sep : Str) (xs : List Str) : Str := Str.join sep xs
def rngO (i j : Int) : Option (List D) :=
  if decide (-(2 ^ 62) ≤ i ∧ i < 2 ^ 62) && decide (-(2 ^ 62) ≤ j ∧ j < 2 ^ 62) then some ((List.range (j - i).toNat).map fun (k : Nat) => .int (i + (k : Int))) else none
def bfO (f : Bf) (ds : List D) : Option Fv := match f with
  | .len => (match ds with
    | [.lst xs] => some (.fz (.int xs.length))
    | [.tup xs] => some (.fz (.int xs.length))
    | [.str z] => if z.length ≤ sizeMax then some (.fz (.int z.length)) else none
    | _ => none)
  | .int => (match ds with
    | [.int i] => some (.fz (.int i))
    | [.bl b] => some (.fz (.int (if b then 1 else 0)))
    | [.str z] => if z.length ≤ 640 then (PySem.intText? z).map fun n => .fz (.int n) else none
    | _ => none)
  | .abs => (match ds with
    | [.int i] => some (.fz (.int (if i < 0 then -i else i)))
    | _ => none)
  | .all => (match ds with
    | [.lst xs] => (bools xs).map fun bs => .fz (.bl (bs.all id))
    | _ => none)
  | .any => (match ds with
    | [.lst xs] => (bools xs).map fun bs => .fz (.bl (bs.any id))
    | _ => none)
  | .tup => (match ds with
    | [.lst xs] => some (.fz (.tup xs))
    | [.tup xs] => some (.fz (.tup xs))
    | _ => none)
  | .str => (match ds with
    | [.int i] => if i.natAbs.log2 < 1920 then some (.fz (.str (toString i))) else none
    | _ => none)
  | .lst => (match ds with
    | [.lst xs] => some (.nw xs)
    | [.tup xs] => some (.nw xs)
    | _ => none)
  | .srt => (match ds with
    | [.lst xs] => (srt xs).map .nw
    | _ => none)
  | .sum => (match ds with
    | [.lst xs] => (unInts xs).map fun is => .fz (.int is.sum)
    | _ => none)
  | .min => (match ds with
    | [.lst (x :: xs)] => if (D.lst (x :: xs)).fine && allAlike (x :: xs) && (x :: xs).all noNon then some (.fz (minO x xs)) else none
    | _ => none)
  | .max => (match ds with
    | [.lst (x :: xs)] => if (D.lst (x :: xs)).fine && allAlike (x :: xs) && (x :: xs).all noNon then some (.fz (maxO x xs)) else none
    | _ => none)
  | .max2 => (match ds with
    | [.int i, .int j] => some (.fz (.int (if j > i then j else i)))
    | _ => none)
  | .min2 => (match ds with
    | [.int i, .int j] => some (.fz (.int (if j < i then j else i)))
    | _ => none)
  | .lrg => (match ds with
    | [.int n] => (rngO 0 n).bind fun ds => if ds.length ≤ sizeMax then some (.nw ds) else none
    | [.int i, .int j] => (rngO i j).bind fun ds => if ds.length ≤ sizeMax then some (.nw ds) else none
    | _ => none)
  | .join => (match ds with
    | [.str z, .lst xs] => (unStrs xs).bind fun ss => if (ss.map (·.length)).sum + ss.length * z.length ≤ sizeMax then some (.fz (.str (joinS z ss))) else none
    | [.str z, .tup xs] => (unStrs xs).bind fun ss => if (ss.map (·.length)).sum + ss.length * z.length ≤ sizeMax then some (.fz (.str (joinS z ss))) else none
    | _ => none)
  | .split => (match ds with
    | [.str z, .str y] => if !(y.length == 0) && decide (z.length + 2 ≤ sizeMax) then some (.nw ((Txt.split z y).map .str)) else none
    | _ => none)
  | .index => (match ds with
    | [.lst xs, .int i] => (match unInts xs with
      | some is => (is.findIdx? fun j => j == i).map fun (k : Nat) => .fz (.int (k : Int))
      | none => none)
    | [.lst xs, .bl b] => (match bools xs with
      | some bs => (bs.findIdx? fun j => j == b).map fun (k : Nat) => .fz (.int (k : Int))
      | none => none)
    | _ => none)
  | .count => (match ds with
    | [.lst xs, .bl b] => (bools xs).map fun bs => .fz (.int ((bs.filter fun j => j == b).length : Int))
    | _ => none)
def insI (x : Int) : List Int → List Int
  | [] => [x]
  | y :: r => if x < y then x :: y :: r else if x = y then y :: r else y :: insI x r
def ssI : List Int → List Int
  | [] => []
  | x :: r => insI x (ssI r)
/-- the number that a tuple's ints make -/
def code64 : List Int → Int
  | [] => 0
  | d :: r => d * 64 ^ r.length + code64 r
def insT (x : List Int) : List (List Int) → List (List Int)
  | [] => [x]
  | y :: r => if code64 x < code64 y then x :: y :: r else if x = y then y :: r else y :: insT x r
def ssT : List (List Int) → List (List Int)
  | [] => []
  | x :: r => insT x (ssT r)
def unTups : List D → Option (List (List Int))
  | [] => some []
  | .tup xs :: r => (unInts xs).bind fun is => (unTups r).map (is :: ·)
  | _ => none
def bd64 (is : List Int) : Bool := is.all fun i => decide (0 ≤ i) && decide (i < 64)
/-- tuples of as many ints from 0 to 63 -/
def evenT (ts : List (List Int)) : Bool := match ts with
  | [] => false
  | t :: _ => !t.isEmpty && ts.all fun u => u.length == t.length && bd64 u
/-- nested tuples, each once, in order -/
def ssN (xs : List D) : Option (List D) := if (xs.all fun d => d.nk 8 && isTup1 d) && allAlike xs then some (msF leD (dedup xs).length (dedup xs)) else none
def ssrO (d : D) : Option (List D) := match d with
  | .lst xs => if xs.length < 64 then (match unInts xs with
      | some is => some ((ssI is).map .int)
      | none => (match unTups xs with
        | some ts => if evenT ts then some ((ssT ts).map fun t => .tup (t.map .int)) else ssN xs
        | none => ssN xs))
    else none
  | .tup xs => if xs.length < 64 then (unInts xs).map fun is => (ssI is).map .int else none
  | _ => none
/-- a new list becomes a cell -/
def alloc (v : Fv) : M Fv := fun s => match v with
  | .fz d => .ok (.fz d) s
  | .nw xs => .ok (.fz (.ref s.nx)) (s.new (.lst xs))
def isiS (s : Store) (x : D) (t : Ty) : Option Bool := match x with
  | .ref n => (match s.obj n with | some _ => some false | none => isiO (s.see (.ref n)) t)
  | x => isiO x t
/-- isinstance by own classes -/
def inB (cs ds : List Str) (c : Str) : Option Bool := if cs.contains c = true then some true else if ds.contains c = true then some false else none
def isxO (s : Store) (d : D) (cs ds : List Str) : Option Bool := match d with
  | .exn c _ _ => inB cs ds c
  | .ref _ => none
  | .scr _ => none
  | .non => some false
  | .bl _ => some false
  | .int _ => some false
  | .str _ => some false
  | .tup _ => some false
  | .lst _ => some false
  | .dct0 => some false
def attO (s : Store) (d : D) (f : Str) (cs es : List Str) : Option D := match d with
  | .exn c ns xs => if es.contains c = true then (ns.zip xs).lookup f else none
  | .ref n => (s.obj n).bind fun p => if cs.contains p.1 = true then p.2.lookup f else none
  | _ => none
def dixO (ks : List Str) (vs : List D) (d : D) : Option D := match d with
  | .str x => (ks.zip vs).lookup x
  | _ => none
def isObj (s : Store) (d : D) (c : Str) : Bool := match d with
  | .ref n => (match s.obj n with | some p => decide (p.1 = c) | none => false)
  | _ => false
/-- an object of the class, without an attribute of the name -/
def isObjN (s : Store) (d : D) (c m : Str) : Bool := match d with
  | .ref n => (match s.obj n with | some p => decide (p.1 = c) && (p.2.lookup m).isNone | none => false)
  | _ => false
abbrev En := List (Option D)
def wipe (ρ : En) : List Nat → En
  | [] => ρ
  | v :: vs => (wipe ρ vs).set v none
/-- a tuple's items to names, from the left -/
def bindAll : List Nat → List D → En → Option En
  | [], [], ρ => some ρ
  | i :: is, d :: ds, ρ => bindAll is ds (ρ.set i (some d))
  | _, _, _ => none
def bindT (t : T) (d : D) (ρ : En) : Option En := match t with
  | .nm i => some (ρ.set i (some d))
  | .tp ts => match d with
    | .tup xs => bindAll ts xs ρ
    | _ => none
def chars (z : Str) : List D := z.cps.toList.map fun c => .str ⟨#[c]⟩
def seqO : D → Option (List D)
  | .lst xs => some xs
  | .tup xs => some xs
  | .str z => some (chars z)
  | _ => none
def enmO (d : D) : Option (List D) := (seqO d).map fun xs => xs.zipIdx.map fun p => .tup [.int p.2, p.1]
def zipO (a b : D) : Option (List D) := match seqO a, seqO b with
  | some xs, some ys => if xs.length = ys.length then some ((xs.zip ys).map fun p => .tup [p.1, p.2]) else none
  | _, _ => none
/-- the turns of a comprehension's clause -/
def turns (t : T) (body : En → List D → M (List D)) (ρ : En) : List D → List D → M (List D)
  | [], acc => M.ret acc
  | x :: r, acc => M.bnd (M.opt (bindT t x ρ)) fun ρ' => M.bnd (body ρ' acc) fun acc' => turns t body ρ r acc'
/-- an operation; where it can't be done at once, on all that lies below -/
def op2S (s : Store) (o : O2) (x y : D) : Option Fv := match op2 o (s.see x) (s.see y) with
  | some r => some r
  | none => if D.pures [s.deep 6 x, s.deep 6 y] = true then (match op2 o (s.deep 6 x) (s.deep 6 y) with
    | some (.fz d) => if d.flat = true then some (.fz d) else none
    | _ => none) else none
/-- a list that may change is walked: it must stay while it is -/
def readC (n : Nat) : M (List D) := fun s => match s.get n with
  | some (.lst xs) => .ok xs s
  | _ => .bad
def still (n : Nat) (xs : List D) : M Unit := fun s => match s.get n with
  | some (.lst ys) => if D.sms ys xs = true then .ok () s else .bad
  | _ => .bad
def turnsC (n : Nat) (all : List D) (t : T) (body : En → List D → M (List D)) (ρ : En) : List D → List D → M (List D)
  | [], acc => M.bnd (still n all) fun _ => M.ret acc
  | x :: r, acc => M.bnd (still n all) fun _ => M.bnd (M.opt (bindT t x ρ)) fun ρ' => M.bnd (body ρ' acc) fun acc' => turnsC n all t body ρ r acc'
def cellI : It → En → Option Nat
  | .seq (.var i), ρ => match ρ[i]? with
    | some (some (.ref n)) => some n
    | _ => none
  | _, _ => none
def pick {α : Type} (o : Option Nat) (a : α) (b : Nat → α) : α := match o with
  | none => a
  | some n => b n
def bareM {α : Type} (m : M α) : M α := fun s => match m s with
  | .ok a s' => .ok a s'
  | _ => .bad
def mD (m : M Fv) : M D := M.bnd m fun v => M.ret v.d
section
variable (cf : Str → List D → M Fv)
mutual
def evE : E → En → M Fv
  | .var i, ρ => match ρ[i]? with
    | some (some d) => M.ret (.fz d)
    | _ => M.no
  | .frz i, ρ => match ρ[i]? with
    | some (some (.ref n)) => fun s => match s.get n with
      | some (.lst xs) => .ok (.nw xs) (s.del n)
      | _ => .bad
    | some (some d) => M.ret (.fz d)
    | _ => M.no
  | .cst d, _ => M.ret (.fz d)
  | .tup es, ρ => M.bnd (evEs es ρ) fun ds => if ds.length ≤ sizeMax then M.ret (.fz (.tup ds)) else M.no
  | .lst es, ρ => M.bnd (evEs es ρ) fun ds => if ds.length ≤ sizeMax then M.ret (.nw ds) else M.no
  | .op2 o a b, ρ => M.bnd (mD (evE a ρ)) fun x => M.bnd (mD (evE b ρ)) fun y => fun s => M.opt (op2S s o x y) s
  | .op1 o a, ρ => M.bnd (mD (evE a ρ)) fun x => fun s => M.opt (op1 o (s.see x)) s
  | .ch2 o p a b c, ρ => M.bnd (mD (evE a ρ)) fun x => M.bnd (mD (evE b ρ)) fun y => fun s => M.bnd (M.opt (op2 o (s.see x) (s.see y))) (fun r => match r with
      | .fz (.bl true) => M.bnd (mD (evE c ρ)) fun z => fun s => M.opt (op2 p (s.see y) (s.see z)) s
      | .fz (.bl false) => M.ret (.fz (.bl false))
      | _ => M.no) s
  | .ch3 o p q a b c d, ρ => M.bnd (mD (evE a ρ)) fun x => M.bnd (mD (evE b ρ)) fun y => fun s => M.bnd (M.opt (op2 o (s.see x) (s.see y))) (fun r => match r with
      | .fz (.bl true) => M.bnd (mD (evE c ρ)) fun z => fun s => M.bnd (M.opt (op2 p (s.see y) (s.see z))) (fun r => match r with
        | .fz (.bl true) => M.bnd (mD (evE d ρ)) fun w => fun s => M.opt (op2 q (s.see z) (s.see w)) s
        | .fz (.bl false) => M.ret (.fz (.bl false))
        | _ => M.no) s
      | .fz (.bl false) => M.ret (.fz (.bl false))
      | _ => M.no) s
  | .and a b, ρ => M.bnd (mD (evE a ρ)) fun x => fun s => M.bnd (M.opt (truthy (s.see x))) (fun t => if t = true then evE b ρ else M.ret (.fz x)) s
  | .or a b, ρ => M.bnd (mD (evE a ρ)) fun x => fun s => M.bnd (M.opt (truthy (s.see x))) (fun t => if t = true then M.ret (.fz x) else evE b ρ) s
  | .ite c a b, ρ => M.bnd (mD (evE c ρ)) fun x => fun s => M.bnd (M.opt (truthy (s.see x))) (fun t => if t = true then evE a ρ else evE b ρ) s
  | .slc a lo hi, ρ => M.bnd (mD (evE a ρ)) fun x => M.bnd (evO lo ρ) fun l => M.bnd (evO hi ρ) fun h => fun s => M.opt (cutO (s.see x) l h) s
  | .rev a, ρ => M.bnd (mD (evE a ρ)) fun x => fun s => M.opt (revO (s.see x)) s
  | .call f es, ρ => M.bnd (evEs es ρ) fun ds => cf f ds
  | .blt f es, ρ => M.bnd (evEs es ρ) fun ds => fun s => M.opt (bfO f (ds.map s.see)) s
  | .ms f a es, ρ => M.bnd (mD (evE a ρ)) fun x => match x with
    | .str z => M.bnd (evEs es ρ) fun ds => fun s => M.opt (bfO f (.str z :: ds.map s.see)) s
    | _ => M.no
  | .mix a b, ρ => M.bnd (mD (evE a ρ)) fun x => match x with
    | .lst xs => M.bnd (mD (evE b ρ)) fun y => fun s => M.opt (bfO .index [.lst xs, s.see y]) s
    | _ => M.no
  | .isi a t, ρ => M.bnd (mD (evE a ρ)) fun x => fun s => M.bnd (M.opt (isiO (s.see x) t)) (fun b => M.ret (.fz (.bl b))) s
  | .lc own (.last it t c) e, ρ => pick (cellI it ρ) (M.bnd (bareM (evG (.last it t c) (fun ρ => mD (evE e ρ)) ρ (wipe ρ own) [])) fun ds => M.ret (.nw ds))
      fun n => M.bnd (bareM (M.bnd (readC n) fun xs => turnsC n xs t (fun ρ' acc => M.bnd (evC c ρ') fun b => if b = true then M.bnd (mD (evE e ρ')) fun d => if acc.length < sizeMax then M.ret (acc ++ [d]) else M.no else M.ret acc) (wipe ρ own) xs [])) fun ds => M.ret (.nw ds)
  | .lc own (.more it t c r) e, ρ => M.bnd (bareM (evG (.more it t c r) (fun ρ => mD (evE e ρ)) ρ (wipe ρ own) [])) fun ds => M.ret (.nw ds)
  | .ssr a, ρ => M.bnd (mD (evE a ρ)) fun x => fun s => M.bnd (M.opt (ssrO (s.see x))) (fun ds => M.ret (.nw ds)) s
  | .lse a, ρ => M.bnd (mD (evE a ρ)) fun x => fun s => M.bnd (M.opt (ssrO (s.see x))) (fun ds => M.ret (.fz (.int ds.length))) s
  | .mk a, ρ => M.bnd (evE a ρ) alloc
  | .dc0, _ => M.ret (.fz .dct0)
  | .dix ks vs a, ρ => M.bnd (mD (evE a ρ)) fun x => M.bnd (M.opt (dixO ks vs x)) fun d => M.ret (.fz d)
  | .lzp a b, ρ => M.bnd (mD (evE a ρ)) fun x => M.bnd (mD (evE b ρ)) fun y => M.bnd (M.opt (zipO x y)) fun ds => M.ret (.nw ds)
  | .isx a cs ds, ρ => M.bnd (mD (evE a ρ)) fun x => fun s => M.bnd (M.opt (isxO s x cs ds)) (fun b => M.ret (.fz (.bl b))) s
  | .att a f cs es, ρ => M.bnd (mD (evE a ρ)) fun x => fun s => M.bnd (M.opt (attO s x f cs es)) (fun d => M.ret (.fz d)) s
  | .xmk c ns es, ρ => M.bnd (evEs es ρ) fun ds => if D.pures ds = true then (if ns = [] then M.ret (.fz (.exn c [] [])) else if ns.length = ds.length then M.ret (.fz (.exn c ns ds)) else M.no) else M.no
  | .new c k es, ρ => M.bnd (evEs es ρ) fun ds => fun s => M.bnd (cf k (.ref s.nx :: ds)) (fun r => match r with
      | .fz .non => M.ret (.fz (.ref s.nx))
      | _ => M.no) (s.new (.obj c []))
  | .ob2 o c k a b, ρ => M.bnd (mD (evE a ρ)) fun x => M.bnd (mD (evE b ρ)) fun y => fun s => if isObj s x c = true then M.bnd (cf k [x, y]) (fun r => match o, r with
      | .ne, .fz (.bl t) => M.ret (.fz (.bl !t))
      | .ne, _ => M.no
      | _, r => M.ret r) s else M.opt (op2S s o x y) s
  | .mct a b, ρ => M.bnd (mD (evE a ρ)) fun x => match x with
    | .lst xs => M.bnd (mD (evE b ρ)) fun y => fun s => M.opt (bfO .count [.lst xs, s.see y]) s
    | _ => M.no
  | .prp c k a, ρ => M.bnd (mD (evE a ρ)) fun x => fun s => if isObj s x c = true then bareM (cf k [x]) s else .bad
  | .mth c m k a es, ρ => M.bnd (mD (evE a ρ)) fun x => fun s => if isObjN s x c m = true then M.bnd (evEs es ρ) (fun ds => cf k (x :: ds)) s else .bad
  | .no, _ => M.no
def evEs : Es → En → M (List D)
  | .nil, _ => M.ret []
  | .cons false e es, ρ => M.bnd (mD (evE e ρ)) fun d => M.bnd (evEs es ρ) fun ds => M.ret (d :: ds)
  | .cons true e es, ρ => M.bnd (mD (evE e ρ)) fun d => fun s => M.bnd (M.opt (match s.see d with | .lst xs => some xs | .tup xs => some xs | _ => none)) (fun xs => M.bnd (evEs es ρ) fun ds => M.ret (xs ++ ds)) s
def evO : Oe → En → M (Option Int)
  | .no, _ => M.ret none
  | .so e, ρ => M.bnd (mD (evE e ρ)) fun d => match d with
    | .int i => M.ret (some i)
    | _ => M.no
def evI : It → En → M (List D)
  | .seq e, ρ => M.bnd (mD (evE e ρ)) fun d => M.opt (seqO d)
  | .r1 a, ρ => M.bnd (mD (evE a ρ)) fun d => match d with
    | .int i => M.opt (rngO 0 i)
    | _ => M.no
  | .r2 a b, ρ => M.bnd (mD (evE a ρ)) fun d => M.bnd (mD (evE b ρ)) fun d' => match d, d' with
    | .int i, .int j => M.opt (rngO i j)
    | _, _ => M.no
  | .enm e, ρ => M.bnd (mD (evE e ρ)) fun d => M.opt (enmO d)
  | .zip a b, ρ => M.bnd (mD (evE a ρ)) fun d => M.bnd (mD (evE b ρ)) fun d' => M.opt (zipO d d')
def evC : Oe → En → M Bool
  | .no, _ => M.ret true
  | .so e, ρ => M.bnd (mD (evE e ρ)) fun d => fun s => M.opt (truthy (s.see d)) s
def evG : Gs → (En → M D) → En → En → List D → M (List D)
  | .last it t c, e, ρi, ρ, acc => M.bnd (evI it ρi) fun xs => turns t (fun ρ' acc => M.bnd (evC c ρ') fun b => if b = true then M.bnd (e ρ') fun d => if acc.length < sizeMax then M.ret (acc ++ [d]) else M.no else M.ret acc) ρ xs acc
  | .more it t c r, e, ρi, ρ, acc => M.bnd (evI it ρi) fun xs => turns t (fun ρ' acc => M.bnd (evC c ρ') fun b => if b = true then evG r e ρ' (wipe ρ' r.tns) acc else M.ret acc) ρ xs acc
end
inductive Fl where
  | nx
  | rt (v : Fv)
/-- the turns of a for loop -/
def loopF (t : T) (body : En → M (Fl × En)) : List D → En → M (Fl × En)
  | [], ρ => M.ret (.nx, ρ)
  | x :: r, ρ => M.bnd (M.opt (bindT t x ρ)) fun ρ' => M.bnd (body ρ') fun p => match p.1 with
    | .nx => loopF t body r p.2
    | .rt v => M.ret (.rt v, p.2)
def loopC (n : Nat) (all : List D) (t : T) (body : En → M (Fl × En)) : List D → En → M (Fl × En)
  | [], ρ => M.bnd (still n all) fun _ => M.ret (.nx, ρ)
  | x :: r, ρ => M.bnd (still n all) fun _ => M.bnd (M.opt (bindT t x ρ)) fun ρ' => M.bnd (body ρ') fun p => match p.1 with
    | .nx => loopC n all t body r p.2
    | .rt v => M.ret (.rt v, p.2)
/-- at most n turns of a while loop -/
def loopW (c : En → M Bool) (body : En → M (Fl × En)) : Nat → En → M (Fl × En)
  | 0, _ => M.no
  | n + 1, ρ => M.bnd (c ρ) fun b => if b = true then M.bnd (body ρ) fun p => match p.1 with
    | .nx => loopW c body n p.2
    | .rt v => M.ret (.rt v, p.2)
    else M.ret (.nx, ρ)
def stI (o i v : D) : M Unit := fun s => match o with
  | .ref n => match s.get n, i with
    | some (.lst xs), .int k => match L2.ixN xs.length k with
      | some j => .ok () (s.put n (.lst (xs.set j v)))
      | none => .bad
    | _, _ => .bad
  | _ => .bad
def appO (o v : D) : M Unit := fun s => match o with
  | .ref n => match s.get n with
    | some (.lst xs) => if xs.length < sizeMax then .ok () (s.put n (.lst (xs ++ [v]))) else .bad
    | _ => .bad
  | _ => .bad
def isCell (o : D) : M Unit := fun s => match o with
  | .ref n => match s.get n with
    | some (.lst _) => .ok () s
    | _ => .bad
  | _ => .bad
def stlO (i : Nat) (ρ : En) : M (Fl × En) := fun s => match ρ[i]? with
  | some (some (.ref n)) => match s.get n with
    | some (.lst xs) => .ok (.nx, ρ.set i (some (.lst xs))) (s.del n)
    | _ => .bad
  | some (some d) => .ok (.nx, ρ) s
  | _ => .bad
def asxO : List Tb → List D → En → M En
  | [], [], ρ => M.ret ρ
  | .nm i :: r, d :: ds, ρ => asxO r ds (ρ.set i (some d))
  | .ix o i :: r, d :: ds, ρ => M.bnd (mD (evE cf o ρ)) fun x => M.bnd (mD (evE cf i ρ)) fun y => M.bnd (stI x y d) fun _ => asxO r ds ρ
  | _, _, _ => M.no
def staO (o : D) (f : Str) (cs : List Str) (v : D) : M Unit := fun s => match o with
  | .ref n => match s.get n with
    | some (.obj c fs) => if decide (fs.length < 900) && cs.contains c then .ok () (s.put n (.obj c (putA f v fs))) else .bad
    | _ => .bad
  | _ => .bad
/-- how many turns a while may take -/
def whMax : Nat := 100000
mutual
def evS : S → En → M (Fl × En)
  | .asg i e, ρ => M.bnd (mD (evE cf e ρ)) fun d => M.ret (.nx, ρ.set i (some d))
  | .asu ts e, ρ => M.bnd (mD (evE cf e ρ)) fun d => fun s => M.bnd (M.opt (match s.see d with | .tup xs => bindAll ts xs ρ | .lst xs => bindAll ts xs ρ | _ => none)) (fun ρ' => M.ret (.nx, ρ')) s
  | .asx ts es, ρ => M.bnd (evEs cf es ρ) fun ds => M.bnd (asxO cf ts ds ρ) fun ρ' => M.ret (.nx, ρ')
  | .par ts es, ρ => M.bnd (evEs cf es ρ) fun ds => M.bnd (M.opt (bindAll ts ds ρ)) fun ρ' => M.ret (.nx, ρ')
  | .sti o i e, ρ => M.bnd (mD (evE cf e ρ)) fun v => M.bnd (mD (evE cf o ρ)) fun x => M.bnd (mD (evE cf i ρ)) fun y => M.bnd (stI x y v) fun _ => M.ret (.nx, ρ)
  | .app o e, ρ => M.bnd (mD (evE cf o ρ)) fun x => M.bnd (isCell x) fun _ => M.bnd (mD (evE cf e ρ)) fun v => M.bnd (appO x v) fun _ => M.ret (.nx, ρ)
  | .exp e, ρ => M.bnd (evE cf e ρ) fun _ => M.ret (.nx, ρ)
  | .iff c a b, ρ => M.bnd (mD (evE cf c ρ)) fun x => fun s => M.bnd (M.opt (truthy (s.see x))) (fun t => if t = true then evSs a ρ else evSs b ρ) s
  | .fr t it b, ρ => pick (cellI it ρ) (M.bnd (evI cf it ρ) fun xs => loopF t (evSs b) xs ρ) fun n => M.bnd (readC n) fun xs => loopC n xs t (evSs b) xs ρ
  | .whl c b, ρ => loopW (fun ρ => M.bnd (mD (evE cf c ρ)) fun x => fun s => M.opt (truthy (s.see x)) s) (evSs b) whMax ρ
  | .ret e, ρ => M.bnd (evE cf e ρ) fun v => M.ret (.rt v, ρ)
  | .rtn, ρ => M.ret (.rt (.fz .non), ρ)
  | .rse c ns es, ρ => M.bnd (evEs cf es ρ) fun ds => fun s => if D.pures ds = true then (if ns = [] then .exc ⟨c, [], []⟩ s else if ns.length = ds.length then .exc ⟨c, ns, ds⟩ s else .bad) else .bad
  | .sta o f cs e, ρ => M.bnd (mD (evE cf e ρ)) fun v => M.bnd (mD (evE cf o ρ)) fun x => M.bnd (staO x f cs v) fun _ => M.ret (.nx, ρ)
  | .tri b cs ds i j, ρ => fun s => match evSs b ρ s with
    | .ok p s' => .ok p s'
    | .exc x s' => (match inB cs ds x.c with
      | some true => .ok (.nx, ((ρ.set i none).set j (some (.exn x.c x.ns x.xs))).set i none) s'
      | some false => .exc x s'
      | none => .bad)
    | .bad => .bad
  | .stl i, ρ => stlO i ρ
  | .pas, ρ => M.ret (.nx, ρ)
  | .no, _ => M.no
def evSs : Ss → En → M (Fl × En)
  | .nil, ρ => M.ret (.nx, ρ)
  | .cons s r, ρ => M.bnd (evS s ρ) fun p => match p.1 with
    | .nx => evSs r p.2
    | .rt v => M.ret (.rt v, p.2)
end
end
structure Def where
  np : Nat
  nn : Nat
  body : Ss
  raw : Bool := false
def startE (n : Nat) (ds : List D) : En := ds.map some ++ List.replicate (n - ds.length) none
def runB (cf : Str → List D → M Fv) (d : Def) (ds : List D) : M Fv := M.bnd (evSs cf d.body (startE d.nn ds)) fun p => match p.1 with
  | .nx => M.ret (.fz .non)
  | .rt v => M.ret v
def pureB (m : M Fv) : M Fv := fun s => match m .mt with
  | .ok v _ => if v.d.pure then .ok v s else .bad
  | .exc x _ => if D.pures x.xs = true then .exc x s else .bad
  | .bad => .bad
/-- a call to which lists that may change are only shown -/
def viewB (raw : Bool) (run : List D → M Fv) (ds : List D) : M Fv := fun s =>
  if !raw && D.pures (ds.map s.see) then (match run (ds.map s.see) .mt with
    | .ok v _ => if v.d.flat then .ok v s else run ds s
    | _ => run ds s) else run ds s
abbrev Prog := Str → Option Def
def evCall (P : Prog) : Nat → Str → List D → M Fv
  | 0, _, _ => M.no
  | n + 1, f, ds => match P f with
    | none => M.no
    | some d => if ds.length = d.np then (if !d.raw && D.pures ds then pureB (runB (evCall P n) d ds) else viewB d.raw (runB (evCall P n) d) ds) else M.no
end Pe
set_option Elab.async false
set_option linter.all false
set_option maxRecDepth 100000
set_option maxHeartbeats 1000000
namespace Pe
open PySem
section
theorem see_pure {S : Store} {d : D} (h : d.pure = true) : S.see d = d := by
  cases d with
  | ref n => cases h
  | _ => rfl
mutual
theorem deep_pure {S : Store} : ∀ (k : Nat) (d : D), d.pure = true → S.deep k d = d
  | 0, _, _ => rfl
  | k + 1, .non, _ => rfl
  | k + 1, .bl _, _ => rfl
  | k + 1, .int _, _ => rfl
  | k + 1, .str _, _ => rfl
  | k + 1, .ref _, h => by cases h
  | k + 1, .scr _, h => by cases h
  | k + 1, .dct0, _ => rfl
  | k + 1, .exn _ _ _, _ => rfl
  | k + 1, .lst xs, h => by
    show D.lst (xs.map (S.deep k)) = _
    rw [deeps_pure k xs (by simpa [D.pure] using h)]
  | k + 1, .tup xs, h => by
    show D.tup (xs.map (S.deep k)) = _
    rw [deeps_pure k xs (by simpa [D.pure] using h)]
theorem deeps_pure {S : Store} : ∀ (k : Nat) (ds : List D), D.pures ds = true → ds.map (S.deep k) = ds
  | _, [], _ => rfl
  | k, d :: ds, h => by
    have h' := Bool.and_eq_true_iff.mp (show (D.pure _ && D.pures _) = true from h)
    rw [List.map_cons, deep_pure k d h'.1, deeps_pure k ds h'.2]
end
theorem deep_see {S : Store} {k : Nat} {d : D} (h : (S.see d).pure = true) : S.deep (k + 1) d = S.see d := by
  cases d with
  | ref n =>
    cases hg : S.get n with
    | none => simp only [Store.see, hg] at h; cases h
    | some c =>
      cases c with
      | lst xs =>
        simp only [Store.see, hg] at h ⊢
        simp only [Store.deep, hg]
        rw [deeps_pure k xs (by simpa [D.pure] using h)]
      | dct _ => simp only [Store.see, hg] at h; cases h
      | obj _ _ => simp only [Store.see, hg] at h; cases h
  | _ => exact deep_pure _ _ h
theorem deeps_see {S : Store} {k : Nat} : ∀ {ds : List D}, D.pures (ds.map S.see) = true → ds.map (S.deep (k + 1)) = ds.map S.see
  | [], _ => rfl
  | d :: ds, h => by
    have h' := Bool.and_eq_true_iff.mp (show (D.pure _ && D.pures _) = true from h)
    rw [List.map_cons, List.map_cons, deep_see h'.1, deeps_see h'.2]
mutual
theorem sm_eq : ∀ {a b : D}, D.sm a b = true → a = b
  | .non, b, h => by cases b <;> first | rfl | cases h
  | .bl a, b, h => by cases b <;> first | exact congrArg _ (of_decide_eq_true h) | cases h
  | .int a, b, h => by cases b <;> first | exact congrArg _ (of_decide_eq_true h) | cases h
  | .str a, b, h => by cases b <;> first | exact congrArg _ (of_decide_eq_true h) | cases h
  | .ref a, b, h => by cases b <;> first | exact congrArg _ (of_decide_eq_true h) | cases h
  | .scr a, b, h => by cases b <;> first | exact congrArg _ (of_decide_eq_true h) | cases h
  | .dct0, b, h => by cases b <;> first | rfl | cases h
  | .exn c n a, b, h => by
    cases b <;> try cases h
    rename_i d m b
    have h' := Bool.and_eq_true_iff.mp (show (decide (c = d) && (decide (n = m) && D.sms a b)) = true from h)
    have h2 := Bool.and_eq_true_iff.mp h'.2
    rw [of_decide_eq_true h'.1, of_decide_eq_true h2.1, sms_eq h2.2]
  | .tup a, b, h => by cases b <;> first | exact congrArg _ (sms_eq h) | cases h
  | .lst a, b, h => by cases b <;> first | exact congrArg _ (sms_eq h) | cases h
theorem sms_eq : ∀ {a b : List D}, D.sms a b = true → a = b
  | [], [], _ => rfl
  | [], _ :: _, h => by cases h
  | _ :: _, [], h => by cases h
  | a :: r, b :: s, h => by
    have h' := Bool.and_eq_true_iff.mp (show (D.sm a b && D.sms r s) = true from h)
    rw [sm_eq h'.1, sms_eq h'.2]
end
mutual
theorem sm_refl : ∀ d : D, D.sm d d = true
  | .non => rfl
  | .bl _ => decide_eq_true rfl
  | .int _ => decide_eq_true rfl
  | .str _ => decide_eq_true rfl
  | .ref _ => decide_eq_true rfl
  | .scr _ => decide_eq_true rfl
  | .dct0 => rfl
  | .exn c n a => by
    show (decide (c = c) && (decide (n = n) && D.sms a a)) = true
    rw [decide_eq_true rfl, decide_eq_true rfl, sms_refl a]; rfl
  | .tup a => sms_refl a
  | .lst a => sms_refl a
theorem sms_refl : ∀ ds : List D, D.sms ds ds = true
  | [] => rfl
  | d :: ds => by
    show (D.sm d d && D.sms ds ds) = true
    rw [sm_refl d, sms_refl ds]; rfl
end
theorem still_ok {n : Nat} {xs : List D} {S S' : Store} (h : still n xs S = .ok () S') : S' = S ∧ S.get n = some (.lst xs) := by
  unfold still at h
  split at h
  · rename_i ys e
    split at h
    · rename_i q
      cases h
      exact ⟨rfl, by rw [e, sms_eq q]⟩
    · cases h
  · cases h
theorem cellI_some {it : It} {ρ : En} {n : Nat} (h : cellI it ρ = some n) : ∃ i, it = .seq (.var i) ∧ ρ[i]? = some (some (.ref n)) := by
  unfold cellI at h
  split at h
  · split at h
    · rename_i m e
      cases h
      exact ⟨_, rfl, e⟩
    · cases h
  · cases h
theorem op2S_of {S : Store} {o : O2} {x y : D} {r : Fv} (h : op2 o (S.see x) (S.see y) = some r) : op2S S o x y = some r := by
  unfold op2S
  rw [h]
theorem evI_cell {cf : Str → List D → M Fv} {it : It} {ρ : En} {S S' : Store} {xs : List D} (h : evI cf it ρ S = .ok xs S') : cellI it ρ = none := by
  cases hc : cellI it ρ with
  | none => rfl
  | some n =>
    obtain ⟨i, rfl, hi⟩ := cellI_some hc
    have e : evI cf (.seq (.var i)) ρ S = .bad := by simp only [evI, evE, hi]; rfl
    rw [e] at h; cases h
end
theorem mrgF_eq {α : Type} (le : α → α → Bool) : ∀ (n : Nat) (xs ys : List α), xs.length + ys.length ≤ n → mrgF le n xs ys = List.merge xs ys le
  | 0, xs, ys, h => by
    have h1 : xs = [] := List.length_eq_zero_iff.mp (by omega)
    have h2 : ys = [] := List.length_eq_zero_iff.mp (by omega)
    subst h1 h2
    simp [mrgF]
  | n + 1, [], ys, _ => by simp [mrgF]
  | n + 1, x :: xs, [], _ => by simp [mrgF]
  | n + 1, x :: xs, y :: ys, h => by
    simp only [List.length_cons] at h
    unfold mrgF
    rw [List.merge]
    rw [mrgF_eq le n xs (y :: ys) (by simp only [List.length_cons]; omega), mrgF_eq le n (x :: xs) ys (by simp only [List.length_cons]; omega)]
theorem msF_eq {α : Type} (le : α → α → Bool) : ∀ (n : Nat) (xs : List α), xs.length ≤ n → msF le n xs = xs.mergeSort le
  | 0, xs, h => by
    have h1 : xs = [] := List.length_eq_zero_iff.mp (by omega)
    subst h1
    simp [msF]
  | n + 1, [], _ => by simp [msF]
  | n + 1, [a], _ => by simp [msF]
  | n + 1, a :: b :: xs, h => by
    simp only [List.length_cons] at h
    unfold msF
    rw [List.mergeSort]
    have l1 : ((a :: b :: xs).take (((a :: b :: xs).length + 1) / 2)).length ≤ n := by
      rw [List.length_take]; simp only [List.length_cons]; omega
    have l2 : ((a :: b :: xs).drop (((a :: b :: xs).length + 1) / 2)).length ≤ n := by
      rw [List.length_drop]; simp only [List.length_cons]; omega
    dsimp only
    rw [msF_eq le n _ l1, msF_eq le n _ l2, mrgF_eq le _ _ _ (by rw [List.length_mergeSort, List.length_mergeSort, ← List.length_append, List.take_append_drop]; exact Nat.le_refl _)]
    rw [List.MergeSort.Internal.splitInTwo_fst, List.MergeSort.Internal.splitInTwo_snd]
theorem srt_eq (xs : List D) : srt xs = if (D.lst xs).fine && allAlike xs && sortable xs && decide (xs.length ≤ sizeMax) then some (xs.mergeSort leD) else none := by
  unfold srt
  rw [msF_eq leD _ xs (Nat.le_refl _)]
theorem ssN_eq (xs : List D) : ssN xs = if (xs.all fun d => d.nk 8 && isTup1 d) && allAlike xs then some ((dedup xs).mergeSort leD) else none := by
  unfold ssN
  rw [msF_eq leD _ _ (Nat.le_refl _)]
end Pe
set_option Elab.async false
set_option linter.all false
set_option maxRecDepth 100000
set_option maxHeartbeats 1000000
namespace Pe
open PySem PySem.Spec PyProof.Rows L2

abbrev Le (G G' : Hp) : Prop := ∀ a o, G a = some o → G' a = some o
abbrev Mu := Nat → Option Addr
abbrev LeM (μ μ' : Mu) : Prop := ∀ n a, μ n = some a → μ' n = some a

/-- an exception's object at a: its class, its own dict -/
def ExK (cls : Value) (d : Option Addr) (a : Addr) : HO := .ext fun h => ∃ (oe : Obj) (vs : Array Value), h.get? a = some oe ∧ Zc cls d oe ∧ oe.data = .fields vs
/-- the class of a name -/
def cN (K : PySem.W.Frag) (c : Str) : Value := .ref (He.ga K c)
mutual
/-- v stands for d, by what lies in G for good; references by μ -/
inductive Rep (K : PySem.W.Frag) (G : Hp) (μ : Mu) : V → D → Prop
  | non : Rep K G μ .non .non
  | bl (b : Bool) : Rep K G μ (.bl b) (.bl b)
  | int (i : Int) : Rep K G μ (.int i) (.int i)
  | str (x : Str) : Rep K G μ (.str x) (.str x)
  | lst {a : Addr} {xs : List V} {ds : List D} : G a = some (.lst xs) → Reps K G μ xs ds → Rep K G μ (.ref a) (.lst ds)
  | tup {a : Addr} {xs : List V} {ds : List D} : SqT K G a xs → Reps K G μ xs ds → Rep K G μ (.ref a) (.tup ds)
  | ref {n : Nat} {a : Addr} : μ n = some a → Rep K G μ (.ref a) (.ref n)
  | scr {a : Addr} {is : List Int} : SqL K G a (is.map V.int) → Rep K G μ (.ref a) (.scr is)
  | dct0 {a : Addr} : G a = some (.dK []) → Rep K G μ (.ref a) .dct0
  | exn0 {a : Addr} {c : Str} : G a = some (ExK (cN K c) none a) → Rep K G μ (.ref a) (.exn c [] [])
  | exnF {a dd : Addr} {c : Str} {ns : List Str} {vs : List V} {xs : List D} : G a = some (ExK (cN K c) (some dd) a) → G dd = some (.xd (ns.zip vs)) → ns.length = vs.length → Reps K G μ vs xs → Rep K G μ (.ref a) (.exn c ns xs)
inductive Reps (K : PySem.W.Frag) (G : Hp) (μ : Mu) : List V → List D → Prop
  | nil : Reps K G μ [] []
  | cons {v : V} {vs : List V} {d : D} {ds : List D} : Rep K G μ v d → Reps K G μ vs ds → Reps K G μ (v :: vs) (d :: ds)
end
section
variable {K : PySem.W.Frag} {G G' H : Hp} {μ μ' : Mu}
theorem seqL_le {a : Addr} {xs : List V} (e : Le G G') (h : SqL K G a xs) : SqL K G' a xs := Evl.ex_l e h
theorem seqT_le {a : Addr} {xs : List V} (e : Le G G') (h : SqT K G a xs) : SqT K G' a xs := Evl.ex_t e h
mutual
theorem Rep.up (e : Le G G') (m : LeM μ μ') : ∀ {v : V} {d : D}, Rep K G μ v d → Rep K G' μ' v d
  | _, _, .non => .non
  | _, _, .bl b => .bl b
  | _, _, .int i => .int i
  | _, _, .str x => .str x
  | _, _, .lst h r => .lst (e _ _ h) (Reps.up e m r)
  | _, _, .tup h r => .tup (seqT_le e h) (Reps.up e m r)
  | _, _, .ref h => .ref (m _ _ h)
  | _, _, .scr h => .scr (seqL_le e h)
  | _, _, .dct0 h => .dct0 (e _ _ h)
  | _, _, .exn0 h => .exn0 (e _ _ h)
  | _, _, .exnF h h2 h3 r => .exnF (e _ _ h) (e _ _ h2) h3 (Reps.up e m r)
theorem Reps.up (e : Le G G') (m : LeM μ μ') : ∀ {vs : List V} {ds : List D}, Reps K G μ vs ds → Reps K G' μ' vs ds
  | _, _, .nil => .nil
  | _, _, .cons h r => .cons (Rep.up e m h) (Reps.up e m r)
end
theorem Reps.len : ∀ {vs : List V} {ds : List D}, Reps K G μ vs ds → vs.length = ds.length
  | _, _, .nil => rfl
  | _, _, .cons _ r => by simp [Reps.len r]
theorem Reps.get : ∀ {vs : List V} {ds : List D} {i : Nat} {d : D}, Reps K G μ vs ds → ds[i]? = some d → ∃ v, vs[i]? = some v ∧ Rep K G μ v d
  | _, _, _, _, .nil, e => by simp at e
  | _, _, 0, _, .cons h _, e => by simp at e; subst e; exact ⟨_, rfl, h⟩
  | _, _, i + 1, d, .cons _ r, e => by
    obtain ⟨v, h1, h2⟩ := Reps.get (i := i) (d := d) r (by simpa using e)
    exact ⟨v, by simpa using h1, h2⟩
theorem Reps.getV : ∀ {vs : List V} {ds : List D} {i : Nat} {v : V}, Reps K G μ vs ds → vs[i]? = some v → ∃ d, ds[i]? = some d ∧ Rep K G μ v d
  | _, _, _, _, .nil, e => by simp at e
  | _, _, 0, _, .cons h _, e => by simp at e; subst e; exact ⟨_, rfl, h⟩
  | _, _, i + 1, v, .cons _ r, e => by
    obtain ⟨d, h1, h2⟩ := Reps.getV (i := i) (v := v) r (by simpa using e)
    exact ⟨d, by simpa using h1, h2⟩
theorem Reps.app : ∀ {vs ws : List V} {ds es : List D}, Reps K G μ vs ds → Reps K G μ ws es → Reps K G μ (vs ++ ws) (ds ++ es)
  | _, _, _, _, .nil, s => s
  | _, _, _, _, .cons h r, s => .cons h (Reps.app r s)
theorem Reps.take : ∀ {vs : List V} {ds : List D} (n : Nat), Reps K G μ vs ds → Reps K G μ (vs.take n) (ds.take n)
  | _, _, 0, _ => .nil
  | _, _, _ + 1, .nil => .nil
  | _, _, n + 1, .cons h r => .cons h (Reps.take n r)
theorem Reps.drop : ∀ {vs : List V} {ds : List D} (n : Nat), Reps K G μ vs ds → Reps K G μ (vs.drop n) (ds.drop n)
  | _, _, 0, r => r
  | _, _, _ + 1, .nil => .nil
  | _, _, n + 1, .cons _ r => Reps.drop n r
theorem Reps.set {w : V} {e : D} (q : Rep K G μ w e) : ∀ {vs : List V} {ds : List D} (i : Nat), Reps K G μ vs ds → Reps K G μ (vs.set i w) (ds.set i e)
  | _, _, _, .nil => .nil
  | _, _, 0, .cons _ r => .cons q r
  | _, _, i + 1, .cons h r => .cons h (Reps.set q i r)
theorem Reps.rev {vs : List V} {ds : List D} (h : Reps K G μ vs ds) : Reps K G μ vs.reverse ds.reverse := by
  induction h using Reps.rec (motive_1 := fun _ _ _ => True) with
  | nil => exact .nil
  | cons q _ _ ih => rw [List.reverse_cons, List.reverse_cons]; exact ih.app (.cons q .nil)
  | _ => trivial
theorem Reps.rep {vs : List V} {ds : List D} (h : Reps K G μ vs ds) : ∀ k : Nat, Reps K G μ (List.replicate k vs).flatten (List.replicate k ds).flatten
  | 0 => .nil
  | k + 1 => by
    rw [List.replicate_succ, List.replicate_succ, List.flatten_cons, List.flatten_cons]
    exact h.app (Reps.rep h k)
mutual
theorem Rep.dp : ∀ {v : V} {d : D} (n : Nat), d.ok n = true → Rep K G μ v d → Dp K G v d.py
  | _, _, _, _, .non => .non
  | _, _, _, _, .bl b => .bl b
  | _, _, _, _, .int i => .int i
  | _, _, _, _, .str x => .str x
  | _, _, 0, e, .lst h r => by simp [D.ok] at e
  | _, _, 0, e, .tup h r => by simp [D.ok] at e
  | _, _, n + 1, e, .lst h r => .lst (SqL.of h) (Reps.dp n (by simpa [D.ok] using e) r)
  | _, _, n + 1, e, .tup h r => .tup h (Reps.dp n (by simpa [D.ok] using e) r)
  | _, _, _, e, .ref h => by simp [D.ok] at e
  | _, _, _, e, .scr h => by simp [D.ok] at e
  | _, _, _, e, .dct0 h => by simp [D.ok] at e
  | _, _, _, e, .exn0 h => by simp [D.ok] at e
  | _, _, _, e, .exnF h h2 h3 r => by simp [D.ok] at e
theorem Reps.dp : ∀ {vs : List V} {ds : List D} (n : Nat), D.oks n ds = true → Reps K G μ vs ds → DpAll K G vs (D.pys ds)
  | _, _, _, _, .nil => .nil
  | _, _, n, e, .cons h r => by
    have e' := Bool.and_eq_true_iff.mp (show (D.ok n _ && D.oks n _) = true from e)
    exact .cons (Rep.dp n e'.1 h) (Reps.dp n e'.2 r)
end
theorem dp_le (e : Le G H) : ∀ {v : V} {d : PyData}, Dp K G v d → Dp K H v d := fun {v d} h => by
  induction h using Dp.rec (motive_2 := fun vs ds _ => DpAll K H vs ds) with
  | non => exact .non
  | bl b => exact .bl b
  | int i => exact .int i
  | str x => exact .str x
  | lst h _ ih => exact .lst (seqL_le e h) ih
  | tup h _ ih => exact .tup (seqT_le e h) ih
  | nil => exact .nil
  | cons _ _ i1 i2 => exact .cons i1 i2
end
theorem dpAll_le {K : PySem.W.Frag} {G H : Hp} (e : Le G H) : ∀ {vs : List V} {ds : List PyData}, DpAll K G vs ds → DpAll K H vs ds
  | _, _, .nil => .nil
  | _, _, .cons h r => .cons (dp_le e h) (dpAll_le e r)
mutual
theorem ok_plain : ∀ (d : D) (n : Nat), d.ok n = true → d.py.plain = true ∧ d.py.depth ≤ n
  | .non, _, _ => ⟨rfl, Nat.zero_le _⟩
  | .bl _, _, _ => ⟨rfl, Nat.zero_le _⟩
  | .int _, _, _ => ⟨rfl, Nat.zero_le _⟩
  | .str _, _, _ => ⟨rfl, Nat.zero_le _⟩
  | .tup _, 0, e => by simp [D.ok] at e
  | .lst _, 0, e => by simp [D.ok] at e
  | .tup xs, n + 1, e => by
    obtain ⟨a, b⟩ := oks_plain xs n (by simpa [D.ok] using e)
    exact ⟨by simpa [D.py, PyData.plain] using a, by simp only [D.py, PyData.depth]; omega⟩
  | .lst xs, n + 1, e => by
    obtain ⟨a, b⟩ := oks_plain xs n (by simpa [D.ok] using e)
    exact ⟨by simpa [D.py, PyData.plain] using a, by simp only [D.py, PyData.depth]; omega⟩
  | .ref _, _, e => by simp [D.ok] at e
  | .scr _, _, e => by simp [D.ok] at e
  | .dct0, _, e => by simp [D.ok] at e
  | .exn _ _ _, _, e => by simp [D.ok] at e
theorem oks_plain : ∀ (ds : List D) (n : Nat), D.oks n ds = true → PyData.plainAll (D.pys ds) = true ∧ PyData.depthAll (D.pys ds) ≤ n
  | [], _, _ => ⟨rfl, Nat.zero_le _⟩
  | d :: ds, n, e => by
    have e' := Bool.and_eq_true_iff.mp (show (D.ok n _ && D.oks n _) = true from e)
    obtain ⟨a, b⟩ := ok_plain d n e'.1
    obtain ⟨a', b'⟩ := oks_plain ds n e'.2
    exact ⟨by simp [D.pys, PyData.plainAll, a, a'], by simp only [D.pys, PyData.depthAll]; omega⟩
end
theorem pys_map : ∀ ds : List D, D.pys ds = ds.map D.py
  | [] => rfl
  | d :: ds => by simp [D.pys, pys_map ds]

/-- the attributes of an object, by name -/
inductive Frs (K : PySem.W.Frag) (G : Hp) (μ : Mu) : List (Str × V) → List (Str × D) → Prop
  | nil : Frs K G μ [] []
  | cons {f : Str} {v : V} {d : D} {r : List (Str × V)} {s : List (Str × D)} : Rep K G μ v d → Frs K G μ r s → Frs K G μ ((f, v) :: r) ((f, d) :: s)
theorem Frs.up {K : PySem.W.Frag} {G G' : Hp} {μ μ' : Mu} (e : Le G G') (m : LeM μ μ') : ∀ {r : List (Str × V)} {s : List (Str × D)}, Frs K G μ r s → Frs K G' μ' r s
  | _, _, .nil => .nil
  | _, _, .cons h r => .cons (h.up e m) (Frs.up e m r)
def CellOk (K : PySem.W.Frag) (G : Hp) (μ : Mu) (H : Hp) (a : Addr) : Cell → Prop
  | .lst xs => ∃ vs, H a = some (.lst vs) ∧ Reps K G μ vs xs
  | .obj c fs => ∃ dx vfs, H a = some (.ins (He.ga K c) dx vfs) ∧ Frs K G μ vfs fs
  | _ => False
structure Wd (K : PySem.W.Frag) (B G0 G : Hp) (μ : Mu) (S : Store) (H : Hp) : Prop where
  gh : Le G H
  bh : Le B H
  g0 : Le G0 G
  gb : ∀ a, B a ≠ none → G a ≠ none → G0 a ≠ none
  nx : ∀ n a, μ n = some a → n < S.nx
  inj : ∀ n m c c' a, S.get n = some c → S.get m = some c' → μ n = some a → μ m = some a → n = m
  cel : ∀ n c, S.get n = some c → ∃ a, μ n = some a ∧ G a = none ∧ B a = none ∧ CellOk K G μ H a c
def EnvR (K : PySem.W.Frag) (G : Hp) (μ : Mu) (ρ : En) (σ : L2.St) : Prop :=
  ρ.length = σ.length ∧ ∀ (i : Nat) (d : D), ρ[i]? = some (some d) → ∃ v, σ[i]? = some (some v) ∧ Rep K G μ v d
theorem EnvR.up {K : PySem.W.Frag} {G G' : Hp} {μ μ' : Mu} {ρ : En} {σ : L2.St} (e : Le G G') (m : LeM μ μ') (h : EnvR K G μ ρ σ) : EnvR K G' μ' ρ σ :=
  ⟨h.1, fun i d q => let ⟨v, a, b⟩ := h.2 i d q; ⟨v, a, b.up e m⟩⟩
theorem EnvR.set {K : PySem.W.Frag} {G : Hp} {μ : Mu} {ρ : En} {σ : L2.St} {i : Nat} {d : D} {v : V} (h : EnvR K G μ ρ σ) (r : Rep K G μ v d) : EnvR K G μ (ρ.set i (some d)) (σ.set i (some v)) := by
  refine ⟨by simp [h.1], fun j e q => ?_⟩
  by_cases hj : i = j
  · subst hj
    have hl : i < ρ.length := by
      have := (List.getElem?_eq_some_iff.mp q).1
      simpa using this
    rw [List.getElem?_set_self hl] at q
    cases q
    exact ⟨v, List.getElem?_set_self (h.1 ▸ hl), r⟩
  · rw [List.getElem?_set_ne hj] at q
    rw [List.getElem?_set_ne hj]
    exact h.2 j e q
theorem EnvR.clr {K : PySem.W.Frag} {G : Hp} {μ : Mu} {ρ : En} {σ : L2.St} {i : Nat} (h : EnvR K G μ ρ σ) : EnvR K G μ (ρ.set i none) (σ.set i none) := by
  refine ⟨by simp [h.1], fun j e q => ?_⟩
  by_cases hj : i = j
  · subst hj
    have hl : i < ρ.length := by
      have := (List.getElem?_eq_some_iff.mp q).1
      simpa using this
    rw [List.getElem?_set_self hl] at q
    cases q
  · rw [List.getElem?_set_ne hj] at q
    rw [List.getElem?_set_ne hj]
    exact h.2 j e q
theorem EnvR.wipe {K : PySem.W.Frag} {G : Hp} {μ : Mu} {ρ : En} {σ : L2.St} (h : EnvR K G μ ρ σ) : ∀ vs : List Nat, EnvR K G μ (wipe ρ vs) (L2.wipe σ vs)
  | [] => h
  | _ :: vs => (EnvR.wipe h vs).clr
/-- an expression's value -/
def FvOk (K : PySem.W.Frag) (B G : Hp) (μ : Mu) (S : Store) (H : Hp) (v : V) : Fv → Prop
  | .fz d => Rep K G μ v d
  | .nw xs => ∃ p vs, v = .ref p ∧ H p = some (.lst vs) ∧ G p = none ∧ B p = none ∧ (∀ n c, S.get n = some c → μ n ≠ some p) ∧ Reps K G μ vs xs
/-- an exception in the air: its class by name, its attributes -/
def ExOk (K : PySem.W.Frag) (G : Hp) (μ : Mu) (cl : Value) (dd : Option Addr) (x : Exn) : Prop := cl = cN K x.c ∧ ((x.ns = [] ∧ x.xs = [] ∧ dd = none) ∨ ∃ d vs, dd = some d ∧ G d = some (.xd (x.ns.zip vs)) ∧ x.ns.length = vs.length ∧ Reps K G μ vs x.xs)

section
variable {K : PySem.W.Frag} {B G0 G H : Hp} {μ : Mu} {S : Store}
theorem upd_le {G : Hp} {p : Addr} {o : HO} (h : G p = none) : Le G (upd G p o) := fun a u e => by
  rw [upd_ne (ne_of_none e h)]; exact e
theorem LeM.rfl' {μ : Mu} : LeM μ μ := fun _ _ h => h
theorem CellOk.up {G' : Hp} {μ' : Mu} {H' : Hp} {a : Addr} {c : Cell} (e : Le G G') (m : LeM μ μ') (hh : H' a = H a) (h : CellOk K G μ H a c) : CellOk K G' μ' H' a c := by
  cases c with
  | lst xs => obtain ⟨vs, a1, b⟩ := h; exact ⟨vs, by rw [hh]; exact a1, b.up e m⟩
  | dct _ => exact h
  | obj _ _ => obtain ⟨dx, vfs, a1, b⟩ := h; exact ⟨dx, vfs, by rw [hh]; exact a1, b.up e m⟩
/-- a new thing is laid and stays for good -/
theorem Wd.newG (w : Wd K B G0 G μ S H) {p : Addr} {o : HO} (hp : H p = none) : Wd K B G0 (upd G p o) μ S (upd H p o) ∧ Le G (upd G p o) ∧ G p = none := by
  have gp : G p = none := by
    cases e : G p with
    | none => rfl
    | some u => rw [w.gh p u e] at hp; cases hp
  have bp : B p = none := by
    cases e : B p with
    | none => rfl
    | some u => rw [w.bh p u e] at hp; cases hp
  refine ⟨⟨fun a u e => ?_, fun a u e => ?_, fun a u e => ?_, fun a h1 h2 => ?_, w.nx, w.inj, fun n c q => ?_⟩, upd_le gp, gp⟩
  · by_cases ha : a = p
    · subst ha; rw [upd_same] at e ⊢; exact e
    · rw [upd_ne ha] at e ⊢; exact w.gh a u e
  · rw [upd_ne (ne_of_none e bp)]; exact w.bh a u e
  · exact upd_le gp a u (w.g0 a u e)
  · have ha : a ≠ p := fun z => h1 (by rw [z]; exact bp)
    rw [upd_ne ha] at h2
    exact w.gb a h1 h2
  · obtain ⟨a, m, ga, ba, ok⟩ := w.cel n c q
    have ha : a ≠ p := fun z => by
      subst z
      cases c with
      | lst xs => obtain ⟨vs, e, _⟩ := ok; rw [e] at hp; cases hp
      | dct _ => exact ok.elim
      | obj _ _ => obtain ⟨_, _, e, _⟩ := ok; rw [e] at hp; cases hp
    exact ⟨a, m, by rw [upd_ne ha]; exact ga, ba, ok.up (upd_le gp) (fun _ _ h => h) (upd_ne ha)⟩
/-- a new list, held by nobody -/
theorem Wd.newF (w : Wd K B G0 G μ S H) {p : Addr} {vs : List V} {ds : List D} (hp : H p = none) (r : Reps K G μ vs ds) : Wd K B G0 G μ S (upd H p (.lst vs)) ∧ FvOk K B G μ S (upd H p (.lst vs)) (.ref p) (.nw ds) := by
  have gp : G p = none := by
    cases e : G p with
    | none => rfl
    | some u => rw [w.gh p u e] at hp; cases hp
  have bp : B p = none := by
    cases e : B p with
    | none => rfl
    | some u => rw [w.bh p u e] at hp; cases hp
  have np : ∀ n c, S.get n = some c → μ n ≠ some p := fun n c q z => by
    obtain ⟨a, m, _, _, ok⟩ := w.cel n c q
    rw [z] at m; cases m
    cases c with
    | lst xs => obtain ⟨vs, e, _⟩ := ok; rw [e] at hp; cases hp
    | dct _ => exact ok.elim
    | obj _ _ => obtain ⟨_, _, e, _⟩ := ok; rw [e] at hp; cases hp
  refine ⟨⟨fun a u e => ?_, fun a u e => ?_, w.g0, w.gb, w.nx, w.inj, fun n c q => ?_⟩, p, vs, rfl, upd_same, gp, bp, np, r⟩
  · rw [upd_ne (ne_of_none e gp)]; exact w.gh a u e
  · rw [upd_ne (ne_of_none e bp)]; exact w.bh a u e
  · obtain ⟨a, m, ga, ba, ok⟩ := w.cel n c q
    have ha : a ≠ p := fun z => np n c q (by rw [m, z])
    exact ⟨a, m, ga, ba, ok.up (fun _ _ h => h) (fun _ _ h => h) (upd_ne ha)⟩
/-- a list held by nobody is laid for good -/
theorem Wd.frz (w : Wd K B G0 G μ S H) {v : V} {f : Fv} (h : FvOk K B G μ S H v f) : ∃ G', Le G G' ∧ Wd K B G0 G' μ S H ∧ Rep K G' μ v f.d := by
  cases f with
  | fz d => exact ⟨G, fun _ _ e => e, w, h⟩
  | nw xs =>
    obtain ⟨p, vs, rfl, hp, gp, bp, np, r⟩ := h
    have le := upd_le (o := HO.lst vs) gp
    refine ⟨upd G p (.lst vs), le, ⟨fun a u e => ?_, w.bh, fun a u e => le a u (w.g0 a u e), fun a h1 h2 => ?_, w.nx, w.inj, fun n c q => ?_⟩, .lst upd_same (r.up le fun _ _ e => e)⟩
    · by_cases ha : a = p
      · subst ha; rw [upd_same] at e; rw [← e]; exact hp
      · rw [upd_ne ha] at e; exact w.gh a u e
    · have ha : a ≠ p := fun z => h1 (by rw [z]; exact bp)
      rw [upd_ne ha] at h2
      exact w.gb a h1 h2
    · obtain ⟨a, m, ga, ba, ok⟩ := w.cel n c q
      have ha : a ≠ p := fun z => np n c q (by rw [m, z])
      exact ⟨a, m, by rw [upd_ne ha]; exact ga, ba, ok.up le (fun _ _ e => e) rfl⟩
end

def After {α : Type} (K : PySem.W.Frag) (cn : Str → Option Value) (B G0 G : Hp) (μ : Mu) (σ : L2.St) (W : L2.WX) (r : R α) (P : α → Hp → Mu → Store → Hp → Prop) : Prop := match r with
  | .ok a S' => ∀ G' μ' H', Le G G' → LeM μ μ' → Wd K B G0 G' μ' S' H' → P a G' μ' S' H'
  | .exc e S' => ∀ G' μ' H' cl dd, Le G G' → LeM μ μ' → Wd K B G0 G' μ' S' H' → ExOk K G' μ' cl dd e → W cl dd σ H'
  | .bad => False
section
variable {K : PySem.W.Frag} {cn : Str → Option Value} {B G0 G : Hp} {μ : Mu} {σ : L2.St} {W : L2.WX}
theorem After.bnd {α β : Type} {m : M α} {k : α → M β} {S : Store} {P : β → Hp → Mu → Store → Hp → Prop} (h : After K cn B G0 G μ σ W (M.bnd m k S) P) :
    After K cn B G0 G μ σ W (m S) fun a G1 μ1 S1 _ => After K cn B G0 G1 μ1 σ W (k a S1) P := by
  unfold M.bnd at h
  cases e : m S with
  | ok a S1 =>
    rw [e] at h
    replace h : After K cn B G0 G μ σ W (k a S1) P := h
    intro G1 μ1 H1 le lm w
    show After K cn B G0 G1 μ1 σ W (k a S1) P
    cases e2 : k a S1 with
    | ok b S2 =>
      rw [e2] at h
      intro G2 μ2 H2 le2 lm2 w2
      exact h G2 μ2 H2 (fun a o q => le2 a o (le a o q)) (fun n a q => lm2 n a (lm n a q)) w2
    | exc x S2 =>
      rw [e2] at h
      intro G2 μ2 H2 cl dd le2 lm2 w2 ex
      exact h G2 μ2 H2 cl dd (fun a o q => le2 a o (le a o q)) (fun n a q => lm2 n a (lm n a q)) w2 ex
    | bad => rw [e2] at h; exact h.elim
  | exc x S1 => rw [e] at h; exact h
  | bad => rw [e] at h; exact h.elim
theorem After.imp {α : Type} {r : R α} {P P' : α → Hp → Mu → Store → Hp → Prop} (h : After K cn B G0 G μ σ W r P) (hP : ∀ a G' μ' S' H', Le G G' → LeM μ μ' → Wd K B G0 G' μ' S' H' → P a G' μ' S' H' → P' a G' μ' S' H') : After K cn B G0 G μ σ W r P' := by
  cases r with
  | ok a S' => exact fun G' μ' H' l m w => hP a G' μ' S' H' l m w (h G' μ' H' l m w)
  | exc x S' => exact h
  | bad => exact h
/-- a pure step -/
theorem After.opt {α : Type} {o : Option α} {S : Store} {H : Hp} {P : α → Hp → Mu → Store → Hp → Prop} (w : Wd K B G0 G μ S H) (h : After K cn B G0 G μ σ W (M.opt o S) P) : ∃ a, o = some a ∧ ∀ G' H', Le G G' → Wd K B G0 G' μ S H' → P a G' μ S H' := by
  cases o with
  | none => exact h.elim
  | some a => exact ⟨a, rfl, fun G' H' l w' => h G' μ H' l (fun _ _ e => e) w'⟩
theorem After.now {α : Type} {a : α} {S : Store} {H : Hp} {P : α → Hp → Mu → Store → Hp → Prop} (w : Wd K B G0 G μ S H) (h : After K cn B G0 G μ σ W (.ok a S) P) : P a G μ S H :=
  h G μ H (fun _ _ e => e) (fun _ _ e => e) w
/-- nothing is raised -/
theorem After.bare {α : Type} {m : M α} {S : Store} {σ' : L2.St} {P : α → Hp → Mu → Store → Hp → Prop} (h : After K cn B G0 G μ σ W (bareM m S) P) : After K cn B G0 G μ σ' (fun _ _ _ _ => False) (m S) P := by
  unfold bareM at h
  cases e : m S with
  | ok a S1 => rw [e] at h; exact h
  | exc x S1 => rw [e] at h; exact h.elim
  | bad => rw [e] at h; exact h.elim
end
end Pe
set_option Elab.async false
set_option linter.all false
set_option maxRecDepth 100000
set_option maxHeartbeats 4000000
namespace Pe
open PySem PySem.Spec PyProof.Rows L2

/-- what a value is, seen through a reference -/
inductive See (K : PySem.W.Frag) (G : Hp) (μ : Mu) (H : Hp) : V → D → Prop
  | non : See K G μ H .non .non
  | bl (b : Bool) : See K G μ H (.bl b) (.bl b)
  | int (i : Int) : See K G μ H (.int i) (.int i)
  | str (x : Str) : See K G μ H (.str x) (.str x)
  | lst {a : Addr} {xs : List V} {ds : List D} : H a = some (.lst xs) → Reps K G μ xs ds → See K G μ H (.ref a) (.lst ds)
  | tup {a : Addr} {xs : List V} {ds : List D} : SqT K G a xs → Reps K G μ xs ds → See K G μ H (.ref a) (.tup ds)
  | ref (x : V) (n : Nat) : See K G μ H x (.ref n)
  | scr {a : Addr} {is : List Int} : SqL K H a (is.map V.int) → See K G μ H (.ref a) (.scr is)
  | dct0 {a : Addr} : H a = some (.dK []) → See K G μ H (.ref a) .dct0
  | exn (a : Addr) (c : Str) (ns : List Str) (xs : List D) : See K G μ H (.ref a) (.exn c ns xs)
section
variable {K : PySem.W.Frag} {B G0 G H : Hp} {μ : Mu} {S : Store}
theorem see_ok (w : Wd K B G0 G μ S H) {x : V} {d : D} (r : Rep K G μ x d) : See K G μ H x (S.see d) := by
  cases r with
  | non => exact .non
  | bl b => exact .bl b
  | int i => exact .int i
  | str x => exact .str x
  | lst h r => exact .lst (w.gh _ _ h) r
  | tup h r => exact .tup h r
  | scr h => exact .scr (seqL_le w.gh h)
  | dct0 h => exact .dct0 (w.gh _ _ h)
  | exn0 h => exact .exn _ _ _ _
  | exnF h _ _ _ => exact .exn _ _ _ _
  | ref h =>
    rename_i n a
    cases e : S.get n with
    | none =>
      have : S.see (.ref n) = .ref n := by simp only [Store.see, e]
      rw [this]; exact .ref _ _
    | some c =>
      cases c with
      | lst xs =>
        have : S.see (.ref n) = .lst xs := by simp only [Store.see, e]
        rw [this]
        obtain ⟨a', m, _, _, vs, hv, rv⟩ := w.cel n _ e
        rw [h] at m; cases m
        exact .lst hv rv
      | dct _ =>
        have : S.see (.ref n) = .ref n := by simp only [Store.see, e]
        rw [this]; exact .ref _ _
      | obj _ _ =>
        have : S.see (.ref n) = .ref n := by simp only [Store.see, e]
        rw [this]; exact .ref _ _
theorem See.dp {x : V} {d : D} (w : Wd K B G0 G μ S H) (h : See K G μ H x d) {n : Nat} (hn : d.ok n = true) : Dp K H x d.py := by
  cases h with
  | non => exact .non
  | bl b => exact .bl b
  | int i => exact .int i
  | str x => exact .str x
  | lst h r =>
    cases n with
    | zero => simp [D.ok] at hn
    | succ n => exact .lst (SqL.of h) (by
      have := Reps.dp n (by simpa [D.ok] using hn) r
      clear h hn
      exact dpAll_le w.gh this)
  | tup h r =>
    cases n with
    | zero => simp [D.ok] at hn
    | succ n => exact .tup (seqT_le w.gh h) (dpAll_le w.gh (Reps.dp n (by simpa [D.ok] using hn) r))
  | ref x n => simp [D.ok] at hn
  | scr h => simp [D.ok] at hn
  | dct0 h => simp [D.ok] at hn
  | exn a c ns xs => simp [D.ok] at hn
/-- an operation on two values by what they stand for -/
def rF (K : PySem.W.Frag) (f : D → D → Option Fv) : R2 := fun x y H Q => ∃ B G0 G μ S d e v, Wd K B G0 G μ S H ∧ Rep K G μ x d ∧ Rep K G μ y e ∧ f (S.see d) (S.see e) = some v ∧
  ∀ z G' H', Le G G' → Wd K B G0 G' μ S H' → FvOk K B G' μ S H' z v → Q z H'
theorem now {Q : VK} {v : Fv} {z : V} (w : Wd K B G0 G μ S H) (h : ∀ z G' H', Le G G' → Wd K B G0 G' μ S H' → FvOk K B G' μ S H' z v → Q z H') (r : FvOk K B G μ S H z v) : Q z H := h z G H (fun _ _ e => e) w r
end
section
variable {X : Cx}
theorem o_add : OpR X (binaryOp .Add) (rF X.K (op2 .add)) := by
  intro pins s σ H x y v u Q I rx ry ⟨B, G0, G, μ, S, d, e, r, w, r1, r2, ho, k⟩
  have s1 := see_ok w r1
  have s2 := see_ok w r2
  generalize S.see d = d' at s1 ho
  generalize S.see e = e' at s2 ho
  cases s1 <;> cases s2 <;> simp only [op2, Option.some.injEq, reduceCtorEq] at ho
  · subst ho
    exact op_add pins s σ H _ _ v u Q I rx ry ⟨_, _, rfl, rfl, now w k (.int _)⟩
  · split at ho
    · simp only [Option.some.injEq] at ho
      subst ho
      rename_i hz
      exact op_add_str pins s σ H _ _ v u Q I rx ry ⟨_, _, rfl, rfl, hz, now w k (.str _)⟩
    · cases ho
  · rename_i a1 xs1 ds1 h1 q1 a2 xs2 ds2 h2 q2
    split at ho
    · simp only [Option.some.injEq] at ho
      subst ho
      rename_i hz
      refine op_cat pins s σ H _ _ v u Q I rx ry ⟨_, _, _, _, rfl, rfl, h1, h2, by rw [q1.len, q2.len]; exact hz, fun p hp => ?_⟩
      obtain ⟨w', f⟩ := w.newF hp (q1.app q2)
      exact k _ G _ (fun _ _ e => e) w' f
    · cases ho
  · rename_i a1 xs1 ds1 h1 q1 a2 xs2 ds2 h2 q2
    split at ho
    · simp only [Option.some.injEq] at ho
      subst ho
      rename_i hz
      refine op_catA pins s σ H _ _ v u Q I rx ry ⟨_, _, _, _, rfl, rfl, seqT_le w.gh h1, seqT_le w.gh h2, by rw [q1.len, q2.len]; exact hz, fun z => ?_, fun _ z => ?_, fun _ _ p hp => ?_⟩
      · subst z
        cases q1
        exact now w k (.tup h2 q2)
      · subst z
        cases q2
        exact now w k (.tup h1 (by rw [List.append_nil]; exact q1))
      · obtain ⟨w', le, gp⟩ := w.newG (o := .tup (xs1 ++ xs2)) hp
        exact k _ _ _ le w' (.tup (SqT.of upd_same) ((q1.app q2).up le fun _ _ e => e))
    · cases ho
theorem o_sub : OpR X (binaryOp .Sub) (rF X.K (op2 .sub)) := by
  intro pins s σ H x y v u Q I rx ry ⟨B, G0, G, μ, S, d, e, r, w, r1, r2, ho, k⟩
  have s1 := see_ok w r1
  have s2 := see_ok w r2
  generalize S.see d = d' at s1 ho
  generalize S.see e = e' at s2 ho
  cases s1 <;> cases s2 <;> simp only [op2, Option.some.injEq, reduceCtorEq] at ho
  subst ho
  exact op_sub pins s σ H _ _ v u Q I rx ry ⟨_, _, rfl, rfl, now w k (.int _)⟩
theorem mulOk_small {x : Str} {k : Int} (h0 : 0 ≤ k) (h1 : k ≤ 1000) (hx : x.length ≤ 1000) : MulOk x k := by
  have e : x.length * k.toNat ≤ 1000 * 1000 := Nat.mul_le_mul hx (by omega)
  refine ⟨?_, fun hk _ => ?_, fun _ _ => ?_⟩
  · rw [Bool.or_eq_false_iff]
    exact ⟨decide_eq_false (by omega), decide_eq_false (by omega)⟩
  · have hk' : 0 < k := by omega
    have : (x.length : Int) ≤ (2 ^ 63 - 1) / k := by
      refine (Int.le_ediv_iff_mul_le hk').mpr ?_
      have h3 : (x.length : Int) * k ≤ 1000 * 1000 := Int.mul_le_mul (by omega) h1 h0 (by omega)
      omega
    omega
  · unfold Builtin.Str.tooLong
    first
      | exact decide_eq_false (by rw [sizeLine_eq]; omega)
      | (rw [sizeLine_eq]; exact decide_eq_false (by omega))
      | simp [sizeLine_eq]; omega
theorem o_mul : OpR X (binaryOp .Mult) (rF X.K (op2 .mul)) := by
  intro pins s σ H x y v u Q I rx ry ⟨B, G0, G, μ, S, d, e, r, w, r1, r2, ho, k⟩
  have s1 := see_ok w r1
  have s2 := see_ok w r2
  generalize S.see d = d' at s1 ho
  generalize S.see e = e' at s2 ho
  cases s1 <;> cases s2 <;> simp only [op2, Option.some.injEq, reduceCtorEq] at ho
  · split at ho
    · simp only [Option.some.injEq] at ho
      subst ho
      rename_i i j hz
      refine op_mul pins s σ H _ _ v u Q I rx ry ⟨_, _, rfl, rfl, ?_, now w k (.int _)⟩
      rcases Bool.or_eq_true_iff.mp hz with z | z
      · exact .inl (of_decide_eq_true z)
      · exact .inr (of_decide_eq_true z)
    · cases ho
  · split at ho
    · simp only [Option.some.injEq] at ho
      subst ho
      rename_i z j hz
      simp only [Bool.and_eq_true, decide_eq_true_eq] at hz
      obtain ⟨t, rfl⟩ := rx
      obtain ⟨t', rfl⟩ := ry
      refine SB.mul (mulOk_small hz.1.1 hz.1.2 hz.2) fun t'' kk => ?_
      exact ⟨.str _, H, I.tok kk, ⟨t'', rfl⟩, now w k (.str _)⟩
    · cases ho
  · rename_i a1 xs1 ds1 h1 q1 j
    split at ho
    · simp only [Option.some.injEq] at ho
      subst ho
      rename_i hz
      simp only [Bool.and_eq_true, decide_eq_true_eq] at hz
      refine op_rep pins s σ H _ _ v u Q I rx ry ⟨_, _, _, rfl, rfl, h1, hz.1.1, hz.1.2, by rw [q1.len]; exact hz.2, fun p hp => ?_⟩
      obtain ⟨w', f⟩ := w.newF hp (q1.rep j.toNat)
      exact k _ G _ (fun _ _ e => e) w' f
    · cases ho
  · rename_i a1 xs1 ds1 h1 q1 j
    split at ho
    · simp only [Option.some.injEq] at ho
      subst ho
      rename_i hz
      simp only [Bool.and_eq_true, decide_eq_true_eq] at hz
      have hne : xs1 ≠ [] := by
        intro z; subst z; cases q1; simp at hz
      refine op_repT pins s σ H _ _ v u Q I rx ry ⟨_, _, _, rfl, rfl, seqT_le w.gh h1, hne, hz.1.1.2, hz.1.2, by rw [q1.len]; exact hz.2, fun p hp => ?_⟩
      obtain ⟨w', le, gp⟩ := w.newG (o := .tup (List.replicate j.toNat xs1).flatten) hp
      exact k _ _ _ le w' (.tup (SqT.of upd_same) ((q1.rep j.toNat).up le fun _ _ e => e))
    · cases ho
theorem o_mod : OpR X (binaryOp .Mod) (rF X.K (op2 .mod)) := by
  intro pins s σ H x y v u Q I rx ry ⟨B, G0, G, μ, S, d, e, r, w, r1, r2, ho, k⟩
  have s1 := see_ok w r1
  have s2 := see_ok w r2
  generalize S.see d = d' at s1 ho
  generalize S.see e = e' at s2 ho
  cases s1 <;> cases s2 <;> simp only [op2, Option.some.injEq, reduceCtorEq] at ho
  split at ho
  · simp only [Option.some.injEq] at ho
    subst ho
    rename_i hz
    exact op_mod pins s σ H _ _ v u Q I rx ry ⟨_, _, rfl, rfl, hz, now w k (.int _)⟩
  · cases ho
theorem o_fdv : OpR X (binaryOp .FloorDiv) (rF X.K (op2 .fdv)) := by
  intro pins s σ H x y v u Q I rx ry ⟨B, G0, G, μ, S, d, e, r, w, r1, r2, ho, k⟩
  have s1 := see_ok w r1
  have s2 := see_ok w r2
  generalize S.see d = d' at s1 ho
  generalize S.see e = e' at s2 ho
  cases s1 <;> cases s2 <;> simp only [op2, Option.some.injEq, reduceCtorEq] at ho
  split at ho
  · simp only [Option.some.injEq] at ho
    subst ho
    rename_i hz
    exact op_fdiv pins s σ H _ _ v u Q I rx ry ⟨_, _, rfl, rfl, hz, now w k (.int _)⟩
  · cases ho
theorem o_pow : OpR X (binaryOp .Pow) (rF X.K (op2 .pow)) := by
  intro pins s σ H x y v u Q I rx ry ⟨B, G0, G, μ, S, d, e, r, w, r1, r2, ho, k⟩
  have s1 := see_ok w r1
  have s2 := see_ok w r2
  generalize S.see d = d' at s1 ho
  generalize S.see e = e' at s2 ho
  cases s1 <;> cases s2 <;> simp only [op2, Option.some.injEq, reduceCtorEq] at ho
  split at ho
  · simp only [Option.some.injEq] at ho
    subst ho
    rename_i hz
    have hz' := of_decide_eq_true hz
    obtain ⟨t, rfl⟩ := rx
    obtain ⟨t', rfl⟩ := ry
    exact pow_int hz'.1 hz'.2 ⟨.int _, H, I.tok _, ⟨_, rfl⟩, now w k (.int _)⟩
  · cases ho
theorem o_bor : OpR X (binaryOp .BitOr) (rF X.K (op2 .bor)) := by
  intro pins s σ H x y v u Q I rx ry ⟨B, G0, G, μ, S, d, e, r, w, r1, r2, ho, k⟩
  have s1 := see_ok w r1
  have s2 := see_ok w r2
  generalize S.see d = d' at s1 ho
  generalize S.see e = e' at s2 ho
  cases s1 <;> cases s2 <;> simp only [op2, Option.some.injEq, reduceCtorEq] at ho
  subst ho
  exact op_or pins s σ H _ _ v u Q I rx ry ⟨_, _, rfl, rfl, now w k (.int _)⟩
theorem o_bxr : OpR X (binaryOp .BitXor) (rF X.K (op2 .bxr)) := by
  intro pins s σ H x y v u Q I rx ry ⟨B, G0, G, μ, S, d, e, r, w, r1, r2, ho, k⟩
  have s1 := see_ok w r1
  have s2 := see_ok w r2
  generalize S.see d = d' at s1 ho
  generalize S.see e = e' at s2 ho
  cases s1 <;> cases s2 <;> simp only [op2, Option.some.injEq, reduceCtorEq] at ho
  subst ho
  exact op_xor pins s σ H _ _ v u Q I rx ry ⟨_, _, rfl, rfl, now w k (.int _)⟩
end
end Pe
set_option Elab.async false
set_option linter.all false
set_option maxRecDepth 100000
set_option maxHeartbeats 4000000
namespace Pe
open PySem PySem.Spec PyProof.Rows L2
def mu0 : Mu := fun _ => none
section
variable {K : PySem.W.Frag} {G : Hp} {μ μ' : Mu}
mutual
theorem rep_pure : ∀ {v : V} {d : D}, d.pure = true → Rep K G μ v d → Rep K G μ' v d
  | _, _, _, .non => .non
  | _, _, _, .bl b => .bl b
  | _, _, _, .int i => .int i
  | _, _, _, .str x => .str x
  | _, _, h, .lst a r => .lst a (reps_pure (by simpa [D.pure] using h) r)
  | _, _, h, .tup a r => .tup a (reps_pure (by simpa [D.pure] using h) r)
  | _, _, h, .ref _ => by simp [D.pure] at h
  | _, _, h, .scr _ => by simp [D.pure] at h
  | _, _, _, .dct0 a => .dct0 a
  | _, _, _, .exn0 a => .exn0 a
  | _, _, h, .exnF a b c r => .exnF a b c (reps_pure (by simpa [D.pure] using h) r)
theorem reps_pure : ∀ {vs : List V} {ds : List D}, D.pures ds = true → Reps K G μ vs ds → Reps K G μ' vs ds
  | _, _, _, .nil => .nil
  | _, _, h, .cons a r => by
    have h' := Bool.and_eq_true_iff.mp (show (D.pure _ && D.pures _) = true from h)
    exact .cons (rep_pure h'.1 a) (reps_pure h'.2 r)
end
end
/-- what must stay while a pure call runs -/
def guard (G H : Hp) : Hp := fun a => match G a with
  | some _ => none
  | none => H a
section
variable {K : PySem.W.Frag} {cn : Cn} {B G0 G H : Hp} {μ : Mu} {S : Store} {σ : L2.St} {W : L2.WX}
theorem guard_le : Le (guard G H) H := fun a o e => by
  unfold guard at e
  split at e
  · cases e
  · exact e
theorem guard_at {a : Addr} (h : G a = none) : guard G H a = H a := by
  unfold guard
  rw [h]
theorem guard_none {a : Addr} (h : guard G H a ≠ none) : G a = none := by
  unfold guard at h
  split at h
  · exact absurd rfl h
  · assumption
theorem Wd.enter (w : Wd K B G0 G μ S H) : Wd K (guard G H) G G mu0 .mt H where
  gh := w.gh
  bh := guard_le
  g0 := fun _ _ e => e
  gb := fun _ _ h => h
  nx := fun n a e => by cases e
  inj := fun n m c c' a h => by cases h
  cel := fun n c h => by cases h
theorem Wd.back (w : Wd K B G0 G μ S H) {G2 H2 : Hp} {μ2 : Mu} {S2 : Store} (l : Le G G2) (w2 : Wd K (guard G H) G G2 μ2 S2 H2) : Wd K B G0 G2 μ S H2 := by
  refine ⟨w2.gh, fun a o e => ?_, fun a o e => l _ _ (w.g0 a o e), fun a h1 h2 => ?_, w.nx, w.inj, fun n c h => ?_⟩
  · have hH := w.bh a o e
    cases hg : G a with
    | some o' =>
      have := w.gh a o' hg
      rw [hH] at this; cases this
      exact w2.gh _ _ (l _ _ hg)
    | none => exact w2.bh a o (by rw [guard_at hg]; exact hH)
  · cases hg : G a with
    | some o' => exact w.gb a h1 (by rw [hg]; exact fun z => nomatch z)
    | none =>
      have hb : guard G H a ≠ none := by
        rw [guard_at hg]
        cases hB : B a with
        | none => exact absurd hB h1
        | some o => rw [w.bh a o hB]; exact fun z => nomatch z
      exact absurd hg (w2.gb a hb h2)
  · obtain ⟨a, m, ga, ba, ok⟩ := w.cel n c h
    have key : ∀ o, H a = some o → G2 a = none ∧ H2 a = some o := fun o ho => by
      have hb : guard G H a = some o := by rw [guard_at ga]; exact ho
      refine ⟨?_, w2.bh a o hb⟩
      cases h2 : G2 a with
      | none => rfl
      | some u => exact absurd ga (w2.gb a (by rw [hb]; exact fun z => nomatch z) (by rw [h2]; exact fun z => nomatch z))
    cases c with
    | lst xs =>
      obtain ⟨vs, hv, r⟩ := ok
      obtain ⟨k1, k2⟩ := key _ hv
      exact ⟨a, m, k1, ba, vs, k2, r.up l fun _ _ e => e⟩
    | dct _ => exact ok.elim
    | obj _ _ =>
      obtain ⟨dx, vfs, hv, r⟩ := ok
      obtain ⟨k1, k2⟩ := key _ hv
      exact ⟨a, m, k1, ba, dx, vfs, k2, r.up l fun _ _ e => e⟩
theorem FvOk.back (w : Wd K B G0 G μ S H) {G2 H2 : Hp} {μ2 : Mu} {S2 : Store} (l : Le G G2) {z : V} {v : Fv} (hp : v.d.pure = true) (f : FvOk K (guard G H) G2 μ2 S2 H2 z v) : FvOk K B G2 μ S H2 z v := by
  cases v with
  | fz d => exact rep_pure hp f
  | nw xs =>
    obtain ⟨p, vs, rfl, h1, h2, h3, h4, r⟩ := f
    have gp : G p = none := by
      cases e : G p with
      | none => rfl
      | some u => rw [l _ _ e] at h2; cases h2
    have hp' : H p = none := by rw [← guard_at (H := H) gp]; exact h3
    refine ⟨p, vs, rfl, h1, h2, ?_, fun n c h z => ?_, reps_pure (by simpa [D.pure, Fv.d] using hp) r⟩
    · cases e : B p with
      | none => rfl
      | some u => rw [w.bh _ _ e] at hp'; cases hp'
    · obtain ⟨a, m, ga, ba, ok⟩ := w.cel n c h
      rw [m] at z; cases z
      cases c with
      | lst xs => obtain ⟨vs, hv, r⟩ := ok; rw [hp'] at hv; cases hv
      | dct _ => exact ok.elim
      | obj _ _ => obtain ⟨_, _, hv, _⟩ := ok; rw [hp'] at hv; cases hv
/-- what a call may look at, besides what stays: the cells that it is shown -/
def viewed (As : List Addr) (G H : Hp) : Hp := fun a => match G a with
  | some o => some o
  | none => if a ∈ As then H a else none
theorem viewed_G {As : List Addr} {G H : Hp} : Le G (viewed As G H) := fun a o e => by unfold viewed; rw [e]
theorem viewed_H {As : List Addr} {G H : Hp} (l : Le G H) : Le (viewed As G H) H := fun a o e => by
  unfold viewed at e
  split at e
  · rename_i o' h; cases e; exact l _ _ h
  · split at e
    · exact e
    · cases e
theorem viewed_at {As : List Addr} {G H : Hp} {a : Addr} {o : HO} (hG : G a = none) (ha : a ∈ As) (hH : H a = some o) : viewed As G H a = some o := by
  unfold viewed
  rw [hG]
  simp only [ha, if_true]
  exact hH
theorem Wd.show (w : Wd K B G0 G μ S H) (As : List Addr) : Wd K (guard (viewed As G H) H) (viewed As G H) (viewed As G H) mu0 .mt H where
  gh := viewed_H w.gh
  bh := guard_le
  g0 := fun _ _ e => e
  gb := fun _ _ h => h
  nx := fun n a e => by cases e
  inj := fun n m c c' a h => by cases h
  cel := fun n c h => by cases h
theorem Wd.unshow (w : Wd K B G0 G μ S H) {As : List Addr} {G2 H2 : Hp} {μ2 : Mu} {S2 : Store} (l : Le (viewed As G H) G2) (w2 : Wd K (guard (viewed As G H) H) (viewed As G H) G2 μ2 S2 H2) : Wd K B G0 G μ S H2 := by
  have stay : ∀ a o, H a = some o → H2 a = some o := fun a o e => by
    cases hv : viewed As G H a with
    | some o' =>
      have e2 := viewed_H (As := As) w.gh a o' hv
      rw [e] at e2; cases e2
      exact w2.gh _ _ (l _ _ hv)
    | none => exact w2.bh a o (by rw [guard_at hv]; exact e)
  refine ⟨fun a o e => stay a o (w.gh a o e), fun a o e => stay a o (w.bh a o e), w.g0, w.gb, w.nx, w.inj, fun n c h => ?_⟩
  obtain ⟨a, m, ga, ba, ok⟩ := w.cel n c h
  refine ⟨a, m, ga, ba, ?_⟩
  cases c with
  | lst xs =>
    obtain ⟨vs, hv, r⟩ := ok
    exact ⟨vs, stay _ _ hv, r⟩
  | dct _ => exact ok.elim
  | obj _ _ =>
    obtain ⟨dx, vfs, hv, r⟩ := ok
    exact ⟨dx, vfs, stay _ _ hv, r⟩
theorem rep_flat {K : PySem.W.Frag} {G G' : Hp} {μ μ' : Mu} {v : V} {d : D} (hf : d.flat = true) (r : Rep K G μ v d) : Rep K G' μ' v d := by
  cases r with
  | non => exact .non
  | bl b => exact .bl b
  | int i => exact .int i
  | str x => exact .str x
  | _ => cases hf
theorem reps_deep_of {k : Nat} (ih : ∀ {v : V} {d : D}, (S.deep k d).pure = true → Rep K G μ v d → ∃ As0 : List Addr, ∀ As, (∀ a ∈ As0, a ∈ As) → Rep K (viewed As G H) mu0 v (S.deep k d)) :
    ∀ {vs : List V} {ds : List D}, D.pures (ds.map (S.deep k)) = true → Reps K G μ vs ds → ∃ As0 : List Addr, ∀ As, (∀ a ∈ As0, a ∈ As) → Reps K (viewed As G H) mu0 vs (ds.map (S.deep k))
  | _, _, _, .nil => ⟨[], fun _ _ => .nil⟩
  | _, _, hp, .cons r rs => by
    have h' := Bool.and_eq_true_iff.mp (show (D.pure _ && D.pures _) = true from hp)
    obtain ⟨A1, h1⟩ := ih h'.1 r
    obtain ⟨A2, h2⟩ := reps_deep_of ih h'.2 rs
    exact ⟨A1 ++ A2, fun As hA => .cons (h1 As fun a z => hA a (List.mem_append_left _ z)) (h2 As fun a z => hA a (List.mem_append_right _ z))⟩
theorem rep_deep (w : Wd K B G0 G μ S H) : ∀ (k : Nat) {v : V} {d : D}, (S.deep k d).pure = true → Rep K G μ v d → ∃ As0 : List Addr, ∀ As, (∀ a ∈ As0, a ∈ As) → Rep K (viewed As G H) mu0 v (S.deep k d)
  | 0, _, _, hp, r => ⟨[], fun As _ => rep_pure (μ := μ) hp (Rep.up viewed_G (fun _ _ e => e) r)⟩
  | k + 1, _, _, hp, r => by
    cases r with
    | non => exact ⟨[], fun _ _ => .non⟩
    | bl b => exact ⟨[], fun _ _ => .bl b⟩
    | int i => exact ⟨[], fun _ _ => .int i⟩
    | str x => exact ⟨[], fun _ _ => .str x⟩
    | lst h r' =>
      obtain ⟨A, hA⟩ := reps_deep_of (fun {_ _} => rep_deep w k) (by simpa [Store.deep, D.pure] using hp) r'
      exact ⟨A, fun As z => .lst (viewed_G _ _ h) (hA As z)⟩
    | tup h r' =>
      obtain ⟨A, hA⟩ := reps_deep_of (fun {_ _} => rep_deep w k) (by simpa [Store.deep, D.pure] using hp) r'
      exact ⟨A, fun As z => .tup (seqT_le viewed_G h) (hA As z)⟩
    | scr h => cases hp
    | dct0 h => exact ⟨[], fun _ _ => .dct0 (viewed_G _ _ h)⟩
    | exn0 h => exact ⟨[], fun _ _ => .exn0 (viewed_G _ _ h)⟩
    | exnF h h2 h3 r' => exact ⟨[], fun _ _ => rep_pure (μ := μ) hp (Rep.up viewed_G (fun _ _ e => e) (.exnF h h2 h3 r'))⟩
    | ref hm =>
      rename_i n a
      cases hg : S.get n with
      | none => simp only [Store.deep, hg] at hp; cases hp
      | some c =>
        cases c with
        | lst xs =>
          obtain ⟨a', m, ga, ba, ok⟩ := w.cel n _ hg
          rw [hm] at m; cases m
          obtain ⟨vs', hv, r'⟩ := ok
          have e : S.deep (k + 1) (.ref n) = .lst (xs.map (S.deep k)) := by simp only [Store.deep, hg]
          rw [e] at hp ⊢
          obtain ⟨A, hA⟩ := reps_deep_of (fun {_ _} => rep_deep w k) (by simpa [D.pure] using hp) r'
          exact ⟨a :: A, fun As z => .lst (viewed_at ga (z a List.mem_cons_self) hv) (hA As fun b q => z b (List.mem_cons_of_mem _ q))⟩
        | dct _ => simp only [Store.deep, hg] at hp; cases hp
        | obj _ _ => simp only [Store.deep, hg] at hp; cases hp
theorem reps_deep (w : Wd K B G0 G μ S H) {k : Nat} {vs : List V} {ds : List D} (hp : D.pures (ds.map (S.deep k)) = true) (r : Reps K G μ vs ds) : ∃ As0 : List Addr, ∀ As, (∀ a ∈ As0, a ∈ As) → Reps K (viewed As G H) mu0 vs (ds.map (S.deep k)) :=
  reps_deep_of (fun {_ _} => rep_deep w k) hp r
end
end Pe
set_option Elab.async false
set_option linter.all false
set_option maxRecDepth 100000
set_option maxHeartbeats 4000000
namespace Pe
open PySem PySem.Spec PyProof.Rows L2
theorem dict_ne_declines_tuple (l b : Addr) (od : Obj) (es : Array DictEntry) (ep : Nat) (items2 : Array Value) (n2 : Nat) (dd2 : Option Addr) (sl2 : Array (Option Value)) (hc : od.cls = .type "dict") (hd : od.data = .dict es ep) :
    Meets (Builtin.«dict.__ne__» ⟨[.ref l, .ref b], []⟩) (fun _ R s => s.heap.get? l = some od ∧ s.heap.get? b = some { cls := .type "tuple", dict := dd2, data := .seq items2 n2, slots := sl2 } ∧ R (.ok (.ret .notImplemented)) s) :=
  .of_wp fun prog w A R s h => by
    obtain ⟨hp, g, d, tk, os⟩ := s
    obtain ⟨hl, hb, h⟩ := h
    obtain ⟨c0, d0, t0, s0⟩ := od
    simp only at hc hd
    subst hc hd
    have f1 := F.sub_tuple_dict
    wp_walk using AutoSeq1.wpAny_loadPart' hl, AutoSeq1.wpAny_loadPart' hb
    exact ⟨_, rfl, h⟩
theorem tuple_ne_declines_dict (l b : Addr) (od : Obj) (es : Array DictEntry) (ep : Nat) (items2 : Array Value) (n2 : Nat) (dd2 : Option Addr) (sl2 : Array (Option Value)) (hc : od.cls = .type "dict") (hd : od.data = .dict es ep) :
    Meets (Builtin.«tuple.__ne__» ⟨[.ref b, .ref l], []⟩) (fun _ R s => s.heap.get? b = some { cls := .type "tuple", dict := dd2, data := .seq items2 n2, slots := sl2 } ∧ s.heap.get? l = some od ∧ R (.ok (.ret .notImplemented)) s) :=
  .of_wp fun prog w A R s h => by
    obtain ⟨hp, g, d, tk, os⟩ := s
    obtain ⟨hb, hl, h⟩ := h
    obtain ⟨c0, d0, t0, s0⟩ := od
    simp only at hc hd
    subst hc hd
    have f1 := F.sub_dict_tuple
    wp_walk using AutoSeq1.wpAny_loadPart' hl, AutoSeq1.wpAny_loadPart' hb
    exact ⟨_, rfl, h⟩
theorem ne_dict_tuple {A : Around} {s : Shared} {l b : Addr} {od : Obj} {es : Array DictEntry} {ep : Nat} {items : Array Value} (hl : s.heap.get? l = some od) (hc : od.cls = .type "dict") (hd : od.data = .dict es ep) (hb : s.heap.IsTuple b items) (hu : A.units < cLine) : SeqAt.RcNeAt A s (.ref l) (.ref b) true := fun prog w E Q h => by
  obtain ⟨⟨cls2, dd2, data2, sl2⟩, ho2, hc2, n2, hd2⟩ := id hb
  simp only at hc2 hd2
  subst hc2 hd2
  have hne : l ≠ b := fun e => by
    subst e
    rw [hl] at ho2
    cases ho2
    simp at hc
  exact (SeqAt.rc_ne_decline_or (k := false) ⟨_, hl, hc⟩ ⟨_, ho2, rfl⟩ (by decide) F.sub_tuple_dict F.slot_dict_ne F.slot_tuple_ne_refl
    (fun _ hq => call_meets F.slot_dict_ne ⟨_, hl, hc⟩ F.entry_dict_ne (F.args_dict_ne_2 _ _) (dict_ne_declines_tuple l b od es ep items n2 dd2 sl2 hc hd) ⟨hl, ho2, hq⟩)
    (fun _ hq => call_meets F.slot_tuple_ne_refl ⟨_, ho2, rfl⟩ F.entry_tuple_ne (F.args_tuple_ne_2 _ _) (tuple_ne_declines_dict l b od es ep items n2 dd2 sl2 hc hd) ⟨ho2, hl, hq⟩)
    (fun _ hq => wpAny_isSame_ref_other hne hl ho2 (by rw [hc]; simp) hq) (.inr hu) h)
end Pe
set_option Elab.async false
set_option linter.all false
set_option maxRecDepth 100000
set_option maxHeartbeats 4000000
namespace Pe
open PySem PySem.Spec PyProof.Rows L2
section
variable {X : Cx}
theorem See.reads {B G0 G H : Hp} {μ : Mu} {S : Store} {pins : List (Addr × Obj)} {σ : L2.St} {s : Shared} {x : V} {v : Value} {d : D} (I : Inv X pins σ H s) (w : Wd X.K B G0 G μ S H) (h : See X.K G μ H x d) (r : RelV x v) (f : d.fine = true) :
    ∃ as, Reads s.heap v d.py as ∧ d.py.plain = true ∧ d.py.depth ≤ 20 := by
  obtain ⟨as, q⟩ := Dp.reads I d.py x v (h.dp w f) r
  obtain ⟨a, b⟩ := ok_plain d 20 f
  exact ⟨as, q, a, b⟩
theorem o_eq (hu : X.A.units + 64 < cLine) : OpR X (compareOp .Eq) (rF X.K (op2 .eq)) := by
  intro pins s σ H x y v u Q I rx ry ⟨B, G0, G, μ, S, d, e, r, w, r1, r2, ho, k⟩
  have s1 := see_ok w r1
  have s2 := see_ok w r2
  generalize S.see d = d' at s1 ho
  generalize S.see e = e' at s2 ho
  have ho' : (eqD d' e').map (fun r => Fv.fz (.bl r)) = some r := by cases d' <;> cases e' <;> exact ho
  unfold eqD at ho'
  split at ho'
  · rename_i hf
    have hf := Bool.and_eq_true_iff.mp hf
    simp only [Option.map_some, Option.some.injEq] at ho'
    subst ho'
    obtain ⟨as, ra, pa, da⟩ := s1.reads I w rx hf.1
    obtain ⟨bs, rb, pb, db⟩ := s2.reads I w ry hf.2
    exact SeqAt.eq_plain ra rb pa pb (by omega) (fin_bl I (now w k (.bl _)) rfl)
  · simp at ho'
theorem range_zip {α β : Type} (f : α × β → Bool) (xs : List α) (ys : List β) (e : Nat → Bool) (he : ∀ (j : Nat) (a : α) (b : β), xs[j]? = some a → ys[j]? = some b → e j = f (a, b)) : (List.range (min xs.length ys.length)).all e = (xs.zip ys).all f := by
  rw [Bool.eq_iff_iff, List.all_eq_true, List.all_eq_true]
  constructor
  · intro h p hp
    obtain ⟨j, hj, ep⟩ := List.mem_iff_getElem.mp hp
    have hj' := hj
    rw [List.length_zip] at hj'
    have q := h j (List.mem_range.mpr hj')
    have h1 : xs[j]? = some p.1 := by rw [← ep, List.getElem_zip]; exact List.getElem?_eq_getElem _
    have h2 : ys[j]? = some p.2 := by rw [← ep, List.getElem_zip]; exact List.getElem?_eq_getElem _
    rw [he j _ _ h1 h2] at q
    exact q
  · intro h j hj
    have hj := List.mem_range.mp hj
    have h1 : j < xs.length := by omega
    have h2 : j < ys.length := by omega
    rw [he j _ _ (List.getElem?_eq_getElem h1) (List.getElem?_eq_getElem h2)]
    refine h _ (List.mem_iff_getElem.mpr ⟨j, by rw [List.length_zip]; omega, ?_⟩)
    rw [List.getElem_zip]
theorem o_ne (hu : X.A.units + 64 < cLine) : OpR X (compareOp .NotEq) (rF X.K (op2 .ne)) := by
  intro pins s σ H x y v u Q I rx ry ⟨B, G0, G, μ, S, d, e, r, w, r1, r2, ho, k⟩
  have s1 := see_ok w r1
  have s2 := see_ok w r2
  generalize S.see d = d' at s1 ho
  generalize S.see e = e' at s2 ho
  have ho' : (neD d' e').map (fun r => Fv.fz (.bl r)) = some r := by cases d' <;> cases e' <;> exact ho
  unfold neD at ho'
  split at ho'
  · rename_i q hq
    unfold eqD at hq
    split at hq
    · rename_i hf
      have hf := Bool.and_eq_true_iff.mp hf
      cases hq
      simp only [Option.map_some, Option.some.injEq] at ho'
      subst ho'
      obtain ⟨as, ra, pa, da⟩ := s1.reads I w rx hf.1
      obtain ⟨bs, rb, pb, db⟩ := s2.reads I w ry hf.2
      exact SeqAt.ne_plain ra rb pa pb (by omega) (fin_bl I (now w k (.bl _)) rfl)
    · cases hq
  · split at ho'
    · simp only [Option.map_some, Option.some.injEq] at ho'
      subst ho'
      cases s1 with
      | dct0 ha =>
        cases s2 with
        | tup hq rs =>
          cases rx
          cases ry
          obtain ⟨_, _, vs, _, p⟩ := (show ObjOk X.prog X.w H s.heap _ (.dK []) from I.hok _ _ ha)
          obtain ⟨od, es, ep, h1, h2, h3, _⟩ := p
          obtain ⟨its, rv, pt, _⟩ := I.tuple (seqT_le w.gh hq)
          exact ne_dict_tuple h1 h2.1 h3 pt (by omega) _ _ _ _ (fin_bl I (now w k (.bl _)) rfl)
    · rename_i xs ys _
      split at ho'
      · rename_i hf
        simp only [Option.map_some, Option.some.injEq] at ho'
        subst ho'
        cases s1 with
        | tup hq1 rs1 =>
          cases s2 with
          | tup hq2 rs2 =>
            cases rx
            cases ry
            obtain ⟨its, rv, p1, _⟩ := I.tuple (seqT_le w.gh hq1)
            obtain ⟨its2, rv2, p2, _⟩ := I.tuple (seqT_le w.gh hq2)
            have l1 : its.length = xs.length := by rw [← rv.length, rs1.len]
            have l2 : its2.length = ys.length := by rw [← rv2.length, rs2.len]
            have hel : ∀ (j : Nat) (a b : D), xs[j]? = some a → ys[j]? = some b → a.fine = true ∧ b.fine = true := fun j a b h1 h2 => by
              have := List.all_eq_true.mp hf (a, b) (List.mem_iff_getElem?.mpr ⟨j, List.getElem?_zip_eq_some.mpr ⟨h1, h2⟩⟩)
              exact Bool.and_eq_true_iff.mp this
            have he : ∀ j (h1 : j < its.toArray.size) (h2 : j < its2.toArray.size), SeqAt.EqAt X.A.in1 s its.toArray[j] its2.toArray[j] (match xs[j]?, ys[j]? with | some a, some b => PyData.eqv a.py b.py | _, _ => true) := fun j h1 h2 => by
              have j1 : j < xs.length := by rw [← l1]; simpa using h1
              have j2 : j < ys.length := by rw [← l2]; simpa using h2
              have e1 := List.getElem?_eq_getElem j1
              have e2 := List.getElem?_eq_getElem j2
              obtain ⟨fa, fb⟩ := hel j _ _ e1 e2
              obtain ⟨va, ha, ra⟩ := rs1.get e1
              obtain ⟨vb, hb, rb⟩ := rs2.get e2
              obtain ⟨ua, hua, rua⟩ := rv.get ha
              obtain ⟨ub, hub, rub⟩ := rv2.get hb
              have ea : its.toArray[j] = ua := by
                have : its[j]? = some its[j] := List.getElem?_eq_getElem _
                rw [hua] at this
                simpa using (Option.some.inj this).symm
              have eb : its2.toArray[j] = ub := by
                have : its2[j]? = some its2[j] := List.getElem?_eq_getElem _
                rw [hub] at this
                simpa using (Option.some.inj this).symm
              obtain ⟨as, qa⟩ := Dp.reads I _ _ _ (dp_le w.gh (Rep.dp 20 fa ra)) rua
              obtain ⟨bs, qb⟩ := Dp.reads I _ _ _ (dp_le w.gh (Rep.dp 20 fb rb)) rub
              obtain ⟨pa, da⟩ := ok_plain _ 20 fa
              obtain ⟨pb, db⟩ := ok_plain _ 20 fb
              rw [ea, eb, e1, e2]
              exact SeqAt.eqAt_plain _ _ _ _ _ _ _ _ qa qb pa pb (by show X.A.units + 1 + _ < cLine; omega)
            have t := SeqAt.RcNeAt.tuples p1 p2 (show X.A.units < cLine by omega) he
            have ev : (!((List.range (min its.toArray.size its2.toArray.size)).all (fun j => match xs[j]?, ys[j]? with | some a, some b => PyData.eqv a.py b.py | _, _ => true) && its.toArray.size == its2.toArray.size)) = (!((xs.zip ys).all (fun p => PyData.eqv p.1.py p.2.py) && xs.length == ys.length)) := by
              rw [List.size_toArray, List.size_toArray, l1, l2, range_zip (fun p : D × D => PyData.eqv p.1.py p.2.py) xs ys _ fun j a b h1 h2 => by simp only [h1, h2]]
            rw [ev] at t
            exact t _ _ _ _ (fin_bl I (now w k (.bl _)) rfl)
      · simp at ho'
    · simp at ho'
theorem o_lt (hu : X.A.units + 64 < cLine) : OpR X (compareOp .Lt) (rF X.K (op2 .lt)) := by
  intro pins s σ H x y v u Q I rx ry ⟨B, G0, G, μ, S, d, e, r, w, r1, r2, ho, k⟩
  have s1 := see_ok w r1
  have s2 := see_ok w r2
  generalize S.see d = d' at s1 ho
  generalize S.see e = e' at s2 ho
  cases s1 <;> cases s2 <;> simp only [op2, ltD, Option.map_some, Option.map_none, Option.some.injEq, reduceCtorEq] at ho
  · subst ho
    exact op_lt pins s σ H _ _ v u Q I rx ry ⟨_, _, rfl, rfl, now w k (.bl _)⟩
  · subst ho
    exact op_lt_str pins s σ H _ _ v u Q I rx ry ⟨_, _, rfl, rfl, now w k (.bl _)⟩
  · rename_i a1 xs1 ds1 h1 q1 a2 xs2 ds2 h2 q2
    split at ho
    · rename_i hf
      simp only [Bool.and_eq_true] at hf
      simp only [Option.map_some, Option.some.injEq] at ho
      subst ho
      obtain ⟨as, ra, pa, da⟩ := (See.tup h1 q1 : See X.K G μ H _ _).reads I w rx hf.1.1
      obtain ⟨bs, rb, pb, db⟩ := (See.tup h2 q2 : See X.K G μ H _ _).reads I w ry hf.1.2
      exact W.lt_data ra rb hf.2 (by simp [D.py]) (by omega) (fin_bl I (now w k (.bl _)) rfl)
    · simp at ho
theorem o_gt : OpR X (compareOp .Gt) (rF X.K (op2 .gt)) := by
  intro pins s σ H x y v u Q I rx ry ⟨B, G0, G, μ, S, d, e, r, w, r1, r2, ho, k⟩
  have s1 := see_ok w r1
  have s2 := see_ok w r2
  generalize S.see d = d' at s1 ho
  generalize S.see e = e' at s2 ho
  cases s1 <;> cases s2 <;> simp only [op2, Option.some.injEq, reduceCtorEq] at ho
  subst ho
  exact op_gt pins s σ H _ _ v u Q I rx ry ⟨_, _, rfl, rfl, now w k (.bl _)⟩
theorem o_le : OpR X (compareOp .LtE) (rF X.K (op2 .le)) := by
  intro pins s σ H x y v u Q I rx ry ⟨B, G0, G, μ, S, d, e, r, w, r1, r2, ho, k⟩
  have s1 := see_ok w r1
  have s2 := see_ok w r2
  generalize S.see d = d' at s1 ho
  generalize S.see e = e' at s2 ho
  cases s1 <;> cases s2 <;> simp only [op2, leI, Option.map_some, Option.map_none, Option.some.injEq, reduceCtorEq] at ho
  subst ho
  exact op_le pins s σ H _ _ v u Q I rx ry ⟨_, _, rfl, rfl, now w k (.bl _)⟩
theorem o_ge : OpR X (compareOp .GtE) (rF X.K (op2 .ge)) := by
  intro pins s σ H x y v u Q I rx ry ⟨B, G0, G, μ, S, d, e, r, w, r1, r2, ho, k⟩
  have s1 := see_ok w r1
  have s2 := see_ok w r2
  generalize S.see d = d' at s1 ho
  generalize S.see e = e' at s2 ho
  cases s1 <;> cases s2 <;> simp only [op2, leI, Option.map_some, Option.map_none, Option.some.injEq, reduceCtorEq] at ho
  subst ho
  exact op_ge pins s σ H _ _ v u Q I rx ry ⟨_, _, rfl, rfl, now w k (.bl _)⟩
theorem o_is : OpR X (compareOp .Is) (rF X.K (op2 .is_)) := by
  intro pins s σ H x y v u Q I rx ry ⟨B, G0, G, μ, S, d, e, r, w, r1, r2, ho, k⟩
  have s2 := see_ok w r2
  generalize S.see e = e' at s2 ho
  cases s2 <;> (try (exfalso; cases hd : S.see d <;> rw [hd] at ho <;> simp [op2] at ho; done))
  have s1 := see_ok w r1
  cases r1 with
  | non =>
    have : S.see .non = .non := rfl
    rw [this] at ho
    simp only [op2, Option.some.injEq] at ho
    subst ho
    exact op_isN pins s σ H _ _ v u Q I rx ry ⟨rfl, now w k (.bl _)⟩
  | ref h =>
    rename_i n a
    have e1 : (decide (V.ref a = .non)) = false := decide_eq_false (fun z => nomatch z)
    have e2 : r = Fv.fz (.bl false) := by
      cases hs : S.see (.ref n) with
      | non => simp only [Store.see] at hs; split at hs <;> cases hs
      | _ => rw [hs] at ho; simp only [op2, Option.some.injEq] at ho; exact ho.symm
    subst e2
    exact op_isN pins s σ H _ _ v u Q I rx ry ⟨rfl, by rw [e1]; exact now w k (.bl _)⟩
  | bl b => simp only [Store.see, op2, Option.some.injEq] at ho; subst ho; exact op_isN pins s σ H _ _ v u Q I rx ry ⟨rfl, by rw [decide_eq_false (fun z => nomatch z)]; exact now w k (.bl _)⟩
  | int b => simp only [Store.see, op2, Option.some.injEq] at ho; subst ho; exact op_isN pins s σ H _ _ v u Q I rx ry ⟨rfl, by rw [decide_eq_false (fun z => nomatch z)]; exact now w k (.bl _)⟩
  | str b => simp only [Store.see, op2, Option.some.injEq] at ho; subst ho; exact op_isN pins s σ H _ _ v u Q I rx ry ⟨rfl, by rw [decide_eq_false (fun z => nomatch z)]; exact now w k (.bl _)⟩
  | lst _ _ => simp only [Store.see, op2, Option.some.injEq] at ho; subst ho; exact op_isN pins s σ H _ _ v u Q I rx ry ⟨rfl, by rw [decide_eq_false (fun z => nomatch z)]; exact now w k (.bl _)⟩
  | tup _ _ => simp only [Store.see, op2, Option.some.injEq] at ho; subst ho; exact op_isN pins s σ H _ _ v u Q I rx ry ⟨rfl, by rw [decide_eq_false (fun z => nomatch z)]; exact now w k (.bl _)⟩
  | scr _ => simp only [Store.see, op2, Option.some.injEq] at ho; subst ho; exact op_isN pins s σ H _ _ v u Q I rx ry ⟨rfl, by rw [decide_eq_false (fun z => nomatch z)]; exact now w k (.bl _)⟩
  | dct0 _ => simp only [Store.see, op2, Option.some.injEq] at ho; subst ho; exact op_isN pins s σ H _ _ v u Q I rx ry ⟨rfl, by rw [decide_eq_false (fun z => nomatch z)]; exact now w k (.bl _)⟩
  | exn0 _ => simp only [Store.see, op2, Option.some.injEq] at ho; subst ho; exact op_isN pins s σ H _ _ v u Q I rx ry ⟨rfl, by rw [decide_eq_false (fun z => nomatch z)]; exact now w k (.bl _)⟩
  | exnF _ _ _ _ => simp only [Store.see, op2, Option.some.injEq] at ho; subst ho; exact op_isN pins s σ H _ _ v u Q I rx ry ⟨rfl, by rw [decide_eq_false (fun z => nomatch z)]; exact now w k (.bl _)⟩
theorem o_isn : OpR X (compareOp .IsNot) (rF X.K (op2 .isn)) := by
  intro pins s σ H x y v u Q I rx ry ⟨B, G0, G, μ, S, d, e, r, w, r1, r2, ho, k⟩
  have s2 := see_ok w r2
  generalize S.see e = e' at s2 ho
  cases s2 <;> (try (exfalso; cases hd : S.see d <;> rw [hd] at ho <;> simp [op2] at ho; done))
  have s1 := see_ok w r1
  cases r1 with
  | non =>
    have : S.see .non = .non := rfl
    rw [this] at ho
    simp only [op2, Option.some.injEq] at ho
    subst ho
    exact op_notN pins s σ H _ _ v u Q I rx ry ⟨rfl, now w k (.bl _)⟩
  | ref h =>
    rename_i n a
    have e1 : (decide (V.ref a = .non)) = false := decide_eq_false (fun z => nomatch z)
    have e2 : r = Fv.fz (.bl true) := by
      cases hs : S.see (.ref n) with
      | non => simp only [Store.see] at hs; split at hs <;> cases hs
      | _ => rw [hs] at ho; simp only [op2, Option.some.injEq] at ho; exact ho.symm
    subst e2
    exact op_notN pins s σ H _ _ v u Q I rx ry ⟨rfl, by rw [e1]; exact now w k (.bl _)⟩
  | bl b => simp only [Store.see, op2, Option.some.injEq] at ho; subst ho; exact op_notN pins s σ H _ _ v u Q I rx ry ⟨rfl, by rw [decide_eq_false (fun z => nomatch z)]; exact now w k (.bl _)⟩
  | int b => simp only [Store.see, op2, Option.some.injEq] at ho; subst ho; exact op_notN pins s σ H _ _ v u Q I rx ry ⟨rfl, by rw [decide_eq_false (fun z => nomatch z)]; exact now w k (.bl _)⟩
  | str b => simp only [Store.see, op2, Option.some.injEq] at ho; subst ho; exact op_notN pins s σ H _ _ v u Q I rx ry ⟨rfl, by rw [decide_eq_false (fun z => nomatch z)]; exact now w k (.bl _)⟩
  | lst _ _ => simp only [Store.see, op2, Option.some.injEq] at ho; subst ho; exact op_notN pins s σ H _ _ v u Q I rx ry ⟨rfl, by rw [decide_eq_false (fun z => nomatch z)]; exact now w k (.bl _)⟩
  | tup _ _ => simp only [Store.see, op2, Option.some.injEq] at ho; subst ho; exact op_notN pins s σ H _ _ v u Q I rx ry ⟨rfl, by rw [decide_eq_false (fun z => nomatch z)]; exact now w k (.bl _)⟩
  | scr _ => simp only [Store.see, op2, Option.some.injEq] at ho; subst ho; exact op_notN pins s σ H _ _ v u Q I rx ry ⟨rfl, by rw [decide_eq_false (fun z => nomatch z)]; exact now w k (.bl _)⟩
  | dct0 _ => simp only [Store.see, op2, Option.some.injEq] at ho; subst ho; exact op_notN pins s σ H _ _ v u Q I rx ry ⟨rfl, by rw [decide_eq_false (fun z => nomatch z)]; exact now w k (.bl _)⟩
  | exn0 _ => simp only [Store.see, op2, Option.some.injEq] at ho; subst ho; exact op_notN pins s σ H _ _ v u Q I rx ry ⟨rfl, by rw [decide_eq_false (fun z => nomatch z)]; exact now w k (.bl _)⟩
  | exnF _ _ _ _ => simp only [Store.see, op2, Option.some.injEq] at ho; subst ho; exact op_notN pins s σ H _ _ v u Q I rx ry ⟨rfl, by rw [decide_eq_false (fun z => nomatch z)]; exact now w k (.bl _)⟩
theorem sign_of {x : Str} {c : Nat} (h : x.cps.toList = [c]) : x = ⟨#[c]⟩ := by
  cases x with
  | mk a =>
    have : a = #[c] := by
      apply Array.toList_inj.mp
      simpa using h
    rw [this]
theorem any_pys (ds : List D) (d : PyData) : (D.pys ds).any (fun z => PyData.eqv z d) = ds.any fun y => PyData.eqv y.py d := by
  rw [pys_map, List.any_map]; rfl
theorem o_in (hu : X.A.units + 64 < cLine) : OpR X (compareOp .In) (rF X.K (op2 .in_)) := by
  intro pins s σ H x y v u Q I rx ry ⟨B, G0, G, μ, S, d, e, r, w, r1, r2, ho, k⟩
  have s1 := see_ok w r1
  have s2 := see_ok w r2
  generalize S.see d = d' at s1 ho
  generalize S.see e = e' at s2 ho
  cases s2 with
  | str z =>
    cases s1 <;> simp only [op2, reduceCtorEq] at ho
    split at ho
    · rename_i c hc
      simp only [Option.some.injEq] at ho
      subst ho
      have := sign_of hc
      subst this
      exact op_in_sign pins s σ H _ _ v u Q I rx ry ⟨c, z, rfl, rfl, now w k (.bl _)⟩
    · cases ho
  | lst h2 q2 =>
    rename_i a2 xs2 ds2
    have ho' : (if d'.fine && (D.lst ds2).fine then some (Fv.fz (.bl (ds2.any fun y => PyData.eqv y.py d'.py))) else none) = some r := by cases d' <;> exact ho
    split at ho'
    · rename_i hf
      have hf := Bool.and_eq_true_iff.mp hf
      simp only [Option.some.injEq] at ho'
      subst ho'
      obtain ⟨as, ra, pa, da⟩ := s1.reads I w rx hf.1
      obtain ⟨bs, rb, pb, db⟩ := (See.lst h2 q2 : See X.K G μ H _ _).reads I w ry hf.2
      simp only [D.py, PyData.plain, PyData.depth] at rb pb db
      exact SeqAt.in_list_data rb ra pb pa (by omega) (fin_bl I (now w k (.bl _)) (any_pys ds2 _).symm)
    · cases ho'
  | tup h2 q2 =>
    rename_i a2 xs2 ds2
    have ho' : (if d'.fine && (D.lst ds2).fine then some (Fv.fz (.bl (ds2.any fun y => PyData.eqv y.py d'.py))) else none) = some r := by cases d' <;> exact ho
    split at ho'
    · rename_i hf
      have hf := Bool.and_eq_true_iff.mp hf
      simp only [Option.some.injEq] at ho'
      subst ho'
      obtain ⟨as, ra, pa, da⟩ := s1.reads I w rx hf.1
      obtain ⟨bs, rb, pb, db⟩ := (See.tup h2 q2 : See X.K G μ H _ _).reads I w ry (show (D.tup ds2).ok 20 = true from hf.2)
      simp only [D.py, PyData.plain, PyData.depth] at rb pb db
      exact SeqAt.in_tuple_data rb ra pb pa (by omega) (fin_bl I (now w k (.bl _)) (any_pys ds2 _).symm)
    · cases ho'
  | _ => exfalso; cases d' <;> simp [op2] at ho
theorem o_nin (hu : X.A.units + 64 < cLine) : OpR X (compareOp .NotIn) (rF X.K (op2 .nin)) := by
  intro pins s σ H x y v u Q I rx ry ⟨B, G0, G, μ, S, d, e, r, w, r1, r2, ho, k⟩
  have s1 := see_ok w r1
  have s2 := see_ok w r2
  generalize S.see d = d' at s1 ho
  generalize S.see e = e' at s2 ho
  cases s2 with
  | str z =>
    cases s1 <;> simp only [op2, reduceCtorEq] at ho
    split at ho
    · rename_i c hc
      simp only [Option.some.injEq] at ho
      subst ho
      have := sign_of hc
      subst this
      exact op_notIn_sign pins s σ H _ _ v u Q I rx ry ⟨c, z, rfl, rfl, now w k (.bl _)⟩
    · cases ho
  | lst h2 q2 =>
    rename_i a2 xs2 ds2
    have ho' : (if d'.fine && (D.lst ds2).fine then some (Fv.fz (.bl !(ds2.any fun y => PyData.eqv y.py d'.py))) else none) = some r := by cases d' <;> exact ho
    split at ho'
    · rename_i hf
      have hf := Bool.and_eq_true_iff.mp hf
      simp only [Option.some.injEq] at ho'
      subst ho'
      obtain ⟨as, ra, pa, da⟩ := s1.reads I w rx hf.1
      obtain ⟨bs, rb, pb, db⟩ := (See.lst h2 q2 : See X.K G μ H _ _).reads I w ry hf.2
      simp only [D.py, PyData.plain, PyData.depth] at rb pb db
      exact SeqAt.notIn_list_data rb ra pb pa (by omega) (fin_bl I (now w k (.bl _)) (by rw [any_pys]))
    · cases ho'
  | tup h2 q2 =>
    rename_i a2 xs2 ds2
    have ho' : (if d'.fine && (D.lst ds2).fine then some (Fv.fz (.bl !(ds2.any fun y => PyData.eqv y.py d'.py))) else none) = some r := by cases d' <;> exact ho
    split at ho'
    · rename_i hf
      have hf := Bool.and_eq_true_iff.mp hf
      simp only [Option.some.injEq] at ho'
      subst ho'
      obtain ⟨as, ra, pa, da⟩ := s1.reads I w rx hf.1
      obtain ⟨bs, rb, pb, db⟩ := (See.tup h2 q2 : See X.K G μ H _ _).reads I w ry (show (D.tup ds2).ok 20 = true from hf.2)
      simp only [D.py, PyData.plain, PyData.depth] at rb pb db
      exact SeqAt.notIn_tuple_data rb ra pb pa (by omega) (fin_bl I (now w k (.bl _)) (by rw [any_pys]))
    · cases ho'
  | _ => exfalso; cases d' <;> simp [op2] at ho
end
end Pe
set_option Elab.async false
set_option linter.all false
set_option maxRecDepth 100000
set_option maxHeartbeats 4000000
namespace Pe
open PySem PySem.Spec PyProof.Rows L2
theorem atI_rep {K : PySem.W.Frag} {G : Hp} {μ : Mu} {vs : List V} {ds : List D} (r : Reps K G μ vs ds) {i : Int} {d : D} (h : atI ds i = some d) : ∃ v, atI vs i = some v ∧ Rep K G μ v d := by
  unfold atI at h ⊢
  rw [r.len]
  cases e : ixN ds.length i with
  | none => rw [e] at h; cases h
  | some j =>
    rw [e] at h
    exact r.get (by simpa using h)
theorem cutA_rep {K : PySem.W.Frag} {G : Hp} {μ : Mu} {vs : List V} {ds : List D} (r : Reps K G μ vs ds) (lo hi : Option Int) : Reps K G μ (cutV vs lo hi) (cutA ds lo hi) := by
  unfold cutV cutA
  rw [r.len]
  exact (r.drop _).take _
theorem reps_ints {K : PySem.W.Frag} {G : Hp} {μ : Mu} : ∀ is : List Int, Reps K G μ (is.map V.int) (is.map D.int)
  | [] => .nil
  | i :: is => .cons (.int i) (reps_ints is)
theorem cutA_map {α β : Type} (f : α → β) (xs : List α) (lo hi : Option Int) : cutA (xs.map f) lo hi = (cutA xs lo hi).map f := by
  unfold cutA
  rw [List.length_map, List.map_take, List.map_drop]
section
variable {X : Cx}
theorem o_ix : IxR X (rF X.K (op2 .ix)) := by
  intro value slice pins s σ H x y v u Q I rx ry ⟨B, G0, G, μ, S, d, e, r, w, r1, r2, ho, k⟩ hs
  have s1 := see_ok w r1
  have s2 := see_ok w r2
  generalize S.see d = d' at s1 ho
  generalize S.see e = e' at s2 ho
  cases s1 <;> cases s2 <;> simp only [op2, reduceCtorEq] at ho
  · rename_i z i
    split at ho
    · rename_i hz
      cases ha : atI z.cps.toList i with
      | none => rw [ha] at ho; cases ho
      | some c =>
        rw [ha] at ho
        simp only [Option.map_some, Option.some.injEq] at ho
        subst ho
        exact ix_str value slice pins s σ H _ _ v u Q I rx ry ⟨z, i, c, rfl, rfl, hz, ha, now w k (.str _)⟩ hs
    · cases ho
  · rename_i a xs ds h1 q1 i
    cases ha : atI ds i with
    | none => rw [ha] at ho; cases ho
    | some c =>
      rw [ha] at ho
      simp only [Option.map_some, Option.some.injEq] at ho
      subst ho
      obtain ⟨z, hz, rz⟩ := atI_rep q1 ha
      exact ix_list value slice pins s σ H _ _ v u Q I rx ry ⟨a, xs, i, z, rfl, rfl, SqL.of h1, hz, now w k rz⟩ hs
  · rename_i a xs ds h1 q1 i
    cases ha : atI ds i with
    | none => rw [ha] at ho; cases ho
    | some c =>
      rw [ha] at ho
      simp only [Option.map_some, Option.some.injEq] at ho
      subst ho
      obtain ⟨z, hz, rz⟩ := atI_rep q1 ha
      exact ix_tup value slice pins s σ H _ _ v u Q I rx ry ⟨a, xs, i, z, rfl, rfl, seqT_le w.gh h1, hz, now w k rz⟩ hs
def rCut (K : PySem.W.Frag) : V → Option Int → Option Int → Hp → VK → Prop := fun x lo hi H Q => ∃ B G0 G μ S d r, Wd K B G0 G μ S H ∧ Rep K G μ x d ∧ cutO (S.see d) lo hi = some r ∧
  ∀ z G' H', Le G G' → Wd K B G0 G' μ S H' → FvOk K B G' μ S H' z r → Q z H'
theorem o_cut : SlR X (rCut X.K) := by
  intro pins s σ H x v vl vu lo hi sl Q I rx hs pl pu ⟨B, G0, G, μ, S, d, r, w, r1, ho, k⟩
  have s1 := see_ok w r1
  generalize S.see d = d' at s1 ho
  cases s1 <;> simp only [cutO, reduceCtorEq] at ho
  · rename_i z
    split at ho
    · rename_i hz
      simp only [Option.some.injEq] at ho
      subst ho
      exact sl_str pins s σ H _ v vl vu lo hi sl Q I rx hs pl pu ⟨z, rfl, hz, now w k (.str _)⟩
    · cases ho
  · rename_i a xs ds h1 q1
    simp only [Option.some.injEq] at ho
    subst ho
    refine sl_list pins s σ H _ v vl vu lo hi sl Q I rx hs pl pu ⟨a, xs, rfl, SqL.of h1, fun p hp => ?_⟩
    obtain ⟨w', f⟩ := w.newF hp (cutA_rep q1 lo hi)
    exact k _ G _ (fun _ _ e => e) w' f
  · rename_i a xs ds h1 q1
    simp only [Option.some.injEq] at ho
    subst ho
    have q2 := cutA_rep q1 lo hi
    refine sl_tupA pins s σ H _ v vl vu lo hi sl Q I rx hs pl pu ⟨a, xs, rfl, seqT_le w.gh h1, fun z => ?_, fun _ p hp => ?_⟩
    · have e : cutV xs lo hi = xs := by
        unfold cutV
        rw [z.1, z.2, List.drop_zero, Nat.sub_zero, List.take_length]
      rw [e] at q2
      exact now w k (.tup h1 q2)
    · obtain ⟨w', le, gp⟩ := w.newG (o := .tup (cutV xs lo hi)) hp
      exact k _ _ _ le w' (.tup (SqT.of upd_same) (q2.up le fun _ _ e => e))
  · rename_i a is h1
    simp only [Option.some.injEq] at ho
    subst ho
    refine sl_list pins s σ H _ v vl vu lo hi sl Q I rx hs pl pu ⟨a, _, rfl, h1, fun p hp => ?_⟩
    obtain ⟨w', f⟩ := w.newF hp (vs := cutV (is.map V.int) lo hi) (ds := (cutA is lo hi).map .int) (by
      have := cutA_rep (K := X.K) (G := G) (μ := μ) (reps_ints is) lo hi
      rw [cutA_map] at this
      exact this)
    exact k _ G _ (fun _ _ e => e) w' f
/-- what the truth of a value is -/
theorem tru_of {B G0 G H : Hp} {μ : Mu} {S : Store} {x : V} {d : D} {b : Bool} (w : Wd X.K B G0 G μ S H) (r : Rep X.K G μ x d) (h : truthy (S.see d) = some b) : TruV X.K x H b := by
  have s1 := see_ok w r
  generalize S.see d = d' at s1 h
  cases s1 <;> simp only [truthy, Option.some.injEq, reduceCtorEq] at h
  · subst h; rfl
  · subst h; rfl
  · subst h; rfl
  · split at h
    · rename_i hz
      simp only [Option.some.injEq] at h
      exact ⟨hz, h.symm⟩
    · cases h
  · rename_i a xs ds h1 q1
    refine .inl ⟨xs, SqL.of h1, ?_⟩
    rw [← h]
    cases q1 <;> rfl
  · rename_i a xs ds h1 q1
    refine .inr (.inl ⟨xs, seqT_le w.gh h1, ?_⟩)
    rw [← h]
    cases q1 <;> rfl
theorem u_neg : UnR X (unaryOp .USub) (fun x H Q => ∃ B G0 G μ S d r, Wd X.K B G0 G μ S H ∧ Rep X.K G μ x d ∧ op1 .neg (S.see d) = some r ∧ ∀ z G' H', Le G G' → Wd X.K B G0 G' μ S H' → FvOk X.K B G' μ S H' z r → Q z H') := by
  intro pins s σ H x v Q I rx ⟨B, G0, G, μ, S, d, r, w, r1, ho, k⟩
  have s1 := see_ok w r1
  generalize S.see d = d' at s1 ho
  cases s1 <;> simp only [op1, Option.some.injEq, reduceCtorEq] at ho
  subst ho
  exact un_neg pins s σ H _ v Q I rx ⟨_, rfl, now w k (.int _)⟩
def rBf (K : PySem.W.Frag) (f : Bf) : List V → Hp → VK → Prop := fun vs H Q => ∃ B G0 G μ S ds r, Wd K B G0 G μ S H ∧ Reps K G μ vs ds ∧ bfO f (ds.map S.see) = some r ∧
  ∀ z G' H', Le G G' → Wd K B G0 G' μ S H' → FvOk K B G' μ S H' z r → Q z H'
theorem sees {B G0 G H : Hp} {μ : Mu} {S : Store} {K : PySem.W.Frag} (w : Wd K B G0 G μ S H) {vs : List V} {ds : List D} (r : Reps K G μ vs ds) : vs.length = ds.length ∧ ∀ (i : Nat) (v : V) (d : D), vs[i]? = some v → (ds.map S.see)[i]? = some d → See K G μ H v d := by
  refine ⟨r.len, fun i v d h1 h2 => ?_⟩
  obtain ⟨e, he, re⟩ := r.getV h1
  rw [List.getElem?_map, he] at h2
  simp only [Option.map_some, Option.some.injEq] at h2
  rw [← h2]
  exact see_ok w re
theorem see1 {B G0 G H : Hp} {μ : Mu} {S : Store} {K : PySem.W.Frag} (w : Wd K B G0 G μ S H) {vs : List V} {ds : List D} (r : Reps K G μ vs ds) {d : D} (h : ds.map S.see = [d]) : ∃ v, vs = [v] ∧ See K G μ H v d := by
  obtain ⟨hl, hs⟩ := sees w r
  have h1 : ds.length = 1 := by simpa using congrArg List.length h
  match vs, hl.trans h1 with
  | [v], _ => exact ⟨v, rfl, hs 0 v d rfl (by rw [h]; rfl)⟩
theorem see2 {B G0 G H : Hp} {μ : Mu} {S : Store} {K : PySem.W.Frag} (w : Wd K B G0 G μ S H) {vs : List V} {ds : List D} (r : Reps K G μ vs ds) {d e : D} (h : ds.map S.see = [d, e]) : ∃ v u, vs = [v, u] ∧ See K G μ H v d ∧ See K G μ H u e := by
  obtain ⟨hl, hs⟩ := sees w r
  have h1 : ds.length = 2 := by simpa using congrArg List.length h
  match vs, hl.trans h1 with
  | [v, u], _ => exact ⟨v, u, rfl, hs 0 v d rfl (by rw [h]; rfl), hs 1 u e rfl (by rw [h]; rfl)⟩
theorem b_len : CallR X (.builtin "len") (rBf X.K .len) := by
  intro pins s σ H vs us Q I rv ⟨B, G0, G, μ, S, ds, r, w, r1, ho, k⟩
  generalize hd : ds.map S.see = es at ho
  simp only [bfO] at ho
  split at ho <;> try (cases ho; done)
  · obtain ⟨v, rfl, sv⟩ := see1 w r1 hd
    cases sv
    rename_i a xs h1 q1
    simp only [Option.some.injEq] at ho
    subst ho
    exact call_len_seq pins s σ H _ us Q I rv ⟨a, xs, rfl, .inl (SqL.of h1), by rw [q1.len]; exact now w k (.int _)⟩
  · obtain ⟨v, rfl, sv⟩ := see1 w r1 hd
    cases sv
    rename_i a xs h1 q1
    simp only [Option.some.injEq] at ho
    subst ho
    exact call_len_seq pins s σ H _ us Q I rv ⟨a, xs, rfl, .inr (seqT_le w.gh h1), by rw [q1.len]; exact now w k (.int _)⟩
  · obtain ⟨v, rfl, sv⟩ := see1 w r1 hd
    cases sv
    split at ho
    · rename_i hz
      simp only [Option.some.injEq] at ho
      subst ho
      exact call_len_str pins s σ H _ us Q I rv ⟨_, rfl, hz, now w k (.int _)⟩
    · cases ho
theorem b_int : CallR X (.type "int") (rBf X.K .int) := by
  intro pins s σ H vs us Q I rv ⟨B, G0, G, μ, S, ds, r, w, r1, ho, k⟩
  generalize hd : ds.map S.see = es at ho
  simp only [bfO] at ho
  split at ho <;> try (cases ho; done)
  · obtain ⟨v, rfl, sv⟩ := see1 w r1 hd
    cases sv
    simp only [Option.some.injEq] at ho
    subst ho
    exact call_int1 pins s σ H _ us Q I rv (.inl ⟨_, rfl, now w k (.int _)⟩)
  · obtain ⟨v, rfl, sv⟩ := see1 w r1 hd
    cases sv
    simp only [Option.some.injEq] at ho
    subst ho
    exact call_int1 pins s σ H _ us Q I rv (.inr ⟨_, rfl, now w k (.int _)⟩)
  · split at ho
    · rename_i hz
      obtain ⟨v, rfl, sv⟩ := see1 w r1 hd
      cases sv
      obtain ⟨n, hn, rfl⟩ := Option.map_eq_some_iff.mp ho
      exact call_int_str pins s σ H _ us Q I rv ⟨_, n, rfl, hn, hz, now w k (.int _)⟩
    · cases ho
theorem b_abs : CallR X (.builtin "abs") (rBf X.K .abs) := by
  intro pins s σ H vs us Q I rv ⟨B, G0, G, μ, S, ds, r, w, r1, ho, k⟩
  generalize hd : ds.map S.see = es at ho
  simp only [bfO] at ho
  split at ho <;> try (cases ho; done)
  obtain ⟨v, rfl, sv⟩ := see1 w r1 hd
  cases sv
  simp only [Option.some.injEq] at ho
  subst ho
  exact call_abs pins s σ H _ us Q I rv ⟨_, rfl, now w k (.int _)⟩
theorem b_max2 (hc : X.calm = true) : CallR X (.builtin "max") (rBf X.K .max2) := by
  intro pins s σ H vs us Q I rv ⟨B, G0, G, μ, S, ds, r, w, r1, ho, k⟩
  generalize hd : ds.map S.see = es at ho
  simp only [bfO] at ho
  split at ho <;> try (cases ho; done)
  obtain ⟨v, u, rfl, sv, su⟩ := see2 w r1 hd
  cases sv
  cases su
  simp only [Option.some.injEq] at ho
  subst ho
  exact call_max2 hc pins s σ H _ us Q I rv ⟨_, _, rfl, now w k (.int _)⟩
theorem b_min2 (hc : X.calm = true) : CallR X (.builtin "min") (rBf X.K .min2) := by
  intro pins s σ H vs us Q I rv ⟨B, G0, G, μ, S, ds, r, w, r1, ho, k⟩
  generalize hd : ds.map S.see = es at ho
  simp only [bfO] at ho
  split at ho <;> try (cases ho; done)
  obtain ⟨v, u, rfl, sv, su⟩ := see2 w r1 hd
  cases sv
  cases su
  simp only [Option.some.injEq] at ho
  subst ho
  exact call_min2 hc pins s σ H _ us Q I rv ⟨_, _, rfl, now w k (.int _)⟩
theorem reps_bools {K : PySem.W.Frag} {G : Hp} {μ : Mu} : ∀ {vs : List V} {ds : List D} {bs : List Bool}, Reps K G μ vs ds → bools ds = some bs → vs = bs.map V.bl
  | _, _, _, .nil, h => by simp [bools] at h; subst h; rfl
  | _, _, _, .cons q r, h => by
    cases q <;> simp only [bools, reduceCtorEq] at h
    rename_i b
    cases e : bools _ with
    | none => rw [e] at h; cases h
    | some bs' =>
      rw [e] at h
      simp only [Option.map_some, Option.some.injEq] at h
      subst h
      rw [reps_bools r e]; rfl
theorem reps_unInts {K : PySem.W.Frag} {G : Hp} {μ : Mu} : ∀ {vs : List V} {ds : List D} {bs : List Int}, Reps K G μ vs ds → unInts ds = some bs → vs = bs.map V.int
  | _, _, _, .nil, h => by simp [unInts] at h; subst h; rfl
  | _, _, _, .cons q r, h => by
    cases q <;> simp only [unInts, reduceCtorEq] at h
    rename_i b
    cases e : unInts _ with
    | none => rw [e] at h; cases h
    | some bs' =>
      rw [e] at h
      simp only [Option.map_some, Option.some.injEq] at h
      subst h
      rw [reps_unInts r e]; rfl
theorem reps_unStrs {K : PySem.W.Frag} {G : Hp} {μ : Mu} : ∀ {vs : List V} {ds : List D} {bs : List Str}, Reps K G μ vs ds → unStrs ds = some bs → vs = bs.map V.str
  | _, _, _, .nil, h => by simp [unStrs] at h; subst h; rfl
  | _, _, _, .cons q r, h => by
    cases q <;> simp only [unStrs, reduceCtorEq] at h
    rename_i b
    cases e : unStrs _ with
    | none => rw [e] at h; cases h
    | some bs' =>
      rw [e] at h
      simp only [Option.map_some, Option.some.injEq] at h
      subst h
      rw [reps_unStrs r e]; rfl
theorem b_all (hc : X.calm = true) : CallR X (.builtin "all") (rBf X.K .all) := by
  intro pins s σ H vs us Q I rv ⟨B, G0, G, μ, S, ds, r, w, r1, ho, k⟩
  generalize hd : ds.map S.see = es at ho
  simp only [bfO] at ho
  split at ho <;> try (cases ho; done)
  obtain ⟨v, rfl, sv⟩ := see1 w r1 hd
  cases sv
  rename_i xs a ys h1 q1
  cases e : bools xs with
  | none => rw [e] at ho; cases ho
  | some bs =>
    rw [e] at ho
    simp only [Option.map_some, Option.some.injEq] at ho
    subst ho
    have := reps_bools q1 e
    subst this
    exact cr_all hc pins s σ H _ us Q I rv ⟨_, bs, rfl, SqL.of h1, now w k (.bl _)⟩
theorem b_any (hc : X.calm = true) : CallR X (.builtin "any") (rBf X.K .any) := by
  intro pins s σ H vs us Q I rv ⟨B, G0, G, μ, S, ds, r, w, r1, ho, k⟩
  generalize hd : ds.map S.see = es at ho
  simp only [bfO] at ho
  split at ho <;> try (cases ho; done)
  obtain ⟨v, rfl, sv⟩ := see1 w r1 hd
  cases sv
  rename_i xs a ys h1 q1
  cases e : bools xs with
  | none => rw [e] at ho; cases ho
  | some bs =>
    rw [e] at ho
    simp only [Option.map_some, Option.some.injEq] at ho
    subst ho
    have := reps_bools q1 e
    subst this
    exact cr_any hc pins s σ H _ us Q I rv ⟨_, bs, rfl, SqL.of h1, now w k (.bl _)⟩
theorem b_sum (hc : X.calm = true) : CallR X (.builtin "sum") (rBf X.K .sum) := by
  intro pins s σ H vs us Q I rv ⟨B, G0, G, μ, S, ds, r, w, r1, ho, k⟩
  generalize hd : ds.map S.see = es at ho
  simp only [bfO] at ho
  split at ho <;> try (cases ho; done)
  obtain ⟨v, rfl, sv⟩ := see1 w r1 hd
  cases sv
  rename_i xs a ys h1 q1
  cases e : unInts xs with
  | none => rw [e] at ho; cases ho
  | some bs =>
    rw [e] at ho
    simp only [Option.map_some, Option.some.injEq] at ho
    subst ho
    have := reps_unInts q1 e
    subst this
    exact cr_sum hc pins s σ H _ us Q I rv ⟨_, bs, rfl, SqL.of h1, now w k (.int _)⟩
theorem b_tup : CallR X (.type "tuple") (rBf X.K .tup) := by
  intro pins s σ H vs us Q I rv ⟨B, G0, G, μ, S, ds, r, w, r1, ho, k⟩
  generalize hd : ds.map S.see = es at ho
  simp only [bfO] at ho
  split at ho <;> try (cases ho; done)
  · obtain ⟨v, rfl, sv⟩ := see1 w r1 hd
    cases sv
    rename_i xs a ys h1 q1
    simp only [Option.some.injEq] at ho
    subst ho
    refine call_tuple_of pins s σ H _ us Q I rv ⟨a, ys, rfl, .inl ⟨SqL.of h1, fun p hp => ?_⟩⟩
    obtain ⟨w', le, gp⟩ := w.newG (o := .tup ys) hp
    exact k _ _ _ le w' (.tup (SqT.of upd_same) (q1.up le fun _ _ e => e))
  · obtain ⟨v, rfl, sv⟩ := see1 w r1 hd
    cases sv
    rename_i xs a ys h1 q1
    simp only [Option.some.injEq] at ho
    subst ho
    exact call_tuple_of pins s σ H _ us Q I rv ⟨a, ys, rfl, .inr ⟨seqT_le w.gh h1, now w k (.tup h1 q1)⟩⟩
theorem b_lst : CallR X (.type "list") (rBf X.K .lst) := by
  intro pins s σ H vs us Q I rv ⟨B, G0, G, μ, S, ds, r, w, r1, ho, k⟩
  generalize hd : ds.map S.see = es at ho
  simp only [bfO] at ho
  split at ho <;> try (cases ho; done)
  · obtain ⟨v, rfl, sv⟩ := see1 w r1 hd
    cases sv
    rename_i xs a ys h1 q1
    simp only [Option.some.injEq] at ho
    subst ho
    refine call_list_of pins s σ H _ us Q I rv ⟨a, ys, rfl, .inl (SqL.of h1), fun p hp => ?_⟩
    obtain ⟨w', f⟩ := w.newF hp q1
    exact k _ G _ (fun _ _ e => e) w' f
  · obtain ⟨v, rfl, sv⟩ := see1 w r1 hd
    cases sv
    rename_i xs a ys h1 q1
    simp only [Option.some.injEq] at ho
    subst ho
    refine call_list_of pins s σ H _ us Q I rv ⟨a, ys, rfl, .inr (seqT_le w.gh h1), fun p hp => ?_⟩
    obtain ⟨w', f⟩ := w.newF hp q1
    exact k _ G _ (fun _ _ e => e) w' f
theorem b_str : CallR X (.type "str") (rBf X.K .str) := by
  intro pins s σ H vs us Q I rv ⟨B, G0, G, μ, S, ds, r, w, r1, ho, k⟩
  generalize hd : ds.map S.see = es at ho
  simp only [bfO] at ho
  split at ho <;> try (cases ho; done)
  obtain ⟨v, rfl, sv⟩ := see1 w r1 hd
  cases sv
  split at ho
  · rename_i hz
    simp only [Option.some.injEq] at ho
    subst ho
    exact call_str_int pins s σ H _ us Q I rv ⟨_, rfl, hz, now w k (.str _)⟩
  · cases ho
mutual
theorem py_inj : ∀ (n : Nat) (d e : D), d.ok n = true → e.ok n = true → d.py = e.py → d = e
  | _, .non, e, _, h2, q => by cases e <;> simp_all [D.py, D.ok]
  | _, .bl b, e, _, h2, q => by cases e <;> simp_all [D.py, D.ok]
  | _, .int b, e, _, h2, q => by cases e <;> simp_all [D.py, D.ok]
  | _, .str b, e, _, h2, q => by cases e <;> simp_all [D.py, D.ok]
  | 0, .tup xs, e, h1, _, _ => by simp [D.ok] at h1
  | 0, .lst xs, e, h1, _, _ => by simp [D.ok] at h1
  | n + 1, .tup xs, e, h1, h2, q => by
    cases e <;> simp only [D.py, reduceCtorEq, PyData.tuple.injEq] at q
    rename_i ys
    rw [pys_inj n xs ys (by simpa [D.ok] using h1) (by simpa [D.ok] using h2) q]
  | n + 1, .lst xs, e, h1, h2, q => by
    cases e <;> simp only [D.py, reduceCtorEq, PyData.list.injEq] at q
    rename_i ys
    rw [pys_inj n xs ys (by simpa [D.ok] using h1) (by simpa [D.ok] using h2) q]
  | _, .ref _, _, h1, _, _ => by simp [D.ok] at h1
  | _, .scr _, _, h1, _, _ => by simp [D.ok] at h1
  | _, .dct0, _, h1, _, _ => by simp [D.ok] at h1
  | _, .exn _ _ _, _, h1, _, _ => by simp [D.ok] at h1
theorem pys_inj : ∀ (n : Nat) (xs ys : List D), D.oks n xs = true → D.oks n ys = true → D.pys xs = D.pys ys → xs = ys
  | _, [], [], _, _, _ => rfl
  | _, [], _ :: _, _, _, q => by simp [D.pys] at q
  | _, _ :: _, [], _, _, q => by simp [D.pys] at q
  | n, x :: xs, y :: ys, h1, h2, q => by
    have a1 := Bool.and_eq_true_iff.mp (show (x.ok n && D.oks n xs) = true from h1)
    have a2 := Bool.and_eq_true_iff.mp (show (y.ok n && D.oks n ys) = true from h2)
    simp only [D.pys, List.cons.injEq] at q
    rw [py_inj n x y a1.1 a2.1 q.1, pys_inj n xs ys a1.2 a2.2 q.2]
end
end
end Pe
set_option Elab.async false
set_option linter.all false
set_option maxRecDepth 100000
set_option maxHeartbeats 4000000
namespace Pe
open PySem PySem.Spec PyProof.Rows L2
open PySem.W (EachIs AllAlike Sortable dataLe)
/-- a value of the model stands for d -/
def RV (K : PySem.W.Frag) (G : Hp) (μ : Mu) (u : Value) (d : D) : Prop := ∃ x, RelV x u ∧ Rep K G μ x d
theorem each_of {K : PySem.W.Frag} {G : Hp} {μ : Mu} : ∀ {xs : List V} {us : List Value} {ds : List D}, Vals xs us → Reps K G μ xs ds → EachIs (RV K G μ) us ds
  | _, _, _, .nil, .nil => .nil
  | _, _, _, .cons r t, .cons q s => .cons ⟨_, r, q⟩ (each_of t s)
theorem of_each {K : PySem.W.Frag} {G : Hp} {μ : Mu} {us : List Value} {ds : List D} (h : EachIs (RV K G μ) us ds) : ∃ xs, Vals xs us ∧ Reps K G μ xs ds := by
  induction h with
  | nil => exact ⟨[], .nil, .nil⟩
  | cons a _ ih =>
    obtain ⟨x, r, q⟩ := a
    obtain ⟨xs, r', q'⟩ := ih
    exact ⟨x :: xs, .cons r r', .cons q q'⟩
theorem allAlike_of {xs : List D} (h : allAlike xs = true) : AllAlike (xs.map D.py) := by
  intro d hd d' hd'
  obtain ⟨a, ha, rfl⟩ := List.mem_map.mp hd
  obtain ⟨b, hb, rfl⟩ := List.mem_map.mp hd'
  exact List.all_eq_true.mp (List.all_eq_true.mp h a ha) b hb
theorem sortable_of {xs : List D} (h : sortable xs = true) : Sortable (xs.map D.py) := by
  rcases Bool.or_eq_true_iff.mp h with h | h
  · left
    intro d hd
    obtain ⟨a, ha, rfl⟩ := List.mem_map.mp hd
    have := List.all_eq_true.mp h a ha
    cases a with
    | tup ys =>
      cases ys with
      | nil => cases this
      | cons y ys => exact ⟨y.py, D.pys ys, rfl⟩
    | _ => cases this
  · right
    intro d hd
    obtain ⟨a, ha, rfl⟩ := List.mem_map.mp hd
    have := List.all_eq_true.mp h a ha
    cases a with
    | tup ys => cases this
    | non => cases this
    | _ => exact ⟨by simp [D.py], by simp [D.py]⟩
theorem oks_mem : ∀ {ds : List D} {n : Nat}, D.oks n ds = true → ∀ d ∈ ds, d.ok n = true
  | [], _, _, _, h => by simp at h
  | e :: es, n, h, d, hd => by
    have a := Bool.and_eq_true_iff.mp (show (e.ok n && D.oks n es) = true from h)
    rcases List.mem_cons.mp hd with rfl | hd
    · exact a.1
    · exact oks_mem a.2 d hd
theorem leD_eq : leD = dataLe false D.py := by
  rw [W.dataLe_eq]
  rfl
section
variable {X : Cx}
theorem each_reads {B G0 G H : Hp} {μ : Mu} {S : Store} {pins : List (Addr × Obj)} {σ : L2.St} {s : Shared} (I : Inv X pins σ H s) (w : Wd X.K B G0 G μ S H) : ∀ {us : List Value} {ds : List D}, (∀ d ∈ ds, d.ok 19 = true) → EachIs (RV X.K G μ) us ds → EachIs (fun v d => ∃ as, Reads s.heap v d.py as) us ds := by
  intro us ds hok h
  induction h with
  | nil => exact .nil
  | cons a t ih =>
    obtain ⟨x, r, q⟩ := a
    refine .cons ?_ (ih fun d hd => hok d (List.mem_cons_of_mem _ hd))
    exact Dp.reads I _ x _ (dp_le w.gh (q.dp 19 (hok _ List.mem_cons_self))) r
theorem b_srt (hu : X.A.units + 64 < cLine) : CallR X (.builtin "sorted") (rBf X.K .srt) := by
  intro pins s σ H vs us Q I rv ⟨B, G0, G, μ, S, ds, r, w, r1, ho, k⟩
  generalize hd : ds.map S.see = es at ho
  simp only [bfO] at ho
  split at ho <;> try (cases ho; done)
  obtain ⟨v, rfl, sv⟩ := see1 w r1 hd
  cases sv
  rename_i xs a ys h1 q1
  rw [srt_eq] at ho
  split at ho
  · rename_i hc
    simp only [Bool.and_eq_true, decide_eq_true_eq] at hc
    simp only [Option.map_some, Option.some.injEq] at ho
    subst ho
    obtain ⟨⟨⟨f, al⟩, so⟩, ln⟩ := hc
    have hok : ∀ d ∈ xs, d.ok 19 = true := oks_mem (n := 19) (by simpa [D.fine, D.ok] using f)
    obtain ⟨its, rvs, hl, hz⟩ := I.list (SqL.of h1)
    rw [Vals.ref1 rv]
    have e := each_of rvs q1
    refine W.sorted_data (enc := D.py) (R := RV X.K G μ) hl.isList e (each_reads I w hok e) (allAlike_of al) (sortable_of so) ln (fun b hb => ?_) fun out hlen eo => ?_
    · have := (ok_plain b 19 (hok b hb)).2
      omega
    · rw [← leD_eq] at eo
      obtain ⟨zs, rz, qz⟩ := of_each eo
      obtain ⟨ep, he'⟩ := PyProof.Rows.sortedAll_at s.heap its out.toArray
      have hzl : zs.length ≤ sizeLine := by rw [qz.len, List.length_mergeSort]; exact ln
      have hp : H (s.heap.objs.size + 1) = none := I.hok.fresh (Nat.le_succ _)
      obtain ⟨w', fo⟩ := w.newF hp qz
      exact ⟨.ref _, upd H (s.heap.objs.size + 1) (.lst zs), I.laid (t' := s.toks) (fun _ _ => PyProof.Rows.sortedAll_old) (Nat.le_succ _) ⟨hzl, out, ep, rz, he'⟩, rfl, k _ G _ (fun _ _ e => e) w' fo⟩
  · cases ho
theorem minO_py (x : D) (xs : List D) : (minO x xs).py = W.minD x.py (xs.map D.py) := by
  unfold minO W.minD
  induction xs generalizing x with
  | nil => rfl
  | cons y ys ih =>
    rw [List.foldl_cons, List.map_cons, List.foldl_cons, ih]
    congr 1
    split <;> rfl
theorem maxO_py (x : D) (xs : List D) : (maxO x xs).py = W.maxD x.py (xs.map D.py) := by
  unfold maxO W.maxD
  induction xs generalizing x with
  | nil => rfl
  | cons y ys ih =>
    rw [List.foldl_cons, List.map_cons, List.foldl_cons, ih]
    congr 1
    split <;> rfl
theorem minO_mem (x : D) (xs : List D) : minO x xs ∈ x :: xs := by
  unfold minO
  induction xs generalizing x with
  | nil => simp
  | cons y ys ih =>
    rw [List.foldl_cons]
    have := ih (if W.dataLt y.py x.py = true then y else x)
    rcases List.mem_cons.mp this with h | h
    · split at h <;> simp_all
    · exact List.mem_cons_of_mem _ (List.mem_cons_of_mem _ h)
theorem maxO_mem (x : D) (xs : List D) : maxO x xs ∈ x :: xs := by
  unfold maxO
  induction xs generalizing x with
  | nil => simp
  | cons y ys ih =>
    rw [List.foldl_cons]
    have := ih (if W.dataLt x.py y.py = true then y else x)
    rcases List.mem_cons.mp this with h | h
    · split at h <;> simp_all
    · exact List.mem_cons_of_mem _ (List.mem_cons_of_mem _ h)
theorem alikeAll_of {xs : List D} (h : allAlike xs = true) (n : xs.all noNon = true) : PySem.W.AlikeAll (xs.map D.py) := by
  refine ⟨allAlike_of h, fun d hd z => ?_⟩
  obtain ⟨a, ha, rfl⟩ := List.mem_map.mp hd
  have := List.all_eq_true.mp n a ha
  cases a <;> simp_all [D.py, noNon]
/-- the item that is found -/
theorem item_is {B G0 G H : Hp} {μ : Mu} {S : Store} {pins : List (Addr × Obj)} {σ : L2.St} {s : Shared} (I : Inv X pins σ H s) (w : Wd X.K B G0 G μ S H) {h' : Heap} (kh : ∀ b o, s.heap.get? b = some o → h'.get? b = some o) {us : List Value} {xs : List V} {ds : List D} (rv : Vals xs us) (q : Reps X.K G μ xs ds) (hok : ∀ d ∈ ds, d.ok 19 = true) (al : allAlike ds = true)
    {m : D} (hm : m ∈ ds) {i : Nat} {u : Value} {bs : List Addr} (hi : us[i]? = some u) (hr : Reads h' u m.py bs) : ∃ x, RelV x u ∧ Rep X.K G μ x m := by
  have hl : i < us.length := (List.getElem?_eq_some_iff.mp hi).1
  have hxl : i < xs.length := by rw [rv.length]; exact hl
  have hx : xs[i]? = some xs[i] := List.getElem?_eq_getElem hxl
  obtain ⟨u', hu', ru⟩ := rv.get hx
  rw [hi] at hu'; cases hu'
  obtain ⟨d, hd, rd⟩ := q.getV hx
  have hdm : d ∈ ds := List.mem_of_getElem? hd
  obtain ⟨as, ra⟩ := Dp.reads I d.py xs[i] u (dp_le w.gh (rd.dp 19 (hok d hdm))) ru
  have ra' := PyProof.Rows.Reads.keeps kh ra
  have e : d.py = m.py := W.alike_unique _ _ u _ _ (List.all_eq_true.mp (List.all_eq_true.mp al d hdm) m hm) ra' hr
  have := py_inj 19 d m (hok d hdm) (hok m hm) e
  subst this
  exact ⟨_, ru, rd⟩
theorem b_min (hc : X.calm = true) (hu : X.A.units + 64 < cLine) : CallR X (.builtin "min") (rBf X.K .min) := by
  intro pins s σ H vs us Q I rv ⟨B, G0, G, μ, S, ds, r, w, r1, ho, k⟩
  generalize hd : ds.map S.see = es at ho
  simp only [bfO] at ho
  split at ho <;> try (cases ho; done)
  rename_i x xs
  obtain ⟨v, rfl, sv⟩ := see1 w r1 hd
  cases sv
  rename_i a ys h1 q1
  split at ho
  · rename_i hcd
    simp only [Bool.and_eq_true] at hcd
    simp only [Option.some.injEq] at ho
    subst ho
    obtain ⟨⟨f, al⟩, nn⟩ := hcd
    have hok : ∀ d ∈ x :: xs, d.ok 19 = true := oks_mem (n := 19) (by simpa [D.fine, D.ok] using f)
    obtain ⟨its, rvs, hl, hz⟩ := I.list (SqL.of h1)
    rw [Vals.ref1 rv]
    obtain ⟨as, hra⟩ := Dp.readsAll I _ ys its (dpAll_le w.gh (Reps.dp 19 (by simpa [D.fine, D.ok] using f) q1)) rvs
    refine W.min_list_data (x := x.py) (xs := xs.map D.py) (as := as) (I.ok.hd hc) hl.isList (by simpa [D.pys, pys_map] using hra) (by simpa using alikeAll_of al nn) ?_ fun i u h' tk bs hi hr kh => ?_
    · have := (oks_plain (x :: xs) 19 (by simpa [D.fine, D.ok] using f)).2
      rw [pys_map, List.map_cons] at this
      omega
    · rw [← minO_py] at hr
      obtain ⟨z, rz, qz⟩ := item_is I w kh rvs q1 hok al (minO_mem x xs) (by simpa using hi) hr
      exact ⟨z, H, I.kept (t' := tk) kh, rz, now w k qz⟩
  · cases ho
theorem b_max (hc : X.calm = true) (hu : X.A.units + 64 < cLine) : CallR X (.builtin "max") (rBf X.K .max) := by
  intro pins s σ H vs us Q I rv ⟨B, G0, G, μ, S, ds, r, w, r1, ho, k⟩
  generalize hd : ds.map S.see = es at ho
  simp only [bfO] at ho
  split at ho <;> try (cases ho; done)
  rename_i x xs
  obtain ⟨v, rfl, sv⟩ := see1 w r1 hd
  cases sv
  rename_i a ys h1 q1
  split at ho
  · rename_i hcd
    simp only [Bool.and_eq_true] at hcd
    simp only [Option.some.injEq] at ho
    subst ho
    obtain ⟨⟨f, al⟩, nn⟩ := hcd
    have hok : ∀ d ∈ x :: xs, d.ok 19 = true := oks_mem (n := 19) (by simpa [D.fine, D.ok] using f)
    obtain ⟨its, rvs, hl, hz⟩ := I.list (SqL.of h1)
    rw [Vals.ref1 rv]
    obtain ⟨as, hra⟩ := Dp.readsAll I _ ys its (dpAll_le w.gh (Reps.dp 19 (by simpa [D.fine, D.ok] using f) q1)) rvs
    refine W.max_list_data (x := x.py) (xs := xs.map D.py) (as := as) (I.ok.hd hc) hl.isList (by simpa [D.pys, pys_map] using hra) (by simpa using alikeAll_of al nn) ?_ fun i u h' tk bs hi hr kh => ?_
    · have := (oks_plain (x :: xs) 19 (by simpa [D.fine, D.ok] using f)).2
      rw [pys_map, List.map_cons] at this
      omega
    · rw [← maxO_py] at hr
      obtain ⟨z, rz, qz⟩ := item_is I w kh rvs q1 hok al (maxO_mem x xs) (by simpa using hi) hr
      exact ⟨z, H, I.kept (t' := tk) kh, rz, now w k qz⟩
  · cases ho
def rMt (K : PySem.W.Frag) (f : Bf) : V → List V → Hp → VK → Prop := fun x vs H Q => rBf K f (x :: vs) H Q
theorem m_join : MtR X "str.join" (rMt X.K .join) := by
  intro pins s σ H x vs v us Q I rx rv ⟨B, G0, G, μ, S, ds, r, w, r1, ho, k⟩
  generalize hd : ds.map S.see = es at ho
  simp only [bfO] at ho
  split at ho <;> try (cases ho; done)
  · obtain ⟨a, b, e1, sa, sb⟩ := see2 w r1 hd
    cases e1
    cases sa
    cases sb
    rename_i z xs p ys h1 q1
    cases e : unStrs xs with
    | none => rw [e] at ho; cases ho
    | some ss =>
      rw [e] at ho
      simp only [Option.bind_some] at ho
      split at ho
      · rename_i hz
        simp only [Option.some.injEq] at ho
        subst ho
        have := reps_unStrs q1 e
        subst this
        have k' := now w k (.str (joinS z ss))
        unfold joinS at k'
        rw [← TL.join_eq] at k'
        exact mt_join pins s σ H _ _ v us Q I rx rv ⟨z, p, ss, rfl, rfl, .inl (SqL.of h1), hz, k'⟩
      · cases ho
  · obtain ⟨a, b, e1, sa, sb⟩ := see2 w r1 hd
    cases e1
    cases sa
    cases sb
    rename_i z xs p ys h1 q1
    cases e : unStrs xs with
    | none => rw [e] at ho; cases ho
    | some ss =>
      rw [e] at ho
      simp only [Option.bind_some] at ho
      split at ho
      · rename_i hz
        simp only [Option.some.injEq] at ho
        subst ho
        have := reps_unStrs q1 e
        subst this
        have k' := now w k (.str (joinS z ss))
        unfold joinS at k'
        rw [← TL.join_eq] at k'
        exact mt_join pins s σ H _ _ v us Q I rx rv ⟨z, p, ss, rfl, rfl, .inr (seqT_le w.gh h1), hz, k'⟩
      · cases ho
theorem reps_strs {K : PySem.W.Frag} {G : Hp} {μ : Mu} : ∀ l : List Str, Reps K G μ (l.map V.str) (l.map D.str)
  | [] => .nil
  | x :: l => .cons (.str x) (reps_strs l)
theorem m_split : MtR X "str.split" (rMt X.K .split) := by
  intro pins s σ H x vs v us Q I rx rv ⟨B, G0, G, μ, S, ds, r, w, r1, ho, k⟩
  generalize hd : ds.map S.see = es at ho
  simp only [bfO] at ho
  split at ho <;> try (cases ho; done)
  obtain ⟨a, b, e1, sa, sb⟩ := see2 w r1 hd
  cases e1
  cases sa
  cases sb
  rename_i z y
  split at ho
  · rename_i hc
    simp only [Bool.and_eq_true, Bool.not_eq_true', decide_eq_true_eq] at hc
    cases ho
    refine mt_split pins s σ H _ _ v us Q I rx rv ⟨z, y, rfl, rfl, hc.1, hc.2, fun p hp => ?_⟩
    obtain ⟨w', f⟩ := w.newF hp (reps_strs (K := X.K) (G := G) (μ := μ) (Txt.split z y))
    exact k _ _ _ (fun _ _ e => e) w' f
  · cases ho
theorem repsI0 {K : PySem.W.Frag} {G : Hp} {μ : Mu} : ∀ {ds : List D} {is : List Int} {vs : List V}, unInts ds = some is → Reps K G μ vs ds → vs = is.map V.int
  | [], is, _, h, .nil => by cases h; rfl
  | d :: r, is, _, h, .cons a b => by
    cases d <;> simp only [unInts, reduceCtorEq, Option.map_eq_some_iff] at h
    obtain ⟨is', h1, rfl⟩ := h
    cases a
    rw [repsI0 h1 b]; rfl
theorem repsB0 {K : PySem.W.Frag} {G : Hp} {μ : Mu} : ∀ {ds : List D} {bs : List Bool} {vs : List V}, bools ds = some bs → Reps K G μ vs ds → vs = bs.map V.bl
  | [], is, _, h, .nil => by cases h; rfl
  | d :: r, is, _, h, .cons a b => by
    cases d <;> simp only [bools, reduceCtorEq, Option.map_eq_some_iff] at h
    obtain ⟨is', h1, rfl⟩ := h
    cases a
    rw [repsB0 h1 b]; rfl
theorem m_index : MtR X "list.index" (rMt X.K .index) := by
  intro pins s σ H x xs v us Q I rx rv ⟨B, G0, G, μ, S, ds, r, w, r1, ho, k⟩
  generalize hd : ds.map S.see = es at ho
  simp only [bfO] at ho
  split at ho <;> try (cases ho; done)
  · obtain ⟨a, b, e1, sa, sb⟩ := see2 w r1 hd
    cases e1
    cases sa
    cases sb
    rename_i xs i p ys h1 q1
    cases e : unInts xs with
    | none => rw [e] at ho; cases ho
    | some is =>
      rw [e] at ho
      simp only [Option.map_eq_some_iff] at ho
      obtain ⟨j, hj, rfl⟩ := ho
      have := repsI0 e q1
      subst this
      obtain ⟨hl, hjt, hjn⟩ := List.findIdx?_eq_some_iff_getElem.mp hj
      refine mt_index pins s σ H _ _ v us Q I rx rv ⟨p, is.map V.int, .int i, j, .int is[j], rfl, rfl, SqL.of h1, rfl, ?_, ?_, ?_, fun m z hm hz => ?_, now w k (.int _)⟩
      · rw [List.all_map, List.all_eq_true]; exact fun _ _ => rfl
      · rw [List.getElem?_map, List.getElem?_eq_getElem hl]; rfl
      · exact hjt
      · rw [List.getElem?_map, List.getElem?_eq_getElem (by omega)] at hz
        cases hz
        have := hjn m hm
        show (is[m] == i) = false
        simpa using this
  · obtain ⟨a, b, e1, sa, sb⟩ := see2 w r1 hd
    cases e1
    cases sa
    cases sb
    rename_i xs i p ys h1 q1
    cases e : bools xs with
    | none => rw [e] at ho; cases ho
    | some is =>
      rw [e] at ho
      simp only [Option.map_eq_some_iff] at ho
      obtain ⟨j, hj, rfl⟩ := ho
      have := repsB0 e q1
      subst this
      obtain ⟨hl, hjt, hjn⟩ := List.findIdx?_eq_some_iff_getElem.mp hj
      refine mt_index pins s σ H _ _ v us Q I rx rv ⟨p, is.map V.bl, .bl i, j, .bl is[j], rfl, rfl, SqL.of h1, rfl, ?_, ?_, ?_, fun m z hm hz => ?_, now w k (.int _)⟩
      · rw [List.all_map, List.all_eq_true]; exact fun _ _ => rfl
      · rw [List.getElem?_map, List.getElem?_eq_getElem hl]; rfl
      · exact hjt
      · rw [List.getElem?_map, List.getElem?_eq_getElem (by omega)] at hz
        cases hz
        have := hjn m hm
        show (is[m] == i) = false
        simpa using this
/-- list.count of flat things -/
theorem countU {x : V} : ∀ {xs : List V} {us : List Value}, Vals xs us → xs.all flatV = true → us.countP (eqU x) = xs.countP fun y => eqV y x
  | _, _, .nil, _ => rfl
  | y :: xs, u :: us, .cons r t, f => by
    rw [List.all_cons, Bool.and_eq_true] at f
    rw [List.countP_cons, List.countP_cons, eqU_of r f.1, countU t f.2]
theorem mt_countV : MtR X "list.count" (fun x xs H Q => ∃ (p : Addr) (ys : List V) (y : V), x = .ref p ∧ xs = [y] ∧ SqL X.K H p ys ∧ flatV y = true ∧ ys.all flatV = true ∧ Q (.int ((ys.countP fun z => eqV z y : Nat) : Int)) H) := by
  intro pins s σ H x xs v us Q I rx rxs h
  obtain ⟨p, ys, y, rfl, rfl, hs, fy, fys, q⟩ := h
  cases rx
  obtain ⟨u, rfl, ru⟩ := rxs.one
  obtain ⟨its, rv, ⟨⟨cls, dd, data, sl⟩, n, ho, hc, hdn, hd⟩, hlen⟩ := I.list hs
  simp only at hc hd
  subst hc hd
  refine call_meets PySem.F.slot_list_count ⟨_, ho, rfl⟩ PySem.F.entry_list_count (PySem.F.args_list_count_2 _ _)
    (SeqAt.list_countAt p its.toArray n dd sl u (eqU y)) ⟨ho, fun u' hu' => mem_eqAt ru fy rv fys u' (by simpa using hu'), ?_⟩
  have ec : its.toArray.toList.countP (eqU y) = ys.countP fun z => eqV z y := countU rv fys
  refine ⟨.int ((ys.countP fun z => eqV z y : Nat) : Int), H, I.tok _, ⟨s.toks, ?_⟩, q⟩
  show Value.int ((its.toArray.toList.countP (eqU y) : Nat) : Int) s.toks = _
  rw [ec]
theorem m_count : MtR X "list.count" (rMt X.K .count) := by
  intro pins s σ H x xs v us Q I rx rv ⟨B, G0, G, μ, S, ds, r, w, r1, ho, k⟩
  generalize hd : ds.map S.see = es at ho
  simp only [bfO] at ho
  split at ho <;> try (cases ho; done)
  obtain ⟨a, b, e1, sa, sb⟩ := see2 w r1 hd
  cases e1
  cases sa
  cases sb
  rename_i xs i p ys h1 q1
  cases e : bools xs with
  | none => rw [e] at ho; cases ho
  | some is =>
    rw [e] at ho
    simp only [Option.map_some, Option.some.injEq] at ho
    subst ho
    have := repsB0 e q1
    subst this
    refine mt_countV pins s σ H _ _ v us Q I rx rv ⟨p, is.map V.bl, .bl i, rfl, rfl, SqL.of h1, rfl, ?_, ?_⟩
    · rw [List.all_map, List.all_eq_true]; exact fun _ _ => rfl
    · have e2 : ((is.map V.bl).countP fun z => eqV z (.bl i)) = (is.filter fun j => j == i).length := by
        rw [List.countP_map, List.countP_eq_length_filter]; rfl
      rw [e2]
      exact now w k (.int _)
end
end Pe
set_option Elab.async false
set_option linter.all false
set_option maxRecDepth 100000
set_option maxHeartbeats 4000000
namespace Pe
open PySem PySem.Spec PyProof.Rows L2
abbrev Cn := Str → Option Value
abbrev Cf := Str → List D → M Fv
section
variable (K : PySem.W.Frag) (cn : Cn) (cf : Cf) (W : L2.WX)
def tE (m : E) : TE := fun σ H Q => ∃ B G0 G μ S ρ, Wd K B G0 G μ S H ∧ EnvR K G μ ρ σ ∧ After K cn B G0 G μ σ W (evE cf m ρ S) fun v G' μ' S' H' => ∀ z, FvOk K B G' μ' S' H' z v → Q z H'
def tEs (m : Es) : TA := fun σ H Q => ∃ B G0 G μ S ρ, Wd K B G0 G μ S H ∧ EnvR K G μ ρ σ ∧ After K cn B G0 G μ σ W (evEs cf m ρ S) fun ds G' μ' S' H' => ∀ vs, Reps K G' μ' vs ds → Q vs H'
def tO (m : Oe) : TO := fun σ H Q => ∃ B G0 G μ S ρ, Wd K B G0 G μ S H ∧ EnvR K G μ ρ σ ∧ After K cn B G0 G μ σ W (evO cf m ρ S) fun o G' μ' S' H' => Q o H'
def tT (m : E) : TT := fun σ H Q => ∃ B G0 G μ S ρ, Wd K B G0 G μ S H ∧ EnvR K G μ ρ σ ∧ After K cn B G0 G μ σ W (M.bnd (mD (evE cf m ρ)) (fun x => fun s => M.opt (truthy (s.see x)) s) S) fun b G' μ' S' H' => Q b H'
end
/-- a def's promise -/
def spOf (K : PySem.W.Frag) (cn : Cn) (cf : Cf) (f : Str) (np : Nat) : Sp := fun vs H Q E => vs.length = np ∧ ∃ B G0 G μ S ds, Wd K B G0 G μ S H ∧ Reps K G μ vs ds ∧
  After K cn B G0 G μ [] (fun cl dd _ H' => E cl dd H') (cf f ds S) fun v G' μ' S' H' => ∀ z, FvOk K B G' μ' S' H' z v → Q z H'
abbrev Tab := Str → Option Nat
/-- the built-in names that are asked -/
def btNames : List Str := [⟨#[108,101,110]⟩, ⟨#[105,110,116]⟩, ⟨#[97,98,115]⟩, ⟨#[97,108,108]⟩, ⟨#[97,110,121]⟩, ⟨#[116,117,112,108,101]⟩, ⟨#[115,111,114,116,101,100]⟩, ⟨#[108,105,115,116]⟩, ⟨#[115,116,114]⟩, ⟨#[115,117,109]⟩, ⟨#[109,97,120]⟩, ⟨#[109,105,110]⟩, ⟨#[105,115,105,110,115,116,97,110,99,101]⟩, ⟨#[114,97,110,103,101]⟩, ⟨#[101,110,117,109,101,114,97,116,101]⟩, ⟨#[115,101,116]⟩, ⟨#[98,111,111,108]⟩, ⟨#[122,105,112]⟩, ⟨#[100,105,99,116]⟩, ⟨#[114,101,112,114]⟩, ⟨#[116,121,112,101]⟩]
structure Fns (lv : Nat) (cn : Cn) (cf : Cf) (tab : Tab) (cs : Str → Option D) (P : Program) (w : World) (K : PySem.W.Frag) (mg : Str → Option Value) (base : Heap) : Prop where
  fn : ∀ f np, tab f = some np → ∃ a fd ps, mg f = some (.ref a) ∧ PySem.W.keepIn K (.ref a) = true ∧ ps.length = np ∧ Binds K fd ps [] ∧ FnOk P w K mg base (L2.CX P w) lv a fd ps (spOf K cn cf f np)
  cst : ∀ x d, cs x = some d → ∃ v u, mg x = some u ∧ RelV v u ∧ ∀ G μ, Rep K G μ v d
  bt : ∀ x ∈ btNames, (tab x = none ∧ cs x = none) → mg x = none
structure XOk (lv : Nat) (cn : Cn) (cf : Cf) (tab : Tab) (cs : Str → Option D) (N : List Str) (sc : Scope) (X : Cx) : Prop where
  fns : Fns lv cn cf tab cs X.prog X.w X.K X.mg X.base
  sc : X.env.scope = sc
  nN : X.N = N
  nd : N.Nodup
  calm : X.calm = true
  room : Room lv X.A
theorem XOk.hu {lv : Nat} {cn : Cn} {cf : Cf} {tab : Tab} {cs : Str → Option D} {N : List Str} {sc : Scope} {X : Cx} (o : XOk lv cn cf tab cs N sc X) : X.A.units + 64 < cLine := o.room.units
theorem pe_imp {X : Cx} {e : Expr} {t t' : TE} (h : PE X e t) (i : ∀ σ H Q, t' σ H Q → t σ H Q) : PE X e t' := ⟨fun pins s σ H Q I q => h.run pins s σ H Q I (i σ H Q q)⟩
theorem pt_imp {X : Cx} {e : Expr} {t t' : TT} (h : PT X e t) (i : ∀ σ H Q, t' σ H Q → t σ H Q) : PT X e t' := ⟨fun pins s σ H Q I q => h.run pins s σ H Q I (i σ H Q q)⟩
theorem pa_imp {X : Cx} {e : List Expr} {t t' : TA} (h : PA X e t) (i : ∀ σ H Q, t' σ H Q → t σ H Q) : PA X e t' := ⟨fun pos pins s σ H Q I q => h.run pos pins s σ H Q I (i σ H Q q)⟩
section
variable {K : PySem.W.Frag} {cn : Cn} {cf : Cf} {W : L2.WX} {B G0 G H : Hp} {μ : Mu} {S : Store} {ρ : En} {σ : L2.St}
/-- the first part is read and laid for good -/
theorem tE_of {m : E} {Q : VK} (w : Wd K B G0 G μ S H) (er : EnvR K G μ ρ σ) (h : After K cn B G0 G μ σ W (mD (evE cf m ρ) S) fun d G' μ' S' H' => ∀ z, Rep K G' μ' z d → Q z H') : tE K cn cf W m σ H Q := by
  refine ⟨B, G0, G, μ, S, ρ, w, er, (After.bnd h).imp fun v G1 μ1 S1 H1 l m w1 h1 z f => ?_⟩
  obtain ⟨G2, l2, w2, r2⟩ := w1.frz f
  exact h1 G2 μ1 H1 l2 (fun _ _ e => e) w2 z r2
theorem tE_use {m : E} {α : Type} {k : D → M α} {P : α → Hp → Mu → Store → Hp → Prop} {Q : VK} (w : Wd K B G0 G μ S H) (er : EnvR K G μ ρ σ) (h : After K cn B G0 G μ σ W (M.bnd (mD (evE cf m ρ)) k S) P)
    (i : ∀ d G1 μ1 S1 H1 z, Le G G1 → LeM μ μ1 → Wd K B G0 G1 μ1 S1 H1 → EnvR K G1 μ1 ρ σ → Rep K G1 μ1 z d → After K cn B G0 G1 μ1 σ W (k d S1) P → Q z H1) : tE K cn cf W m σ H Q :=
  tE_of w er ((After.bnd h).imp fun d G1 μ1 S1 H1 l m w1 h1 z r => i d G1 μ1 S1 H1 z l m w1 (er.up l m) r h1)
theorem tEs_use {m : Es} {α : Type} {k : List D → M α} {P : α → Hp → Mu → Store → Hp → Prop} {Q : List V → Hp → Prop} (w : Wd K B G0 G μ S H) (er : EnvR K G μ ρ σ) (h : After K cn B G0 G μ σ W (M.bnd (evEs cf m ρ) k S) P)
    (i : ∀ ds G1 μ1 S1 H1 vs, Le G G1 → LeM μ μ1 → Wd K B G0 G1 μ1 S1 H1 → EnvR K G1 μ1 ρ σ → Reps K G1 μ1 vs ds → After K cn B G0 G1 μ1 σ W (k ds S1) P → Q vs H1) : tEs K cn cf W m σ H Q :=
  ⟨B, G0, G, μ, S, ρ, w, er, (After.bnd h).imp fun ds G1 μ1 S1 H1 l m w1 h1 vs r => i ds G1 μ1 S1 H1 vs l m w1 (er.up l m) r h1⟩
theorem t_var {i : Nat} {Q : VK} (h : tE K cn cf W (.var i) σ H Q) : tVar i σ H Q := by
  obtain ⟨B, G0, G, μ, S, ρ, w, er, h⟩ := h
  simp only [evE] at h
  cases hd : ρ[i]? with
  | none => rw [hd] at h; exact h.elim
  | some o =>
    cases o with
    | none => rw [hd] at h; exact h.elim
    | some d =>
      rw [hd] at h
      obtain ⟨v, hv, r⟩ := er.2 i d hd
      exact ⟨v, hv, After.now w h v r⟩
theorem t_cst {d : D} {v : V} {Q : VK} (r : ∀ G μ, Rep K G μ v d) (h : tE K cn cf W (.cst d) σ H Q) : tC v σ H Q := by
  obtain ⟨B, G0, G, μ, S, ρ, w, er, h⟩ := h
  simp only [evE] at h
  exact After.now w h v (r G μ)
theorem op2S_rF {B G0 G H : Hp} {μ : Mu} {S : Store} {o : O2} {x y : V} {d e : D} {v : Fv} {Q : VK} (w : Wd K B G0 G μ S H) (r1 : Rep K G μ x d) (r2 : Rep K G μ y e) (hv : op2S S o d e = some v)
    (k : ∀ z G' H', Le G G' → Wd K B G0 G' μ S H' → FvOk K B G' μ S H' z v → Q z H') : rF K (op2 o) x y H Q := by
  unfold op2S at hv
  split at hv
  · rename_i r hr
    cases hv
    exact ⟨B, G0, G, μ, S, d, e, _, w, r1, r2, hr, k⟩
  · split at hv
    · rename_i hp
      split at hv
      · rename_i d' hd
        split at hv
        · rename_i hf
          cases hv
          have hp2 := Bool.and_eq_true_iff.mp (show (D.pure _ && D.pures _) = true from hp)
          have hp3 := Bool.and_eq_true_iff.mp (show (D.pure _ && D.pures _) = true from hp2.2)
          obtain ⟨A1, h1⟩ := rep_deep w 6 hp2.1 r1
          obtain ⟨A2, h2⟩ := rep_deep w 6 hp3.1 r2
          refine ⟨_, _, _, mu0, .mt, _, _, .fz d', w.show (A1 ++ A2), h1 _ fun a z => List.mem_append_left _ z, h2 _ fun a z => List.mem_append_right _ z, by rw [see_pure hp2.1, see_pure hp3.1]; exact hd, fun z G' H' l' w' f => k z G H' (fun _ _ e => e) (w.unshow l' w') (rep_flat hf f)⟩
        · cases hv
      · cases hv
    · cases hv
theorem t_op2 {o : O2} {a b : E} {Q : VK} (h : tE K cn cf W (.op2 o a b) σ H Q) : tOp (rF K (op2 o)) (tE K cn cf W a) (tE K cn cf W b) σ H Q := by
  obtain ⟨B, G0, G, μ, S, ρ, w, er, h⟩ := h
  simp only [evE] at h
  refine tE_use w er h fun d G1 μ1 S1 H1 x l m w1 er1 r1 h1 => ?_
  refine tE_use w1 er1 h1 fun e G2 μ2 S2 H2 y l2 m2 w2 er2 r2 h2 => ?_
  obtain ⟨v, hv, k⟩ := After.opt w2 h2
  exact op2S_rF w2 (r1.up l2 m2) r2 hv fun z G' H' l' w' f => k G' H' l' w' z f
theorem t_neg {a : E} {Q : VK} (h : tE K cn cf W (.op1 .neg a) σ H Q) : tUn (fun x H Q => ∃ B G0 G μ S d r, Wd K B G0 G μ S H ∧ Rep K G μ x d ∧ op1 .neg (S.see d) = some r ∧ ∀ z G' H', Le G G' → Wd K B G0 G' μ S H' → FvOk K B G' μ S H' z r → Q z H') (tE K cn cf W a) σ H Q := by
  obtain ⟨B, G0, G, μ, S, ρ, w, er, h⟩ := h
  simp only [evE] at h
  refine tE_use w er h fun d G1 μ1 S1 H1 x l m w1 er1 r1 h1 => ?_
  obtain ⟨v, hv, k⟩ := After.opt w1 h1
  exact ⟨B, G0, G1, μ1, S1, d, v, w1, r1, hv, fun z G' H' l' w' f => k G' H' l' w' z f⟩
end
section
variable {X : Cx} {cn : Cn} {cf : Cf} {W : L2.WX} {σ : L2.St} {H : Hp}
theorem t_not {a : E} {Q : VK} (h : tE X.K cn cf W (.op1 .not a) σ H Q) : tNotT X.K (tE X.K cn cf W a) σ H Q := by
  obtain ⟨B, G0, G, μ, S, ρ, w, er, h⟩ := h
  simp only [evE] at h
  refine tE_use w er h fun d G1 μ1 S1 H1 x l m w1 er1 r1 h1 => ?_
  obtain ⟨v, hv, k⟩ := After.opt w1 h1
  simp only [op1] at hv
  cases ht : truthy (S1.see d) with
  | none => rw [ht] at hv; cases hv
  | some b =>
    rw [ht] at hv
    simp only [Option.map_some, Option.some.injEq] at hv
    subst hv
    exact ⟨b, tru_of w1 r1 ht, k G1 H1 (fun _ _ e => e) w1 _ (.bl _)⟩
theorem t_and {a b : E} {Q : VK} (h : tE X.K cn cf W (.and a b) σ H Q) : tAndT X.K (tE X.K cn cf W a) (tE X.K cn cf W b) σ H Q := by
  obtain ⟨B, G0, G, μ, S, ρ, w, er, h⟩ := h
  simp only [evE] at h
  refine tE_use w er h fun d G1 μ1 S1 H1 x l m w1 er1 r1 h1 => ?_
  obtain ⟨t, ht, k⟩ := After.opt w1 (After.bnd h1)
  refine ⟨t, tru_of w1 r1 ht, ?_⟩
  have k' := k G1 H1 (fun _ _ e => e) w1
  split
  · rename_i hb
    rw [if_pos hb] at k'
    exact ⟨B, G0, G1, μ1, S1, ρ, w1, er1, k'⟩
  · rename_i hb
    rw [if_neg hb] at k'
    exact After.now w1 k' x r1
theorem t_or {a b : E} {Q : VK} (h : tE X.K cn cf W (.or a b) σ H Q) : tOrT X.K (tE X.K cn cf W a) (tE X.K cn cf W b) σ H Q := by
  obtain ⟨B, G0, G, μ, S, ρ, w, er, h⟩ := h
  simp only [evE] at h
  refine tE_use w er h fun d G1 μ1 S1 H1 x l m w1 er1 r1 h1 => ?_
  obtain ⟨t, ht, k⟩ := After.opt w1 (After.bnd h1)
  refine ⟨t, tru_of w1 r1 ht, ?_⟩
  have k' := k G1 H1 (fun _ _ e => e) w1
  split
  · rename_i hb
    rw [if_pos hb] at k'
    exact After.now w1 k' x r1
  · rename_i hb
    rw [if_neg hb] at k'
    exact ⟨B, G0, G1, μ1, S1, ρ, w1, er1, k'⟩
theorem t_ite {c a b : E} {Q : VK} (h : tE X.K cn cf W (.ite c a b) σ H Q) : tIf (tT X.K cn cf W c) (tE X.K cn cf W a) (tE X.K cn cf W b) σ H Q := by
  obtain ⟨B, G0, G, μ, S, ρ, w, er, h⟩ := h
  simp only [evE] at h
  refine ⟨B, G0, G, μ, S, ρ, w, er, ?_⟩
  have h' : After X.K cn B G0 G μ σ W (M.bnd (M.bnd (mD (evE cf c ρ)) (fun x => fun s => M.opt (truthy (s.see x)) s)) (fun t => if t = true then evE cf a ρ else evE cf b ρ) S) fun v G' μ' S' H' => ∀ z, FvOk X.K B G' μ' S' H' z v → Q z H' := by
    have e : M.bnd (M.bnd (mD (evE cf c ρ)) (fun x => fun s => M.opt (truthy (s.see x)) s)) (fun t => if t = true then evE cf a ρ else evE cf b ρ) S = M.bnd (mD (evE cf c ρ)) (fun x => fun s => M.bnd (M.opt (truthy (s.see x))) (fun t => if t = true then evE cf a ρ else evE cf b ρ) s) S := by
      unfold M.bnd
      cases mD (evE cf c ρ) S <;> rfl
    rw [e]; exact h
  refine (After.bnd h').imp fun t G1 μ1 S1 H1 l m w1 h1 => ?_
  show if t = true then _ else _
  split
  · rename_i hb
    rw [if_pos hb] at h1
    exact ⟨B, G0, G1, μ1, S1, ρ, w1, er.up l m, h1⟩
  · rename_i hb
    rw [if_neg hb] at h1
    exact ⟨B, G0, G1, μ1, S1, ρ, w1, er.up l m, h1⟩
theorem t_tup {es : Es} {Q : VK} (h : tE X.K cn cf W (.tup es) σ H Q) : tTup (tEs X.K cn cf W es) σ H Q := by
  obtain ⟨B, G0, G, μ, S, ρ, w, er, h⟩ := h
  simp only [evE] at h
  refine tEs_use w er h fun ds G1 μ1 S1 H1 vs l m w1 er1 r1 h1 => ?_
  split at h1
  · rename_i hz
    refine ⟨by rw [r1.len]; exact hz, fun p hp => ?_⟩
    obtain ⟨w', le, gp⟩ := w1.newG (o := .tup vs) hp
    exact h1 _ μ1 _ le (fun _ _ e => e) w' _ (.tup (SqT.of upd_same) (r1.up le fun _ _ e => e))
  · exact h1.elim
theorem t_dc0 {Q : VK} (h : tE X.K cn cf W .dc0 σ H Q) : tDNewK σ H Q := by
  obtain ⟨B, G0, G, μ, S, ρ, w, er, h⟩ := h
  simp only [evE] at h
  intro p hp
  obtain ⟨w', le, gp⟩ := w.newG (o := .dK []) hp
  exact h _ μ _ le (fun _ _ e => e) w' _ (.dct0 upd_same)
theorem t_lst {es : Es} {Q : VK} (h : tE X.K cn cf W (.lst es) σ H Q) : tLst (tEs X.K cn cf W es) σ H Q := by
  obtain ⟨B, G0, G, μ, S, ρ, w, er, h⟩ := h
  simp only [evE] at h
  refine tEs_use w er h fun ds G1 μ1 S1 H1 vs l m w1 er1 r1 h1 => ?_
  split at h1
  · rename_i hz
    refine ⟨by rw [r1.len]; exact hz, fun p hp => ?_⟩
    obtain ⟨w', f⟩ := w1.newF hp r1
    exact h1 G1 μ1 _ (fun _ _ e => e) (fun _ _ e => e) w' _ f
  · exact h1.elim
theorem t_nil {Q : List V → Hp → Prop} (h : tEs X.K cn cf W .nil σ H Q) : tNil σ H Q := by
  obtain ⟨B, G0, G, μ, S, ρ, w, er, h⟩ := h
  simp only [evEs] at h
  exact After.now w h [] .nil
theorem t_cons {e : E} {es : Es} {Q : List V → Hp → Prop} (h : tEs X.K cn cf W (.cons false e es) σ H Q) : tCons (tE X.K cn cf W e) (tEs X.K cn cf W es) σ H Q := by
  obtain ⟨B, G0, G, μ, S, ρ, w, er, h⟩ := h
  simp only [evEs] at h
  refine tE_use w er h fun d G1 μ1 S1 H1 x l m w1 er1 r1 h1 => ?_
  refine tEs_use w1 er1 h1 fun ds G2 μ2 S2 H2 vs l2 m2 w2 er2 r2 h2 => ?_
  exact After.now w2 h2 _ (.cons (r1.up l2 m2) r2)
theorem t_star {e : E} {es : Es} {Q : List V → Hp → Prop} (h : tEs X.K cn cf W (.cons true e es) σ H Q) : StX.tStar X.K (tE X.K cn cf W e) (tEs X.K cn cf W es) σ H Q := by
  obtain ⟨B, G0, G, μ, S, ρ, w, er, h⟩ := h
  simp only [evEs] at h
  refine tE_use w er h fun d G1 μ1 S1 H1 x l m w1 er1 r1 h1 => ?_
  obtain ⟨xs, hx, k⟩ := After.opt w1 (After.bnd h1)
  have s1 := see_ok w1 r1
  generalize S1.see d = d' at s1 hx
  have k' := k G1 H1 (fun _ _ e => e) w1
  cases s1 <;> simp only [Option.some.injEq, reduceCtorEq] at hx
  · subst hx
    rename_i a ys es' h1' q1
    refine ⟨a, ys, rfl, .inr (SqL.of h1'), ?_⟩
    refine tEs_use w1 er1 k' fun ds G2 μ2 S2 H2 vs l2 m2 w2 er2 r2 h2 => ?_
    exact After.now w2 h2 _ ((q1.up l2 m2).app r2)
  · subst hx
    rename_i a ys es' h1' q1
    refine ⟨a, ys, rfl, .inl (seqT_le w1.gh h1'), ?_⟩
    refine tEs_use w1 er1 k' fun ds G2 μ2 S2 H2 vs l2 m2 w2 er2 r2 h2 => ?_
    exact After.now w2 h2 _ ((q1.up l2 m2).app r2)
theorem t_no {Q : Option Int → Hp → Prop} (h : tO X.K cn cf W .no σ H Q) : tNoPart σ H Q := by
  obtain ⟨B, G0, G, μ, S, ρ, w, er, h⟩ := h
  simp only [evO] at h
  exact After.now w h
theorem t_so {e : E} {Q : Option Int → Hp → Prop} (h : tO X.K cn cf W (.so e) σ H Q) : tPart (tE X.K cn cf W e) σ H Q := by
  obtain ⟨B, G0, G, μ, S, ρ, w, er, h⟩ := h
  simp only [evO] at h
  refine tE_use w er h fun d G1 μ1 S1 H1 x l m w1 er1 r1 h1 => ?_
  cases r1 <;> first | exact h1.elim | skip
  exact ⟨_, rfl, After.now w1 h1⟩
theorem tO_use {m : Oe} {α : Type} {k : Option Int → M α} {P : α → Hp → Mu → Store → Hp → Prop} {Q : Option Int → Hp → Prop} {B G0 G : Hp} {μ : Mu} {S : Store} {ρ : En} (w : Wd X.K B G0 G μ S H) (er : EnvR X.K G μ ρ σ) (h : After X.K cn B G0 G μ σ W (M.bnd (evO cf m ρ) k S) P)
    (i : ∀ o G1 μ1 S1 H1, Le G G1 → LeM μ μ1 → Wd X.K B G0 G1 μ1 S1 H1 → EnvR X.K G1 μ1 ρ σ → After X.K cn B G0 G1 μ1 σ W (k o S1) P → Q o H1) : tO X.K cn cf W m σ H Q :=
  ⟨B, G0, G, μ, S, ρ, w, er, (After.bnd h).imp fun o G1 μ1 S1 H1 l m w1 h1 => i o G1 μ1 S1 H1 l m w1 (er.up l m) h1⟩
theorem t_slc {a : E} {lo hi : Oe} {Q : VK} (h : tE X.K cn cf W (.slc a lo hi) σ H Q) : tSl (rCut X.K) (tE X.K cn cf W a) (tO X.K cn cf W lo) (tO X.K cn cf W hi) σ H Q := by
  obtain ⟨B, G0, G, μ, S, ρ, w, er, h⟩ := h
  simp only [evE] at h
  refine tE_use w er h fun d G1 μ1 S1 H1 x l m w1 er1 r1 h1 => ?_
  refine tO_use w1 er1 h1 fun o1 G2 μ2 S2 H2 l2 m2 w2 er2 h2 => ?_
  refine tO_use w2 er2 h2 fun o2 G3 μ3 S3 H3 l3 m3 w3 er3 h3 => ?_
  obtain ⟨v, hv, k⟩ := After.opt w3 h3
  exact ⟨B, G0, G3, μ3, S3, d, v, w3, (r1.up l2 m2).up l3 m3, hv, fun z G' H' l' w' f => k G' H' l' w' z f⟩
theorem t_rev {a : E} {Q : VK} (h : tE X.K cn cf W (.rev a) σ H Q) : tRevL X.K (tE X.K cn cf W a) σ H Q := by
  obtain ⟨B, G0, G, μ, S, ρ, w, er, h⟩ := h
  simp only [evE] at h
  refine tE_use w er h fun d G1 μ1 S1 H1 x l m w1 er1 r1 h1 => ?_
  obtain ⟨v, hv, k⟩ := After.opt w1 h1
  have s1 := see_ok w1 r1
  generalize S1.see d = d' at s1 hv
  cases s1 <;> simp only [revO, Option.some.injEq, reduceCtorEq] at hv
  subst hv
  rename_i a ys ds h1' q1
  refine ⟨a, ys, rfl, SqL.of h1', fun p hp => ?_⟩
  obtain ⟨w', f⟩ := w1.newF hp q1.rev
  exact k G1 _ (fun _ _ e => e) w' _ f
theorem t_call {f : Str} {np : Nat} {es : Es} {Q : VK} (hl : ∀ ρ S ds S', evEs cf es ρ S = .ok ds S' → ds.length = np) (h : tE X.K cn cf W (.call f es) σ H Q) : tCallS (spOf X.K cn cf f np) (WE W) (tEs X.K cn cf W es) σ H Q := by
  obtain ⟨B, G0, G, μ, S, ρ, w, er, h⟩ := h
  simp only [evE] at h
  have hb := After.bnd h
  refine ⟨B, G0, G, μ, S, ρ, w, er, ?_⟩
  cases e : evEs cf es ρ S with
  | ok ds S1 =>
    rw [e] at hb
    intro G1 μ1 H1 l m w1 vs r
    refine ⟨by rw [r.len]; exact hl _ _ _ _ e, B, G0, G1, μ1, S1, ds, w1, r, ?_⟩
    have h2 : After X.K cn B G0 G1 μ1 σ W (cf f ds S1) fun v G' μ' S' H' => ∀ z, FvOk X.K B G' μ' S' H' z v → Q z H' := hb G1 μ1 H1 l m w1
    revert h2
    cases cf f ds S1 with
    | ok v S2 => exact fun h2 => h2
    | exc x S2 => exact fun h2 => h2
    | bad => exact fun h2 => h2
  | exc x S1 => rw [e] at hb; exact hb
  | bad => rw [e] at hb; exact hb
theorem t_blt {f : Bf} {es : Es} {Q : VK} (h : tE X.K cn cf W (.blt f es) σ H Q) : tCB (rBf X.K f) (tEs X.K cn cf W es) σ H Q := by
  obtain ⟨B, G0, G, μ, S, ρ, w, er, h⟩ := h
  simp only [evE] at h
  refine tEs_use w er h fun ds G1 μ1 S1 H1 vs l m w1 er1 r1 h1 => ?_
  obtain ⟨v, hv, k⟩ := After.opt w1 h1
  exact ⟨B, G0, G1, μ1, S1, ds, v, w1, r1, hv, fun z G' H' l' w' f => k G' H' l' w' z f⟩
/-- a test by its value -/
theorem t_tru {m : E} {Q : Bool → Hp → Prop} (h : tT X.K cn cf W m σ H Q) : tE X.K cn cf W m σ H fun x H' => ∃ k, TruV X.K x H' k ∧ Q k H' := by
  obtain ⟨B, G0, G, μ, S, ρ, w, er, h⟩ := h
  refine tE_use w er h fun d G1 μ1 S1 H1 x l m w1 er1 r1 h1 => ?_
  obtain ⟨b, hb, k⟩ := After.opt w1 h1
  exact ⟨b, tru_of w1 r1 hb, k G1 H1 (fun _ _ e => e) w1⟩
end
end Pe
set_option Elab.async false
set_option linter.all false
set_option maxRecDepth 100000
set_option maxHeartbeats 4000000
namespace Pe
open PySem PySem.Spec PyProof.Rows L2
structure Dr (P : Program) (w : World) (K : PySem.W.Frag) (it : Addr) (n : Nat) (own : Hp → Prop) (tn : Nat → Heap → Prop) (yv : Nat → V → Prop) : Prop where
  obj : ∀ i h, tn i h → ∃ o, h.get? it = some o ∧ ∀ v, o.data ≠ .cell v
  keep : ∀ i h h', tn i h → (∀ o, h.get? it = some o → h'.get? it = some o) → tn i h'
  draw : ∀ (X : Cx), X.prog = P → X.w = w → X.K = K → ∀ (pins : List (Addr × Obj)) (σ : L2.St) (H : Hp) (s : Shared), Inv X pins σ H s → own H → ∀ i, tn i s.heap → ∀ (A : Around), A.handled = none →
    ∃ (fp : List Addr) (Pv : Nat → Value → Prop) (st : Nat → Heap → Prop), Draws P w A it fp n Pv st ∧ st i s.heap ∧ (∀ j h, st j h → tn j h) ∧ (∀ b ∈ fp, ∀ o, s.heap.get? b = some o → o.cls ≠ .type "enumerate") ∧ ∀ j u, Pv j u → ∃ x, RelV x u ∧ yv j x
theorem dr_list {P : Program} {w : World} {K : PySem.W.Frag} (it a : Addr) (xs : List V) : Dr P w K it xs.length (fun H => SqL K H a xs) (fun i h => h.IsListIter it a i) (fun i x => xs[i]? = some x) where
  obj := fun i h ⟨o, ho, _, hd⟩ => ⟨o, ho, fun v q => by rw [hd] at q; cases q⟩
  keep := fun i h h' st k => st.at fun o q => k o q
  draw := by
    intro X hP hw hK pins σ H s I hq i st A hh
    subst hP hw hK
    obtain ⟨its, rv, p, hz⟩ := I.list hq
    have hl := p.isList
    have hne : a ≠ it := by
      intro z
      subst z
      obtain ⟨o, ho, hc, hd⟩ := st
      obtain ⟨o', ho', hc', _⟩ := hl
      rw [ho] at ho'; cases ho'
      rw [hc] at hc'
      exact absurd hc' (by intro q; injection q with q; exact absurd q (by decide))
    refine ⟨[it, a], fun i v => its.toArray[i]? = some v, fun i h => h.IsListIter it a i ∧ h.IsList a its.toArray, by rw [rv.length]; simpa using Draws.list (prog := X.prog) (w := X.w) hh it a hne its.toArray, ⟨st, hl⟩, fun j h q => q.1, fun b hb o ho => ?_, fun j u hu => ?_⟩
    · have e : b = it ∨ b = a := by simpa using hb
      rcases e with e | e
      · subst e
        obtain ⟨o', ho', hc, _⟩ := st
        rw [ho] at ho'; cases ho'
        rw [hc]; decide
      · subst e
        obtain ⟨o', ho', hc, _⟩ := hl
        rw [ho] at ho'; cases ho'
        rw [hc]; decide
    · have hu' : its[j]? = some u := by simpa using hu
      have hl' : j < xs.length := by rw [rv.length]; exact (List.getElem?_eq_some_iff.mp hu').1
      obtain ⟨u2, e2, r2⟩ := rv.get (List.getElem?_eq_getElem hl')
      rw [hu'] at e2; cases e2
      exact ⟨_, r2, List.getElem?_eq_getElem hl'⟩
theorem dr_tup {P : Program} {w : World} {K : PySem.W.Frag} (it a : Addr) (xs : List V) : Dr P w K it xs.length (fun H => SqT K H a xs) (fun i h => h.IsTupleIter it a i) (fun i x => xs[i]? = some x) where
  obj := fun i h ⟨o, ho, _, hd⟩ => ⟨o, ho, fun v q => by rw [hd] at q; cases q⟩
  keep := fun i h h' st k => st.at fun o q => k o q
  draw := by
    intro X hP hw hK pins σ H s I hq i st A hh
    subst hP hw hK
    obtain ⟨its, rv, p, hz⟩ := I.tuple hq
    have hl : s.heap.IsTuple a its.toArray := p
    have hne : a ≠ it := by
      intro z
      subst z
      obtain ⟨o, ho, hc, hd⟩ := st
      obtain ⟨o', ho', hc', _⟩ := hl
      rw [ho] at ho'; cases ho'
      rw [hc] at hc'
      exact absurd hc' (by intro q; injection q with q; exact absurd q (by decide))
    refine ⟨[it, a], fun i v => its.toArray[i]? = some v, fun i h => h.IsTupleIter it a i ∧ h.IsTuple a its.toArray, by rw [rv.length]; simpa using Draws.tuple (prog := X.prog) (w := X.w) hh it a hne its.toArray, ⟨st, hl⟩, fun j h q => q.1, fun b hb o ho => ?_, fun j u hu => ?_⟩
    · have e : b = it ∨ b = a := by simpa using hb
      rcases e with e | e
      · subst e
        obtain ⟨o', ho', hc, _⟩ := st
        rw [ho] at ho'; cases ho'
        rw [hc]; decide
      · subst e
        obtain ⟨o', ho', hc, _⟩ := hl
        rw [ho] at ho'; cases ho'
        rw [hc]; decide
    · have hu' : its[j]? = some u := by simpa using hu
      have hl' : j < xs.length := by rw [rv.length]; exact (List.getElem?_eq_some_iff.mp hu').1
      obtain ⟨u2, e2, r2⟩ := rv.get (List.getElem?_eq_getElem hl')
      rw [hu'] at e2; cases e2
      exact ⟨_, r2, List.getElem?_eq_getElem hl'⟩
theorem dr_str {P : Program} {w : World} {K : PySem.W.Frag} (it : Addr) (z : Str) (t : Tok) : Dr P w K it z.cps.size (fun _ => True) (fun i h => h.IsStrIter it (strIterType z) z t i) (fun i x => ∃ c, z.cps[i]? = some c ∧ x = .str ⟨#[c]⟩) where
  obj := fun i h ⟨o, ho, _, hd⟩ => ⟨o, ho, fun v q => by rw [hd] at q; cases q⟩
  keep := fun i h h' ⟨o, ho, hr⟩ k => ⟨o, k o ho, hr⟩
  draw := by
    intro X hP hw hK pins σ H s I _ i st A hh
    subst hP hw hK
    refine ⟨[it], _, _, Draws.text (prog := X.prog) (w := X.w) hh it z t, st, fun j h q => q, fun b hb o ho => ?_, fun j u hu => ?_⟩
    · have e : b = it := by simpa using hb
      subst e
      obtain ⟨o', ho', hc, _⟩ := st
      rw [ho] at ho'; cases ho'
      rw [hc]
      unfold strIterType
      split <;> decide
    · obtain ⟨c, k, hc, rfl⟩ := hu
      exact ⟨.str ⟨#[c]⟩, ⟨k, rfl⟩, c, hc, rfl⟩
def ItE (own : Hp → Prop) (n : Nat) (yv : Nat → V → Prop) : L2.It :=
  ⟨fun i H => own H ∧ i < n, fun i H v H' => ∃ T x, v = .ref T ∧ H T = none ∧ H' = upd H T (.tup [.int (i : Nat), x]) ∧ yv i x, fun i H => own H ∧ n ≤ i⟩
theorem turn_enumX {P : Program} {w : World} {K : PySem.W.Frag} {elts : List Expr} {kk : Nat} {tpos : Pos} {it e : Addr} {n : Nat} {own : Hp → Prop} {tn : Nat → Heap → Prop} {yv : Nat → V → Prop} (D : Dr P w K it n own tn yv) :
    Turn P w K (.Tuple elts kk tpos) (ItE own n yv) [e, it] e (fun i h => (∃ old, IsEnum h e it ((i : Nat) : Int) old) ∧ tn i h ∧ e ≠ it ∧ i ≤ n) where
  mem := by simp
  obj := fun i h st b hb => by
    obtain ⟨⟨old, he⟩, ht, _⟩ := st
    have e' : b = e ∨ b = it := by simpa using hb
    rcases e' with z | z
    · rw [z]; exact ⟨_, he, fun v q => nomatch q⟩
    · rw [z]; exact D.obj i h ht
  keep := fun i h h' ⟨⟨old, he⟩, ht, hne, hn⟩ k => ⟨⟨old, k e (by simp) _ he⟩, D.keep i h h' ht fun o q => k it (by simp) o q, hne, hn⟩
  item := by
    intro X hP hw hK hc i pins s σ H E I hf st hg
    obtain ⟨⟨old, he⟩, ht, hne, hn⟩ := st
    obtain ⟨fp, Pv, St, Dw, hs, hb, hcl, hy⟩ := D.draw X hP hw hK pins σ H s I hg.1 i ht X.A.in1 (I.ok.hd hc)
    subst hP hw hK
    have hef : e ∉ fp := fun z => hcl e z _ he rfl
    have hel : e < s.heap.objs.size := Heap.lt_size he
    have hil : it < s.heap.objs.size := by obtain ⟨o, q, _⟩ := D.obj i _ ht; exact Heap.lt_size q
    refine wpAny_pyNext_enum_itemD Dw he hs hg.2 hne hef fun u h' tk hP ho hs' hT hsz hk => ?_
    obtain ⟨x, ru, hx⟩ := hy i u hP
    refine ⟨_, rfl, wpAny_letOwnedTupleGo_enum (s := { s with heap := h', toks := tk + 1 }) ho fun h'' he' sb => ?_⟩
    have hT2 : h''.get? s.heap.objs.size = some { cls := .type "tuple", data := .seq #[.int i tk, u] } := (sb.2 _ (Nat.ne_of_gt hel)).trans hT
    have lay : ObjOk X.prog X.w (upd H s.heap.objs.size (.tup [.int (i : Nat), x])) h'' s.heap.objs.size (.tup [.int (i : Nat), x]) :=
      ⟨by show 2 ≤ sizeLine; decide, [.int i tk, u], .cons ⟨_, rfl⟩ (.cons ru .nil), _, hT2, rfl, _, rfl⟩
    have J : Inv X pins σ (upd H s.heap.objs.size (.tup [.int (i : Nat), x])) { s with heap := h'', toks := tk + 1 } :=
      I.turnedNew (ch := [e, it]) (fun b ob hb' q => (sb.2 b (fun z => hb' (by simp [z]))).trans (hk b ob (fun z => hb' (by simp [z])) (fun z => hb' (by simp [z])) q)) hf (Nat.le_refl _) lay
    refine ⟨.ref s.heap.objs.size, _, J, rfl, ⟨_, x, rfl, I.hok.fresh (Nat.le_refl _), rfl, hx⟩, ⟨⟨u, ?_⟩, D.keep _ h' h'' (hb _ _ hs') (fun o q => (sb.2 it (Ne.symm hne)).trans q), hne, hg.2⟩, fun b hb' => ?_⟩
    · have e1 : ((i + 1 : Nat) : Int) = (i : Int) + 1 := by omega
      rw [e1]; exact he'
    · have hlt : b < s.heap.objs.size := by
        have e' : b = e ∨ b = it := by simpa using hb'
        rcases e' with z | z
        · rw [z]; exact hel
        · rw [z]; exact hil
      rw [upd_ne (Nat.ne_of_lt hlt)]
      exact (hf b hb').1
  done := by
    intro X hP hw hK hc i pins s σ H E I hf st hg
    obtain ⟨⟨old, he⟩, ht, hne, hn⟩ := st
    have hin : i = n := Nat.le_antisymm hn hg.2
    subst hin
    obtain ⟨fp, Pv, St, Dw, hs, hb, hcl, hy⟩ := D.draw X hP hw hK pins σ H s I hg.1 i ht X.A.in1 (I.ok.hd hc)
    subst hP hw hK
    obtain ⟨f0, f1, f2, f3, f4, f5⟩ := hf it (by simp)
    exact wpAny_pyNext_enum_endD Dw he hs fun h' eb => ⟨rfl, I.turned (t' := s.toks) (fun b o hb q => eb b o hb q) f0 f1 f3 f4 f5⟩
  self := fun A i s Q E st h => let ⟨⟨_, he⟩, _⟩ := st; wpAny_pyIter_enum he h
set_option maxHeartbeats 4000000 in
theorem meets_enum1 {v : Value} {o : Obj} {Hh : Heap → Prop} (B : Begins v o Hh) :
    Meets (Builtin.«enumerate.__new__» ⟨[.type "enumerate", v], []⟩) (fun _ R s => Hh s.heap ∧
      R (.ok (.ret (.ref (s.heap.push o).objs.size))) { s with heap := (s.heap.push o).push { cls := .type "enumerate", data := .fields #[.none, .bool false, .ref s.heap.objs.size, rawInt 0, .none, .none] } }) := by
  refine .of_wp fun prog w A R s h => ?_
  obtain ⟨hp, g, d, tk, os⟩ := s
  obtain ⟨h1, h⟩ := h
  have hsub := sub_enumerate
  have walk : ∀ {A' : Around} {E : Value → Shared → Prop} {Q : Value → Shared → Prop}, Q (.ref hp.objs.size) ⟨hp.push o, g, d, tk, os⟩ → wpAny (model prog w) A' (pyIter v) Q E ⟨hp, g, d, tk, os⟩ :=
    fun q => B.iter prog w _ _ ⟨hp, g, d, tk, os⟩ _ h1 q
  wp_walk using walk
  refine wpAny_stack_any fun st => wpAny_pure ?_
  split
  · rename_i c _ _ _ _ _
    cases (c == Value.type "enumerate")
    · wp_walk using walk
      exact ⟨_, rfl, h⟩
    · wp_walk using walk
      exact ⟨_, rfl, h⟩
  · wp_walk using walk
    exact ⟨_, rfl, h⟩
section
variable {prog : Program} {w : World} {A : Around} {E : Value → Shared → Prop} {s : Shared}
theorem call_enum1 {v : Value} {o : Obj} {Hh : Heap → Prop} {Q : Value → Shared → Prop} (B : Begins v o Hh) (h1 : Hh s.heap)
    (h : ∀ h', IsEnum h' (s.heap.objs.size + 1) s.heap.objs.size 0 .none → h'.get? s.heap.objs.size = some o → (∀ b u, s.heap.get? b = some u → h'.get? b = some u) → Q (.ref (s.heap.objs.size + 1)) { s with heap := h' }) :
    wpAny (model prog w) A (call (.type "enumerate") [v]) Q E s := by
  have hz : (s.heap.push o).objs.size = s.heap.objs.size + 1 := Heap.size_push ..
  have he : IsEnum ((s.heap.push o).push { cls := .type "enumerate", data := .fields #[.none, .bool false, .ref s.heap.objs.size, rawInt 0, .none, .none] }) (s.heap.objs.size + 1) s.heap.objs.size 0 .none := by
    have q := Heap.get?_push_size (s.heap.push o) (o := { cls := .type "enumerate", data := .fields #[.none, .bool false, .ref s.heap.objs.size, rawInt 0, .none, .none] }) rfl
    rw [hz] at q; exact q
  refine callType_new F.called_enumerate (by decide) (F.typeCall_enumerate_1 _) (F.newCall_enumerate_1 _) (fun obj => F.args_object_init_2 obj _) F.entry_enumerate_new (meets_enum1 B) ⟨h1, ?_⟩
  show _ ∧ _
  rw [hz]
  exact ⟨⟨_, he, rfl⟩, h _ he (Heap.get?_push_of_some _ (Heap.get?_push_size _ B.free)) fun b u x => Heap.get?_push_of_some _ (Heap.get?_push_of_some _ x)⟩
end
section
variable {X : Cx} {tg : Expr}
/-- what a walked value may be -/
def iSeq (K : PySem.W.Frag) (te : TE) : TI := fun σ H R => te σ H fun x H1 => (∃ a xs, x = .ref a ∧ SqL K H1 a xs ∧ R (Itl K a) H1) ∨ (∃ a xs, x = .ref a ∧ SqT K H1 a xs ∧ R (Itt K a) H1) ∨ ∃ z, x = .str z ∧ R (Its z) H1
theorem pi_seq {e : Expr} {te : TE} (he : PE X e te) : PI X tg e (iSeq X.K te) := by
  refine ⟨fun pins s σ H R I h => ?_⟩
  refine thn (he.run pins s σ H _ I h) fun v s1 ⟨x, H1, I1, r1, q1⟩ => ?_
  rcases q1 with ⟨a, xs, rfl, hq, q⟩ | ⟨a, xs, rfl, hq, q⟩ | ⟨z, rfl, q⟩
  · cases r1
    obtain ⟨its, rv, p, hz⟩ := I1.list hq
    refine wpAny_pyIter_list p.isList (pi_one (tk := s1.toks) I1 _ (turn_list a _) ?_ q)
    exact ⟨_, Heap.get?_push_size _ rfl, rfl, rfl⟩
  · cases r1
    obtain ⟨its, rv, p, hz⟩ := I1.tuple hq
    have p' : s1.heap.IsTuple a its.toArray := p
    refine wpAny_pyIter_tuple p' (pi_one (tk := s1.toks) I1 _ (turn_tuple a _) ?_ q)
    exact ⟨_, Heap.get?_push_size _ rfl, rfl, rfl⟩
  · obtain ⟨t, rfl⟩ := r1
    refine wpAny_pyIter_strU (pi_one (tk := s1.toks) I1 _ (turn_str _ z t (strIterType z) ?_) ?_ q)
    · unfold strIterType
      split
      · exact .inl rfl
      · exact .inr rfl
    · exact ⟨_, Heap.get?_push_size _ rfl, rfl, rfl⟩
/-- enumerate(e) -/
def iEnm (K : PySem.W.Frag) (ta : TA) : TI := fun σ H R => ta σ H fun vs H1 => (∃ a xs, vs = [.ref a] ∧ SqL K H1 a xs ∧ R (ItE (fun H => SqL K H a xs) xs.length fun i x => xs[i]? = some x) H1) ∨
  (∃ a xs, vs = [.ref a] ∧ SqT K H1 a xs ∧ R (ItE (fun H => SqT K H a xs) xs.length fun i x => xs[i]? = some x) H1) ∨ ∃ z : Str, vs = [.str z] ∧ R (ItE (fun _ => True) z.cps.size fun i x => ∃ c, z.cps[i]? = some c ∧ x = .str ⟨#[c]⟩) H1
theorem pie_enum {elts : List Expr} {kk : Nat} {tpos : Pos} {pins : List (Addr × Obj)} {σ : L2.St} {H : Hp} {s : Shared} {R : L2.It → Hp → Prop} {n : Nat} {own : Hp → Prop} {tn : Nat → Heap → Prop} {yv : Nat → V → Prop} {h' : Heap} {o : Obj} (I : Inv X pins σ H s)
    (D : Dr X.prog X.w X.K s.heap.objs.size n own tn yv) (he : IsEnum h' (s.heap.objs.size + 1) s.heap.objs.size 0 .none) (ht : tn 0 h') (hk : ∀ b u, s.heap.get? b = some u → h'.get? b = some u) (q : R (ItE own n yv) H) :
    PIE X pins σ (.Tuple elts kk tpos) R (.ref (s.heap.objs.size + 1)) { s with heap := h' } := by
  have J : Inv X pins σ H { s with heap := h' } := I.kept (t' := s.toks) hk
  refine ⟨s.heap.objs.size + 1, [s.heap.objs.size + 1, s.heap.objs.size], _, _, H, rfl, J, turn_enumX D, ⟨⟨.none, he⟩, ht, Nat.succ_ne_self _, Nat.zero_le _⟩, fun b hb => ?_, q⟩
  have hle : s.heap.objs.size ≤ b := by
    have e' : b = s.heap.objs.size + 1 ∨ b = s.heap.objs.size := by simpa using hb
    rcases e' with z | z
    · rw [z]; exact Nat.le_add_right _ _
    · rw [z]; exact Nat.le_refl _
  exact I.fpOk hle (I.hok.fresh hle)
theorem pi_enm {e : Expr} {ta : TA} {p pos tpos : Pos} {elts : List Expr} {kk : Nat} (hg : Gl X "enumerate") (hm : X.mg "enumerate" = none) (ha : PA X [e] ta) (hs : starEach [e] X.env = [(false, eval e X.env)]) :
    PI X (.Tuple elts kk tpos) (.Call (.Name "enumerate" p) [e] [] pos) (iEnm X.K ta) := by
  refine ⟨fun pins s σ H R I h => ?_⟩
  refine Call_ (ld_blt I hg hm boot_enumerate (callWith_type1 (thn (ha.run pos pins s σ H _ I h) fun us s1 ⟨vs, H1, I1, r1, q1⟩ => ?_) hs rfl))
  rcases q1 with ⟨a, xs, rfl, hq, q⟩ | ⟨a, xs, rfl, hq, q⟩ | ⟨z, rfl, q⟩
  · rw [Vals.ref1 r1]
    obtain ⟨its, rv, p', hz⟩ := I1.list hq
    refine call_enum1 (begins_list a its.toArray) p'.isList fun h' he hi hk => wpAny_pyIter_enum he ?_
    exact pie_enum (o := default) I1 (dr_list _ a xs) he ⟨_, hi, rfl, rfl⟩ hk q
  · rw [Vals.ref1 r1]
    obtain ⟨its, rv, p', hz⟩ := I1.tuple hq
    have p'' : s1.heap.IsTuple a its.toArray := p'
    refine call_enum1 (begins_tuple a its.toArray) p'' fun h' he hi hk => wpAny_pyIter_enum he ?_
    exact pie_enum (o := default) I1 (dr_tup _ a xs) he ⟨_, hi, rfl, rfl⟩ hk q
  · obtain ⟨u, rfl, ru⟩ := Vals.one r1
    obtain ⟨t, rfl⟩ := ru
    refine call_enum1 (begins_text z t) trivial fun h' he hi hk => wpAny_pyIter_enum he ?_
    exact pie_enum (o := default) I1 (dr_str _ z t) he ⟨_, hi, rfl, rfl⟩ hk q
end
end Pe
set_option Elab.async false
set_option linter.all false
set_option maxRecDepth 100000
set_option maxHeartbeats 4000000
namespace Pe
open PySem PySem.Spec PyProof.Rows L2
/-- J goes through xs -/
structure Wk (K : PySem.W.Frag) (G : Hp) (μ : Mu) (J : L2.It) (xs : List D) : Prop where
  stop : ∀ i H1, Le G H1 → xs.length ≤ i → J.stop i H1
  go : ∀ i H1, Le G H1 → i < xs.length → J.go i H1
  yld : ∀ i d H1 x H2, Le G H1 → xs[i]? = some d → J.yld i H1 x H2 → (H2 = H1 ∧ Rep K G μ x d) ∨ ∃ T vs ds, x = .ref T ∧ H1 T = none ∧ H2 = upd H1 T (.tup vs) ∧ d = .tup ds ∧ Reps K G μ vs ds
section
variable {K : PySem.W.Frag} {G : Hp} {μ : Mu}
theorem wk_list {a : Addr} {vs : List V} {ds : List D} (h : G a = some (.lst vs)) (r : Reps K G μ vs ds) : Wk K G μ (Itl K a) ds where
  stop := fun i H1 l hi => ⟨vs, SqL.of (l _ _ h), by rw [r.len]; exact hi⟩
  go := fun i H1 l hi => by
    obtain ⟨v, hv, _⟩ := r.get (List.getElem?_eq_getElem hi)
    exact ⟨vs, v, SqL.of (l _ _ h), hv⟩
  yld := fun i d H1 x H2 l hd ⟨e, hx⟩ => by
    obtain ⟨v, hv, rv⟩ := r.get hd
    have := hx vs (SqL.of (l _ _ h))
    rw [hv] at this; cases this
    exact .inl ⟨e, rv⟩
theorem wk_tup {a : Addr} {vs : List V} {ds : List D} (h : SqT K G a vs) (r : Reps K G μ vs ds) : Wk K G μ (Itt K a) ds where
  stop := fun i H1 l hi => ⟨vs, seqT_le l h, by rw [r.len]; exact hi⟩
  go := fun i H1 l hi => by
    obtain ⟨v, hv, _⟩ := r.get (List.getElem?_eq_getElem hi)
    exact ⟨vs, v, seqT_le l h, hv⟩
  yld := fun i d H1 x H2 l hd ⟨e, hx⟩ => by
    obtain ⟨v, hv, rv⟩ := r.get hd
    have := hx vs (seqT_le l h)
    rw [hv] at this; cases this
    exact .inl ⟨e, rv⟩
theorem chars_get {z : Str} {i : Nat} {d : D} (h : (chars z)[i]? = some d) : ∃ c, z.cps[i]? = some c ∧ d = .str ⟨#[c]⟩ := by
  unfold chars at h
  rw [List.getElem?_map] at h
  cases e : z.cps.toList[i]? with
  | none => rw [e] at h; cases h
  | some c =>
    rw [e] at h
    simp only [Option.map_some, Option.some.injEq] at h
    exact ⟨c, by simpa using e, h.symm⟩
theorem chars_len (z : Str) : (chars z).length = z.cps.size := by simp [chars]
theorem wk_str (z : Str) : Wk K G μ (Its z) (chars z) where
  stop := fun i H1 l hi => by rw [chars_len] at hi; exact hi
  go := fun i H1 l hi => by rw [chars_len] at hi; exact hi
  yld := fun i d H1 x H2 l hd ⟨e, c, hc, hx⟩ => by
    obtain ⟨c', hc', rfl⟩ := chars_get hd
    rw [hc] at hc'; cases hc'
    subst hx
    exact .inl ⟨e, .str _⟩
theorem wk_rng (lo : Int) (n : Nat) : Wk K G μ (Itr lo n) ((List.range n).map fun (k : Nat) => .int (lo + (k : Int))) where
  stop := fun i H1 l hi => by show n ≤ i; simpa using hi
  go := fun i H1 l hi => by show i < n; simpa using hi
  yld := fun i d H1 x H2 l hd ⟨e, hx⟩ => by
    rw [List.getElem?_map] at hd
    cases q : (List.range n)[i]? with
    | none => rw [q] at hd; cases hd
    | some k =>
      rw [q] at hd
      simp only [Option.map_some, Option.some.injEq] at hd
      have hk : k = i := by
        have := List.getElem?_eq_some_iff.mp q
        obtain ⟨h1, h2⟩ := this
        simpa using h2.symm
      subst hk
      subst hx
      rw [← hd]
      exact .inl ⟨e, .int _⟩
theorem zipIdx_get {ds : List D} {i : Nat} {d : D} (h : (ds.zipIdx.map fun p => D.tup [.int p.2, p.1])[i]? = some d) : ∃ x, ds[i]? = some x ∧ d = .tup [.int (i : Nat), x] := by
  rw [List.getElem?_map, List.getElem?_zipIdx] at h
  cases e : ds[i]? with
  | none => rw [e] at h; cases h
  | some x =>
    rw [e] at h
    simp only [Option.map_some, Option.some.injEq, Nat.zero_add] at h
    exact ⟨x, rfl, h.symm⟩
theorem wk_enm {own : Hp → Prop} {n : Nat} {yv : Nat → V → Prop} {ds : List D} (ho : ∀ H1, Le G H1 → own H1) (hn : n = ds.length) (hy : ∀ i x d, yv i x → ds[i]? = some d → Rep K G μ x d) : Wk K G μ (ItE own n yv) (ds.zipIdx.map fun p => .tup [.int p.2, p.1]) where
  stop := fun i H1 l hi => ⟨ho H1 l, by rw [hn]; simpa using hi⟩
  go := fun i H1 l hi => ⟨ho H1 l, by rw [hn]; simpa using hi⟩
  yld := fun i d H1 x H2 l hd ⟨T, y, hx, hT, e, hv⟩ => by
    obtain ⟨d', hd', rfl⟩ := zipIdx_get hd
    exact .inr ⟨T, _, _, hx, hT, e, rfl, .cons (.int _) (.cons (hy i y d' hv hd') .nil)⟩
end
section
variable (K : PySem.W.Frag) (cn : Cn) (cf : Cf) (W : L2.WX)
def tI (m : It) : TI := fun σ H R => (∃ B G0 G μ S ρ, Wd K B G0 G μ S H ∧ EnvR K G μ ρ σ ∧ After K cn B G0 G μ σ W (evI cf m ρ S) fun xs G' μ' S' H' => ∀ J, Wk K G' μ' J xs → R J H') ∨
  ∃ i n a xs B G0 G μ S ρ, m = .seq (.var i) ∧ Wd K B G0 G μ S H ∧ EnvR K G μ ρ σ ∧ ρ[i]? = some (some (.ref n)) ∧ S.get n = some (.lst xs) ∧ μ n = some a ∧ ∀ G' μ' H', Le G G' → LeM μ μ' → Wd K B G0 G' μ' S H' → R (Itl K a) H'
def tC (m : Oe) : TT := fun σ H Q => ∃ B G0 G μ S ρ, Wd K B G0 G μ S H ∧ EnvR K G μ ρ σ ∧ After K cn B G0 G μ σ W (evC cf m ρ S) fun b G' μ' S' H' => Q b H'
end
section
variable {X : Cx} {cn : Cn} {cf : Cf} {W : L2.WX} {σ : L2.St} {H : Hp}
theorem t_seq {e : E} {R : L2.It → Hp → Prop} (h : tI X.K cn cf W (.seq e) σ H R) : iSeq X.K (tE X.K cn cf W e) σ H R := by
  rcases h with h | ⟨i, n, a, xs, B, G0, G, μ, S, ρ, hm, w, er, hi, hg, ha, hR⟩
  case inr =>
    cases hm
    refine ⟨B, G0, G, μ, S, ρ, w, er, ?_⟩
    have e : evE cf (.var i) ρ S = .ok (.fz (.ref n)) S := by simp only [evE, hi]; rfl
    rw [e]
    intro G1 μ1 H1 l m w1 z f
    obtain ⟨a', h1, _, _, vs, hv, _⟩ := w1.cel n _ hg
    have h2 := m _ _ ha
    cases (show Rep X.K G1 μ1 z (.ref n) from f) with
    | ref h3 =>
      rw [h2] at h3 h1; cases h3; cases h1
      exact .inl ⟨a, vs, rfl, SqL.of hv, hR G1 μ1 H1 l m w1⟩
  obtain ⟨B, G0, G, μ, S, ρ, w, er, h⟩ := h
  simp only [evI] at h
  refine tE_use w er h fun d G1 μ1 S1 H1 x l m w1 er1 r1 h1 => ?_
  obtain ⟨xs, hx, k⟩ := After.opt w1 h1
  have k' := k G1 H1 (fun _ _ e => e) w1
  cases r1 <;> simp only [seqO, Option.some.injEq, reduceCtorEq] at hx
  · subst hx
    exact .inr (.inr ⟨_, rfl, k' _ (wk_str _)⟩)
  · subst hx
    rename_i a ys ds h2 q
    exact .inl ⟨a, ys, rfl, SqL.of (w1.gh _ _ h2), k' _ (wk_list h2 q)⟩
  · subst hx
    rename_i a ys ds h2 q
    exact .inr (.inl ⟨a, ys, rfl, seqT_le w1.gh h2, k' _ (wk_tup h2 q)⟩)
theorem rng_of {i j : Int} {xs : List D} (h : rngO i j = some xs) : (-(2 ^ 62) ≤ i ∧ i < 2 ^ 62 ∧ -(2 ^ 62) ≤ j ∧ j < 2 ^ 62) ∧ xs = (List.range (j - i).toNat).map fun (k : Nat) => .int (i + (k : Int)) := by
  unfold rngO at h
  split at h
  · rename_i hc
    simp only [Bool.and_eq_true, decide_eq_true_eq] at hc
    simp only [Option.some.injEq] at h
    exact ⟨⟨hc.1.1, hc.1.2, hc.2.1, hc.2.2⟩, h.symm⟩
  · cases h
theorem t_r1 {a : E} {R : L2.It → Hp → Prop} (h : tI X.K cn cf W (.r1 a) σ H R) : iRng1 (tCons (tE X.K cn cf W a) tNil) σ H R := by
  rcases h with h | ⟨i, n, a, xs, B, G0, G, μ, S, ρ, hm, _⟩
  case inr => cases hm
  obtain ⟨B, G0, G, μ, S, ρ, w, er, h⟩ := h
  simp only [evI] at h
  refine tE_use w er h fun d G1 μ1 S1 H1 x l m w1 er1 r1 h1 => ?_
  cases r1 <;> first | exact h1.elim | skip
  rename_i j
  obtain ⟨xs, hx, k⟩ := After.opt w1 h1
  obtain ⟨⟨_, _, a3, a4⟩, e⟩ := rng_of hx
  refine ⟨j, rfl, a3, a4, ?_⟩
  subst e
  have := k G1 H1 (fun _ _ e => e) w1 (Itr 0 (j - 0).toNat) (wk_rng 0 _)
  rwa [Int.sub_zero] at this
theorem t_r2 {a b : E} {R : L2.It → Hp → Prop} (h : tI X.K cn cf W (.r2 a b) σ H R) : iRng2 (tCons (tE X.K cn cf W a) (tCons (tE X.K cn cf W b) tNil)) σ H R := by
  rcases h with h | ⟨i, n, a, xs, B, G0, G, μ, S, ρ, hm, _⟩
  case inr => cases hm
  obtain ⟨B, G0, G, μ, S, ρ, w, er, h⟩ := h
  simp only [evI] at h
  refine tE_use w er h fun d G1 μ1 S1 H1 x l m w1 er1 r1 h1 => ?_
  refine tE_use w1 er1 h1 fun d2 G2 μ2 S2 H2 y l2 m2 w2 er2 r2 h2 => ?_
  have r1' := r1.up l2 m2
  cases r1' <;> cases r2 <;> first | exact h2.elim | skip
  obtain ⟨xs, hx, k⟩ := After.opt w2 h2
  obtain ⟨a5, e⟩ := rng_of hx
  subst e
  exact ⟨_, _, rfl, a5, k G2 H2 (fun _ _ e => e) w2 _ (wk_rng _ _)⟩
theorem t_enm {e : E} {R : L2.It → Hp → Prop} (h : tI X.K cn cf W (.enm e) σ H R) : iEnm X.K (tCons (tE X.K cn cf W e) tNil) σ H R := by
  rcases h with h | ⟨i, n, a, xs, B, G0, G, μ, S, ρ, hm, _⟩
  case inr => cases hm
  obtain ⟨B, G0, G, μ, S, ρ, w, er, h⟩ := h
  simp only [evI] at h
  refine tE_use w er h fun d G1 μ1 S1 H1 x l m w1 er1 r1 h1 => ?_
  obtain ⟨xs, hx, k⟩ := After.opt w1 h1
  have k' := k G1 H1 (fun _ _ e => e) w1
  unfold enmO at hx
  cases r1 <;> simp only [seqO, Option.map_some, Option.map_none, Option.some.injEq, reduceCtorEq] at hx
  · subst hx
    rename_i z
    refine .inr (.inr ⟨z, rfl, k' _ (wk_enm (fun _ _ => trivial) (chars_len z).symm fun i x d ⟨c, hc, e⟩ hd => ?_)⟩)
    obtain ⟨c', hc', rfl⟩ := chars_get hd
    rw [hc] at hc'; cases hc'
    subst e
    exact .str _
  · subst hx
    rename_i a ys ds h2 q
    refine .inl ⟨a, ys, rfl, SqL.of (w1.gh _ _ h2), k' _ (wk_enm (fun H1 l => SqL.of (l _ _ h2)) q.len fun i x d hx hd => ?_)⟩
    obtain ⟨v, hv, rv⟩ := q.get hd
    rw [hx] at hv; cases hv
    exact rv
  · subst hx
    rename_i a ys ds h2 q
    refine .inr (.inl ⟨a, ys, rfl, seqT_le w1.gh h2, k' _ (wk_enm (fun H1 l => seqT_le l h2) q.len fun i x d hx hd => ?_)⟩)
    obtain ⟨v, hv, rv⟩ := q.get hd
    rw [hx] at hv; cases hv
    exact rv
theorem t_cno {Q : Bool → Hp → Prop} (h : tC X.K cn cf W .no σ H Q) : tYes σ H Q := by
  obtain ⟨B, G0, G, μ, S, ρ, w, er, h⟩ := h
  simp only [evC] at h
  exact After.now w h
theorem t_cso {e : E} {Q : Bool → Hp → Prop} (h : tC X.K cn cf W (.so e) σ H Q) : tT X.K cn cf W e σ H Q := by
  obtain ⟨B, G0, G, μ, S, ρ, w, er, h⟩ := h
  simp only [evC] at h
  exact ⟨B, G0, G, μ, S, ρ, w, er, h⟩
end
def gT (K : PySem.W.Frag) : T → TG
  | .nm i => gName i
  | .tp ts => gTup K ts.length (gNames ts)
where
  gNames : List Nat → TGs
    | [] => gNil
    | i :: is => gCons (gName i) (gNames is)
section
variable {K : PySem.W.Frag} {G : Hp} {μ : Mu}
theorem gNames_ok {σ : L2.St} {H : Hp} {Q : L2.St → Hp → Prop} : ∀ {ts : List Nat} {vs : List V} {ds : List D} {ρ ρ' : En} {σ : L2.St}, Reps K G μ vs ds → EnvR K G μ ρ σ → bindAll ts ds ρ = some ρ' → (∀ σ', EnvR K G μ ρ' σ' → Q σ' H) → gT.gNames ts vs σ H Q
  | [], _, _, ρ, ρ', σ, .nil, er, h, k => by
    simp only [bindAll, Option.some.injEq] at h
    subst h
    exact ⟨rfl, k _ er⟩
  | i :: is, _, _, ρ, ρ', σ, .cons r rs, er, h, k => by
    simp only [bindAll] at h
    exact ⟨_, _, rfl, gNames_ok (σ := σ) rs (er.set r) h k⟩
  | [], _, _, _, _, _, .cons r rs, er, h, k => by simp [bindAll] at h
  | _ :: _, _, _, _, _, _, .nil, er, h, k => by simp [bindAll] at h
/-- a value goes to a target -/
theorem gT_ok {t : T} {v : V} {d : D} {ρ ρ' : En} {σ : L2.St} {H : Hp} {Q : L2.St → Hp → Prop} (l : Le G H) (r : Rep K G μ v d) (er : EnvR K G μ ρ σ) (h : bindT t d ρ = some ρ') (k : ∀ σ', EnvR K G μ ρ' σ' → Q σ' H) : gT K t v σ H Q := by
  cases t with
  | nm i =>
    simp only [bindT, Option.some.injEq] at h
    subst h
    exact k _ (er.set r)
  | tp ts =>
    cases d with
    | tup ds =>
      cases r with
      | tup hs rs =>
        rename_i a xs
        simp only [bindT] at h
        have hl : ∀ {ts : List Nat} {ds : List D} {ρ : En}, bindAll ts ds ρ = some ρ' → ts.length = ds.length := by
          intro ts
          induction ts with
          | nil => intro ds ρ h; cases ds with
            | nil => rfl
            | cons _ _ => simp [bindAll] at h
          | cons i is ih => intro ds ρ h; cases ds with
            | nil => simp [bindAll] at h
            | cons d ds => simp only [bindAll] at h; simp [ih h]
        exact ⟨a, xs, rfl, seqT_le l hs, by rw [rs.len]; exact (hl h).symm, gNames_ok (σ := σ) rs er h k⟩
    | _ => simp [bindT] at h
end
theorem wipe_get : ∀ (vs : List Nat) (σ : L2.St) (i : Nat), (L2.wipe σ vs)[i]? = if i ∈ vs then σ[i]?.map fun _ => none else σ[i]?
  | [], σ, i => by simp [L2.wipe]
  | v :: vs, σ, i => by
    show ((L2.wipe σ vs).set v none)[i]? = _
    by_cases h : v = i
    · subst h
      rw [List.getElem?_set]
      simp only [if_true, List.mem_cons, true_or]
      have hl : (L2.wipe σ vs).length = σ.length := wipe_length σ vs
      by_cases hv : v < σ.length
      · rw [if_pos (by rw [hl]; exact hv), List.getElem?_eq_getElem hv]; rfl
      · rw [if_neg (by rw [hl]; exact hv), List.getElem?_eq_none (by omega)]; rfl
    · rw [List.getElem?_set_ne h, wipe_get vs σ i]
      have e : (i ∈ v :: vs) = (i ∈ vs) := by
        simp only [List.mem_cons, eq_iff_iff]
        exact ⟨fun q => q.resolve_left (fun z => h z.symm), .inr⟩
      simp only [e]
theorem wipe_set {σ : L2.St} {vs : List Nat} {j : Nat} {x : Option V} (h : j ∈ vs) : L2.wipe (σ.set j x) vs = L2.wipe σ vs := by
  apply List.ext_getElem?
  intro i
  rw [wipe_get, wipe_get]
  by_cases e : j = i
  · subst e
    rw [if_pos h, if_pos h, List.getElem?_set]
    simp only [if_true]
    by_cases hl : j < σ.length
    · rw [if_pos hl, List.getElem?_eq_getElem hl]; rfl
    · rw [if_neg hl, List.getElem?_eq_none (by omega)]
  · rw [List.getElem?_set_ne e]
theorem wipe_wipe {σ : L2.St} {vs ws : List Nat} (h : ∀ i ∈ ws, i ∈ vs) : L2.wipe (L2.wipe σ ws) vs = L2.wipe σ vs := by
  apply List.ext_getElem?
  intro i
  rw [wipe_get, wipe_get, wipe_get]
  by_cases e : i ∈ vs
  · rw [if_pos e, if_pos e]
    split
    · cases σ[i]? <;> rfl
    · rfl
  · rw [if_neg e, if_neg e, if_neg fun z => e (h i z)]
theorem gNames_keep {vs : List Nat} {Q : L2.St → Hp → Prop} {H : Hp} : ∀ {ts : List Nat} {xs : List V} {σ : L2.St}, (∀ i ∈ ts, i ∈ vs) → gT.gNames ts xs σ H Q → gT.gNames ts xs σ H fun σ' H' => L2.wipe σ' vs = L2.wipe σ vs ∧ Q σ' H'
  | [], _, _, _, ⟨e, q⟩ => ⟨e, rfl, q⟩
  | i :: is, _, σ, h, ⟨v, r, e, q⟩ => by
    refine ⟨v, r, e, ?_⟩
    have := gNames_keep (ts := is) (vs := vs) (Q := Q) (H := H) (fun j hj => h j (List.mem_cons_of_mem _ hj)) q
    refine gNames_imp this fun σ' H' ⟨e1, q1⟩ => ⟨e1.trans (wipe_set (h i List.mem_cons_self)), q1⟩
where
  gNames_imp {Q Q' : L2.St → Hp → Prop} {H : Hp} : ∀ {ts : List Nat} {xs : List V} {σ : L2.St}, gT.gNames ts xs σ H Q → (∀ σ' H', Q σ' H' → Q' σ' H') → gT.gNames ts xs σ H Q'
    | [], _, _, ⟨e, q⟩, k => ⟨e, k _ _ q⟩
    | _ :: _, _, _, ⟨v, r, e, q⟩, k => ⟨v, r, e, gNames_imp q k⟩
theorem gT_keep {K : PySem.W.Frag} {t : T} {vs : List Nat} {v : V} {σ : L2.St} {H : Hp} {Q : L2.St → Hp → Prop} (h : ∀ i ∈ t.ns, i ∈ vs) (g : gT K t v σ H Q) : gT K t v σ H fun σ' H' => L2.wipe σ' vs = L2.wipe σ vs ∧ Q σ' H' := by
  cases t with
  | nm i => exact ⟨wipe_set (h i (by simp [T.ns])), g⟩
  | tp ts =>
    obtain ⟨a, xs, e, hs, hl, q⟩ := g
    exact ⟨a, xs, e, hs, hl, gNames_keep h q⟩
theorem gT_keepW {K : PySem.W.Frag} {t : T} {vs : List Nat} {v : V} {σ : L2.St} {H : Hp} {Q : L2.St → Hp → Prop} (h : ∀ i ∈ t.ns, i ∈ vs) (g : gT K t v (L2.wipe σ vs) H Q) : gT K t v (L2.wipe σ vs) H fun σ' H' => L2.wipe σ' vs = L2.wipe σ vs ∧ Q σ' H' := by
  have q := gT_keep h g
  rwa [wipe_wipe (fun _ h => h)] at q
section
variable {K : PySem.W.Frag} {B G0 G H : Hp} {μ : Mu} {S : Store}
theorem Wd.addB (w : Wd K B G0 G μ S H) {p : Addr} {o : HO} (hp : H p = none) : Wd K (upd B p o) G0 G μ S (upd H p o) ∧ B p = none ∧ G0 p = none := by
  have gp : G p = none := by
    cases e : G p with
    | none => rfl
    | some u => rw [w.gh p u e] at hp; cases hp
  have bp : B p = none := by
    cases e : B p with
    | none => rfl
    | some u => rw [w.bh p u e] at hp; cases hp
  have g0p : G0 p = none := by
    cases e : G0 p with
    | none => rfl
    | some u => rw [w.g0 p u e] at gp; cases gp
  have np : ∀ n c a, S.get n = some c → μ n = some a → a ≠ p := fun n c a q m z => by
    obtain ⟨a', m', _, _, ok⟩ := w.cel n c q
    rw [m] at m'; cases m'
    subst z
    cases c with
    | lst xs => obtain ⟨vs, e, _⟩ := ok; rw [e] at hp; cases hp
    | dct _ => exact ok.elim
    | obj _ _ => obtain ⟨_, _, e, _⟩ := ok; rw [e] at hp; cases hp
  refine ⟨⟨fun a u e => ?_, fun a u e => ?_, w.g0, fun a h1 h2 => ?_, w.nx, w.inj, fun n c q => ?_⟩, bp, g0p⟩
  · rw [upd_ne (ne_of_none e gp)]; exact w.gh a u e
  · by_cases ha : a = p
    · subst ha; rw [upd_same] at e ⊢; exact e
    · rw [upd_ne ha] at e ⊢; exact w.bh a u e
  · have ha : a ≠ p := fun z => h2 (by rw [z]; exact gp)
    rw [upd_ne ha] at h1
    exact w.gb a h1 h2
  · obtain ⟨a, m, ga, ba, ok⟩ := w.cel n c q
    have ha := np n c a q m
    exact ⟨a, m, ga, by rw [upd_ne ha]; exact ba, ok.up (fun _ _ h => h) (fun _ _ h => h) (upd_ne ha)⟩
/-- what stands at p is written anew -/
theorem Wd.setB {p : Addr} {o o' : HO} (w : Wd K (upd B p o) G0 G μ S H) (g0p : G0 p = none) : Wd K (upd B p o') G0 G μ S (upd H p o') := by
  have gp : G p = none := by
    cases e : G p with
    | none => rfl
    | some u =>
      have := w.gb p (by rw [upd_same]; exact fun z => nomatch z) (by rw [e]; exact fun z => nomatch z)
      exact absurd g0p this
  refine ⟨fun a u e => ?_, fun a u e => ?_, w.g0, fun a h1 h2 => ?_, w.nx, w.inj, fun n c q => ?_⟩
  · rw [upd_ne (ne_of_none e gp)]; exact w.gh a u e
  · by_cases ha : a = p
    · subst ha; rw [upd_same] at e ⊢; exact e
    · rw [upd_ne ha] at e ⊢; exact w.bh a u (by rw [upd_ne ha]; exact e)
  · have ha : a ≠ p := fun z => h2 (by rw [z]; exact gp)
    rw [upd_ne ha] at h1
    exact w.gb a (by rw [upd_ne ha]; exact h1) h2
  · obtain ⟨a, m, ga, ba, ok⟩ := w.cel n c q
    have ha : a ≠ p := fun z => by subst z; rw [upd_same] at ba; cases ba
    rw [upd_ne ha] at ba
    exact ⟨a, m, ga, by rw [upd_ne ha]; exact ba, ok.up (fun _ _ h => h) (fun _ _ h => h) (upd_ne ha)⟩
/-- it is no more than a new list -/
theorem Wd.dropB {p : Addr} {vs : List V} {ds : List D} (w : Wd K (upd B p (.lst vs)) G0 G μ S H) (bp : B p = none) (g0p : G0 p = none) (r : Reps K G μ vs ds) : Wd K B G0 G μ S H ∧ FvOk K B G μ S H (.ref p) (.nw ds) := by
  have gp : G p = none := by
    cases e : G p with
    | none => rfl
    | some u =>
      have := w.gb p (by rw [upd_same]; exact fun z => nomatch z) (by rw [e]; exact fun z => nomatch z)
      exact absurd g0p this
  have bl : Le B (upd B p (.lst vs)) := upd_le bp
  refine ⟨⟨w.gh, fun a u e => w.bh a u (bl a u e), w.g0, fun a h1 h2 => w.gb a (fun z => ?_) h2, w.nx, w.inj, fun n c q => ?_⟩, p, vs, rfl, w.bh p _ upd_same, gp, bp, fun n c q z => ?_, r⟩
  · by_cases ha : a = p
    · subst ha; exact h1 bp
    · rw [upd_ne ha] at z; exact h1 z
  · obtain ⟨a, m, ga, ba, ok⟩ := w.cel n c q
    have ha : a ≠ p := fun z => by subst z; rw [upd_same] at ba; cases ba
    rw [upd_ne ha] at ba
    exact ⟨a, m, ga, ba, ok⟩
  · obtain ⟨a, m, _, ba, _⟩ := w.cel n c q
    rw [m] at z; cases z
    rw [upd_same] at ba; cases ba
end
theorem After.noX {α : Type} {K : PySem.W.Frag} {cn : Cn} {B G0 G : Hp} {μ : Mu} {σ σ' : L2.St} {W : L2.WX} {r : R α} {P : α → Hp → Mu → Store → Hp → Prop} (h : After K cn B G0 G μ σ (fun _ _ _ _ => False) r P) : After K cn B G0 G μ σ' W r P := by
  cases r with
  | ok a S' => exact h
  | exc x S' => exact fun G' μ' H' cl dd l m w ex => (h G' μ' H' cl dd l m w ex).elim
  | bad => exact h
theorem bnd_ok {α β : Type} {m : M α} {k : α → M β} {S : Store} {b : β} {S' : Store} (h : M.bnd m k S = .ok b S') : ∃ a S1, m S = .ok a S1 ∧ k a S1 = .ok b S' := by
  unfold M.bnd at h
  cases e : m S with
  | ok a S1 => rw [e] at h; exact ⟨a, S1, rfl, h⟩
  | exc x S1 => rw [e] at h; cases h
  | bad => rw [e] at h; cases h
theorem opt_ok {α : Type} {o : Option α} {S : Store} {a : α} {S' : Store} (h : M.opt o S = .ok a S') : o = some a ∧ S' = S := by
  cases o with
  | none => cases h
  | some b => cases h; exact ⟨rfl, rfl⟩
theorem ret_ok {α : Type} {b a : α} {S S' : Store} (h : M.ret b S = .ok a S') : b = a ∧ S = S' := by cases h; exact ⟨rfl, rfl⟩
end Pe
set_option Elab.async false
set_option linter.all false
set_option maxRecDepth 100000
set_option maxHeartbeats 4000000
namespace Pe
open PySem PySem.Spec PyProof.Rows L2
abbrev NoX : L2.WX := fun _ _ _ _ => False
section
variable {X : Cx} {cn : Cn} {cf : Cf} {W : L2.WX} {σ : L2.St} {H : Hp}
/-- behind the iterator's turn -/
theorem yld_world {K : PySem.W.Frag} {B G0 G G1 H H2 : Hp} {μ μ1 : Mu} {S : Store} {J : L2.It} {xs : List D} {i : Nat} {x : V} {d : D} (w : Wd K B G0 G μ S H) (l : Le G1 G) (m : LeM μ1 μ) (wk : Wk K G1 μ1 J xs) (hd : xs[i]? = some d) (hy : J.yld i H x H2) :
    ∃ G', Le G G' ∧ Wd K B G0 G' μ S H2 ∧ Rep K G' μ x d := by
  rcases wk.yld i d H x H2 (fun a o q => w.gh _ _ (l _ _ q)) hd hy with ⟨e, r⟩ | ⟨T, vs, ds, e1, hT, e2, e3, r⟩
  · subst e
    exact ⟨G, fun _ _ e => e, w, r.up l m⟩
  · subst e1 e2 e3
    obtain ⟨w', le, gp⟩ := w.newG (o := .tup vs) hT
    exact ⟨_, le, w', .tup (SqT.of upd_same) (r.up (fun a o q => le _ _ (l _ _ q)) m)⟩
theorem bare_ok {α : Type} {m : M α} {S : Store} {K : PySem.W.Frag} {B G0 G : Hp} {μ : Mu} {P : α → Hp → Mu → Store → Hp → Prop} (h : After K cn B G0 G μ σ W (bareM m S) P) : ∃ a S', m S = .ok a S' ∧ ∀ G' μ' H', Le G G' → LeM μ μ' → Wd K B G0 G' μ' S' H' → P a G' μ' S' H' := by
  unfold bareM at h
  cases e : m S with
  | ok a S1 => rw [e] at h; exact ⟨a, S1, rfl, h⟩
  | exc x S1 => rw [e] at h; exact h.elim
  | bad => rw [e] at h; exact h.elim
theorem readC_ok {n : Nat} {xs : List Pe.D} {S S' : Store} (h : readC n S = .ok xs S') : S' = S ∧ S.get n = some (.lst xs) := by
  unfold readC at h
  split at h
  · rename_i ys e
    cases h
    exact ⟨rfl, e⟩
  · cases h
theorem t_lc1 {own : List Nat} {it : It} {t : T} {c : Oe} {e : E} {Q : VK} (hns : ∀ i ∈ t.ns, i ∈ own) (h : tE X.K cn cf W (.lc own (.last it t c) e) σ H Q) :
    tLc (tI X.K cn cf W it) (gT X.K t) (tC X.K cn cf NoX c) (tE X.K cn cf NoX e) own σ H Q := by
  obtain ⟨B, G0, G, μ, S, ρ, w, er, h⟩ := h
  simp only [evE] at h
  cases hc : cellI it ρ with
  | some n =>
    rw [hc] at h
    simp only [pick] at h
    obtain ⟨i0, hit, hi0⟩ := cellI_some hc
    subst hit
    obtain ⟨ds, S2, hr, h1⟩ := bare_ok (After.bnd h)
    obtain ⟨xs, S1, hrd, ht⟩ := bnd_ok hr
    obtain ⟨rfl, hg⟩ := readC_ok hrd
    obtain ⟨a, ha, _⟩ := w.cel n _ hg
    refine .inr ⟨i0, n, a, xs, B, G0, G, μ, _, ρ, rfl, w, er, hi0, hg, ha, fun G1 μ1 H1 l1 m1 w1 D hD => ?_⟩
    obtain ⟨w1', bD, g0D⟩ := w1.addB (o := .lst []) hD
    refine ⟨fun i m H' => m = xs.length - i ∧ i ≤ xs.length ∧ ∃ G' μ' S' acc vs, Le G1 G' ∧ LeM μ1 μ' ∧ Wd X.K (upd B D (.lst vs)) G0 G' μ' S' H' ∧ Reps X.K G' μ' vs acc ∧
      turnsC n xs t (fun ρ' acc => M.bnd (evC cf c ρ') fun b => if b = true then M.bnd (mD (evE cf e ρ')) fun d => if acc.length < sizeMax then M.ret (acc ++ [d]) else M.no else M.ret acc) (wipe ρ own) (xs.drop i) acc S' = .ok ds S2,
      ⟨_, rfl, Nat.zero_le _, G1, μ1, _, [], [], fun _ _ e => e, fun _ _ e => e, w1', .nil, by simpa using ht⟩, ?_⟩
    rintro i m H' ⟨rfl, hi', G', μ', S', acc, vs, lG, lM, w', r', ht'⟩
    have cell : ∀ {Sx : Store}, Wd X.K (upd B D (.lst vs)) G0 G' μ' Sx H' → Sx.get n = some (.lst xs) → ∃ us, H' a = some (.lst us) ∧ Reps X.K G' μ' us xs := fun {Sx} wx hgx => by
      obtain ⟨a', h1, _, _, us, hv, ru⟩ := wx.cel n _ hgx
      rw [lM _ _ (m1 _ _ ha)] at h1; cases h1
      exact ⟨us, hv, ru⟩
    by_cases hlt : i < xs.length
    · right
      rw [List.drop_eq_getElem_cons hlt] at ht'
      simp only [turnsC] at ht'
      obtain ⟨_, S0, hst, ht0⟩ := bnd_ok ht'
      obtain ⟨rfl, hg'⟩ := still_ok hst
      obtain ⟨us, hus, rus⟩ := cell w' hg'
      obtain ⟨v, hv, rv⟩ := rus.get (List.getElem?_eq_getElem hlt)
      refine ⟨⟨us, v, SqL.of hus, hv⟩, fun H'' => xs.length - (i + 1) = xs.length - (i + 1) ∧ i + 1 ≤ xs.length ∧ ∃ G' μ' S' acc vs, Le G1 G' ∧ LeM μ1 μ' ∧ Wd X.K (upd B D (.lst vs)) G0 G' μ' S' H'' ∧ Reps X.K G' μ' vs acc ∧
        turnsC n xs t (fun ρ' acc => M.bnd (evC cf c ρ') fun b => if b = true then M.bnd (mD (evE cf e ρ')) fun d => if acc.length < sizeMax then M.ret (acc ++ [d]) else M.no else M.ret acc) (wipe ρ own) (xs.drop (i + 1)) acc S' = .ok ds S2,
        fun H'' q => ⟨_, by omega, q⟩, fun x H2 hy => ?_⟩
      obtain ⟨rfl, hyx⟩ := hy
      have := hyx us (SqL.of hus)
      rw [hv] at this; cases this
      obtain ⟨ρ1, Sa, hb, ht2⟩ := bnd_ok ht0
      obtain ⟨hbT, rfl⟩ := opt_ok hb
      obtain ⟨acc1, Sb, hbody, ht3⟩ := bnd_ok ht2
      obtain ⟨b, Sc, hcc, hbody⟩ := bnd_ok hbody
      have lG2 : Le G G' := fun a o q => lG _ _ (l1 _ _ q)
      have lM2 : LeM μ μ' := fun n a q => lM _ _ (m1 _ _ q)
      refine gT_keepW hns (gT_ok w'.gh rv ((er.up lG2 lM2).wipe own) hbT fun σ' er1 => ?_)
      refine ⟨_, G0, G', μ', _, ρ1, w', er1, ?_⟩
      rw [hcc]
      intro G3 μ3 H3 l3 m3 w3
      have l13 : Le G1 G3 := fun a o q => l3 _ _ (lG _ _ q)
      have m13 : LeM μ1 μ3 := fun n a q => m3 _ _ (lM _ _ q)
      have r3 : Reps X.K G3 μ3 vs acc := r'.up l3 m3
      show if b = true then _ else _
      split
      · rename_i hbt
        rw [if_pos hbt] at hbody
        obtain ⟨d, Sd, hd, hbody⟩ := bnd_ok hbody
        refine tE_of w3 (er1.up l3 m3) ?_
        rw [hd]
        intro G4 μ4 H4 l4 m4 w4 z rz
        split at hbody
        · rename_i hz
          obtain ⟨rfl, rfl⟩ := ret_ok hbody
          refine ⟨vs, w4.bh _ _ upd_same, by rw [r3.len]; exact hz, rfl, by omega, G4, μ4, _, acc ++ [d], vs ++ [z], fun a o q => l4 _ _ (l13 _ _ q), fun n a q => m4 _ _ (m13 _ _ q), w4.setB g0D, (r3.up l4 m4).app (.cons rz .nil), ht3⟩
        · cases hbody
      · rename_i hbf
        rw [if_neg hbf] at hbody
        obtain ⟨rfl, rfl⟩ := ret_ok hbody
        exact ⟨rfl, by omega, G3, μ3, _, acc, vs, l13, m13, w3, r3, ht3⟩
    · left
      have hie : i = xs.length := by omega
      subst hie
      rw [List.drop_length] at ht'
      simp only [turnsC] at ht'
      obtain ⟨_, S0, hst, ht0⟩ := bnd_ok ht'
      obtain ⟨rfl, hg'⟩ := still_ok hst
      obtain ⟨us, hus, rus⟩ := cell w' hg'
      obtain ⟨rfl, rfl⟩ := ret_ok ht0
      obtain ⟨wd, fv⟩ := w'.dropB bD g0D r'
      refine ⟨⟨us, SqL.of hus, by rw [rus.len]; exact Nat.le_refl _⟩, ?_⟩
      have h2 := h1 G' μ' H' (fun a o q => lG _ _ (l1 _ _ q)) (fun n a q => lM _ _ (m1 _ _ q)) wd
      exact After.now wd h2 _ fv
  | none =>
  rw [hc] at h
  simp only [pick] at h
  obtain ⟨ds, S2, hr, h1⟩ := bare_ok (After.bnd h)
  simp only [evG] at hr
  obtain ⟨xs, S1, hi, ht⟩ := bnd_ok hr
  refine .inl ⟨B, G0, G, μ, S, ρ, w, er, ?_⟩
  rw [hi]
  intro G1 μ1 H1 l1 m1 w1 J wk D hD
  obtain ⟨w1', bD, g0D⟩ := w1.addB (o := .lst []) hD
  refine ⟨fun i m H' => m = xs.length - i ∧ i ≤ xs.length ∧ ∃ G' μ' S' acc vs, Le G1 G' ∧ LeM μ1 μ' ∧ Wd X.K (upd B D (.lst vs)) G0 G' μ' S' H' ∧ Reps X.K G' μ' vs acc ∧
    turns t (fun ρ' acc => M.bnd (evC cf c ρ') fun b => if b = true then M.bnd (mD (evE cf e ρ')) fun d => if acc.length < sizeMax then M.ret (acc ++ [d]) else M.no else M.ret acc) (wipe ρ own) (xs.drop i) acc S' = .ok ds S2,
    ⟨_, rfl, Nat.zero_le _, G1, μ1, S1, [], [], fun _ _ e => e, fun _ _ e => e, w1', .nil, by simpa using ht⟩, ?_⟩
  rintro i m H' ⟨rfl, hi', G', μ', S', acc, vs, lG, lM, w', r', ht'⟩
  have lH : Le G1 H' := fun a o q => w'.gh _ _ (lG _ _ q)
  by_cases hlt : i < xs.length
  · right
    refine ⟨wk.go i H' lH hlt, fun H'' => xs.length - (i + 1) = xs.length - (i + 1) ∧ i + 1 ≤ xs.length ∧ ∃ G' μ' S' acc vs, Le G1 G' ∧ LeM μ1 μ' ∧ Wd X.K (upd B D (.lst vs)) G0 G' μ' S' H'' ∧ Reps X.K G' μ' vs acc ∧
      turns t (fun ρ' acc => M.bnd (evC cf c ρ') fun b => if b = true then M.bnd (mD (evE cf e ρ')) fun d => if acc.length < sizeMax then M.ret (acc ++ [d]) else M.no else M.ret acc) (wipe ρ own) (xs.drop (i + 1)) acc S' = .ok ds S2,
      fun H'' q => ⟨_, by omega, q⟩, fun x H2 hy => ?_⟩
    rw [List.drop_eq_getElem_cons hlt] at ht'
    simp only [turns] at ht'
    obtain ⟨ρ1, Sa, hb, ht2⟩ := bnd_ok ht'
    obtain ⟨hbT, rfl⟩ := opt_ok hb
    obtain ⟨acc1, Sb, hbody, ht3⟩ := bnd_ok ht2
    obtain ⟨b, Sc, hc, hbody⟩ := bnd_ok hbody
    obtain ⟨Gx, lx, wx, rx⟩ := yld_world w' lG lM wk (List.getElem?_eq_getElem hlt) hy
    have lG2 : Le G Gx := fun a o q => lx _ _ (lG _ _ (l1 _ _ q))
    have lM2 : LeM μ μ' := fun n a q => lM _ _ (m1 _ _ q)
    refine gT_keepW hns (gT_ok wx.gh rx ((er.up lG2 lM2).wipe own) hbT fun σ' er1 => ?_)
    refine ⟨_, G0, Gx, μ', _, ρ1, wx, er1, ?_⟩
    rw [hc]
    intro G3 μ3 H3 l3 m3 w3
    have l13 : Le G1 G3 := fun a o q => l3 _ _ (lx _ _ (lG _ _ q))
    have m13 : LeM μ1 μ3 := fun n a q => m3 _ _ (lM _ _ q)
    have r3 : Reps X.K G3 μ3 vs acc := r'.up (fun a o q => l3 _ _ (lx _ _ q)) m3
    show if b = true then _ else _
    split
    · rename_i hbt
      rw [if_pos hbt] at hbody
      obtain ⟨d, Sd, hd, hbody⟩ := bnd_ok hbody
      refine tE_of w3 (er1.up l3 m3) ?_
      rw [hd]
      intro G4 μ4 H4 l4 m4 w4 z rz
      split at hbody
      · rename_i hz
        obtain ⟨rfl, rfl⟩ := ret_ok hbody
        refine ⟨vs, w4.bh _ _ upd_same, by rw [r3.len]; exact hz, rfl, by omega, G4, μ4, _, acc ++ [d], vs ++ [z], fun a o q => l4 _ _ (l13 _ _ q), fun n a q => m4 _ _ (m13 _ _ q), w4.setB g0D, (r3.up l4 m4).app (.cons rz .nil), ht3⟩
      · cases hbody
    · rename_i hbf
      rw [if_neg hbf] at hbody
      obtain ⟨rfl, rfl⟩ := ret_ok hbody
      exact ⟨rfl, by omega, G3, μ3, _, acc, vs, l13, m13, w3, r3, ht3⟩
  · left
    have hie : i = xs.length := by omega
    subst hie
    rw [List.drop_length] at ht'
    simp only [turns] at ht'
    obtain ⟨rfl, rfl⟩ := ret_ok ht'
    obtain ⟨wd, fv⟩ := w'.dropB bD g0D r'
    refine ⟨wk.stop _ H' lH (Nat.le_refl _), ?_⟩
    have h2 := h1 G' μ' H' (fun a o q => lG _ _ (l1 _ _ q)) (fun n a q => lM _ _ (m1 _ _ q)) wd
    exact After.now wd h2 _ fv
theorem t_lc2 {own : List Nat} {it it1 : It} {t t1 : T} {c c1 : Oe} {e : E} {Q : VK} (hns : ∀ i ∈ t.ns, i ∈ own) (h : tE X.K cn cf W (.lc own (.more it t c (.last it1 t1 c1)) e) σ H Q) :
    tLc2 (tI X.K cn cf W it) (gT X.K t) (tC X.K cn cf NoX c) (tI X.K cn cf NoX it1) (gT X.K t1) (tC X.K cn cf NoX c1) (tE X.K cn cf NoX e) own t1.ns σ H Q := by
  obtain ⟨B, G0, G, μ, S, ρ, w, er, h⟩ := h
  simp only [evE] at h
  obtain ⟨ds, S2, hr, h1⟩ := bare_ok (After.bnd h)
  simp only [evG, Gs.tns] at hr
  obtain ⟨xs, S1, hi, ht⟩ := bnd_ok hr
  refine .inl ⟨B, G0, G, μ, S, ρ, w, er, ?_⟩
  rw [hi]
  intro G1 μ1 H1 l1 m1 w1 J wk D hD
  obtain ⟨w1', bD, g0D⟩ := w1.addB (o := .lst []) hD
  generalize hbd1 : (fun ρ' acc => M.bnd (evC cf c1 ρ') fun b => if b = true then M.bnd (mD (evE cf e ρ')) fun d => if acc.length < sizeMax then M.ret (acc ++ [d]) else M.no else M.ret acc : En → List Pe.D → M (List Pe.D)) = bd1 at ht
  generalize hbd : (fun ρ' acc => M.bnd (evC cf c ρ') fun b => if b = true then M.bnd (evI cf it1 ρ') fun xs => turns t1 bd1 (wipe ρ' t1.ns) xs acc else M.ret acc : En → List Pe.D → M (List Pe.D)) = bd at ht
  refine ⟨fun i m H' => m = xs.length - i ∧ i ≤ xs.length ∧ ∃ G' μ' S' acc vs, Le G1 G' ∧ LeM μ1 μ' ∧ Wd X.K (upd B D (.lst vs)) G0 G' μ' S' H' ∧ Reps X.K G' μ' vs acc ∧
    turns t bd (wipe ρ own) (xs.drop i) acc S' = .ok ds S2,
    ⟨_, rfl, Nat.zero_le _, G1, μ1, S1, [], [], fun _ _ e => e, fun _ _ e => e, w1', .nil, by simpa using ht⟩, ?_⟩
  rintro i m H' ⟨rfl, hi', G', μ', S', acc, vs, lG, lM, w', r', ht'⟩
  have lH : Le G1 H' := fun a o q => w'.gh _ _ (lG _ _ q)
  by_cases hlt : i < xs.length
  · right
    refine ⟨wk.go i H' lH hlt, fun H'' => xs.length - (i + 1) = xs.length - (i + 1) ∧ i + 1 ≤ xs.length ∧ ∃ G' μ' S' acc vs, Le G1 G' ∧ LeM μ1 μ' ∧ Wd X.K (upd B D (.lst vs)) G0 G' μ' S' H'' ∧ Reps X.K G' μ' vs acc ∧
      turns t bd (wipe ρ own) (xs.drop (i + 1)) acc S' = .ok ds S2,
      fun H'' q => ⟨_, by omega, q⟩, fun x H2 hy => ?_⟩
    rw [List.drop_eq_getElem_cons hlt] at ht'
    simp only [turns] at ht'
    obtain ⟨ρ1, Sa, hb, ht2⟩ := bnd_ok ht'
    obtain ⟨hbT, rfl⟩ := opt_ok hb
    obtain ⟨acc1, Sb, hbody, ht3⟩ := bnd_ok ht2
    rw [← hbd] at hbody
    obtain ⟨b, Sc, hc, hbody⟩ := bnd_ok hbody
    obtain ⟨Gx, lx, wx, rx⟩ := yld_world w' lG lM wk (List.getElem?_eq_getElem hlt) hy
    have lG2 : Le G Gx := fun a o q => lx _ _ (lG _ _ (l1 _ _ q))
    have lM2 : LeM μ μ' := fun n a q => lM _ _ (m1 _ _ q)
    refine gT_keepW hns (gT_ok wx.gh rx ((er.up lG2 lM2).wipe own) hbT fun σ' er1 => ?_)
    refine ⟨_, G0, Gx, μ', _, ρ1, wx, er1, ?_⟩
    rw [hc]
    intro G3 μ3 H3 l3 m3 w3
    have l13 : Le G1 G3 := fun a o q => l3 _ _ (lx _ _ (lG _ _ q))
    have m13 : LeM μ1 μ3 := fun n a q => m3 _ _ (lM _ _ q)
    have r3 : Reps X.K G3 μ3 vs acc := r'.up (fun a o q => l3 _ _ (lx _ _ q)) m3
    show if b = true then _ else _
    split
    · rename_i hbt
      rw [if_pos hbt] at hbody
      obtain ⟨ys, Sd, hi1, hin⟩ := bnd_ok hbody
      refine .inl ⟨_, G0, G3, μ3, _, ρ1, w3, er1.up l3 m3, ?_⟩
      rw [hi1]
      intro G4 μ4 H4 l4 m4 w4 J1 wk1
      refine ⟨fun j k H' => k = ys.length - j ∧ j ≤ ys.length ∧ ∃ G' μ' S' acc vs, Le G4 G' ∧ LeM μ4 μ' ∧ Wd X.K (upd B D (.lst vs)) G0 G' μ' S' H' ∧ Reps X.K G' μ' vs acc ∧
        turns t1 bd1 (wipe ρ1 t1.ns) (ys.drop j) acc S' = .ok acc1 Sb,
        ⟨_, rfl, Nat.zero_le _, G4, μ4, Sd, acc, vs, fun _ _ e => e, fun _ _ e => e, w4, r3.up l4 m4, by simpa using hin⟩, ?_⟩
      rintro j k H5 ⟨rfl, hj', G5, μ5, S5, acc5, vs5, l5, m5, w5, r5, ht5⟩
      have lH5 : Le G4 H5 := fun a o q => w5.gh _ _ (l5 _ _ q)
      by_cases hlj : j < ys.length
      · right
        refine ⟨wk1.go j H5 lH5 hlj, fun H'' => ys.length - (j + 1) = ys.length - (j + 1) ∧ j + 1 ≤ ys.length ∧ ∃ G' μ' S' acc vs, Le G4 G' ∧ LeM μ4 μ' ∧ Wd X.K (upd B D (.lst vs)) G0 G' μ' S' H'' ∧ Reps X.K G' μ' vs acc ∧
          turns t1 bd1 (wipe ρ1 t1.ns) (ys.drop (j + 1)) acc S' = .ok acc1 Sb,
          fun H'' q => ⟨_, by omega, q⟩, fun y H6 hy1 => ?_⟩
        rw [List.drop_eq_getElem_cons hlj] at ht5
        simp only [turns] at ht5
        obtain ⟨ρ2, Se, hb2, ht6⟩ := bnd_ok ht5
        obtain ⟨hbT2, rfl⟩ := opt_ok hb2
        obtain ⟨acc2, Sf, hbody2, ht7⟩ := bnd_ok ht6
        rw [← hbd1] at hbody2
        obtain ⟨b2, Sg, hc2, hbody2⟩ := bnd_ok hbody2
        obtain ⟨Gy, ly, wy, ry⟩ := yld_world w5 l5 m5 wk1 (List.getElem?_eq_getElem hlj) hy1
        have lGy : Le Gx Gy := fun a o q => ly _ _ (l5 _ _ (l4 _ _ (l3 _ _ q)))
        have lMy : LeM μ' μ5 := fun n a q => m5 _ _ (m4 _ _ (m3 _ _ q))
        refine gT_keepW (fun _ h => h) (gT_ok wy.gh ry ((er1.up lGy lMy).wipe t1.ns) hbT2 fun σ2 er2 => ?_)
        refine ⟨_, G0, Gy, μ5, _, ρ2, wy, er2, ?_⟩
        rw [hc2]
        intro G7 μ7 H7 l7 m7 w7
        have l47 : Le G4 G7 := fun a o q => l7 _ _ (ly _ _ (l5 _ _ q))
        have m47 : LeM μ4 μ7 := fun n a q => m7 _ _ (m5 _ _ q)
        have r7 : Reps X.K G7 μ7 vs5 acc5 := r5.up (fun a o q => l7 _ _ (ly _ _ q)) m7
        show if b2 = true then _ else _
        split
        · rename_i hbt2
          rw [if_pos hbt2] at hbody2
          obtain ⟨d, Sh, hd, hbody2⟩ := bnd_ok hbody2
          refine tE_of w7 (er2.up l7 m7) ?_
          rw [hd]
          intro G8 μ8 H8 l8 m8 w8 z rz
          split at hbody2
          · rename_i hz
            obtain ⟨rfl, rfl⟩ := ret_ok hbody2
            refine ⟨vs5, w8.bh _ _ upd_same, by rw [r7.len]; exact hz, rfl, by omega, G8, μ8, _, acc5 ++ [d], vs5 ++ [z], fun a o q => l8 _ _ (l47 _ _ q), fun n a q => m8 _ _ (m47 _ _ q), w8.setB g0D, (r7.up l8 m8).app (.cons rz .nil), ht7⟩
          · cases hbody2
        · rename_i hbf
          rw [if_neg hbf] at hbody2
          obtain ⟨rfl, rfl⟩ := ret_ok hbody2
          exact ⟨rfl, by omega, G7, μ7, _, acc5, vs5, l47, m47, w7, r7, ht7⟩
      · left
        have hje : j = ys.length := by omega
        subst hje
        rw [List.drop_length] at ht5
        simp only [turns] at ht5
        obtain ⟨rfl, rfl⟩ := ret_ok ht5
        exact ⟨wk1.stop _ H5 lH5 (Nat.le_refl _), rfl, by omega, G5, μ5, _, acc5, vs5, fun a o q => l5 _ _ (l4 _ _ (l13 _ _ q)), fun n a q => m5 _ _ (m4 _ _ (m13 _ _ q)), w5, r5, ht3⟩
    · rename_i hbf
      rw [if_neg hbf] at hbody
      obtain ⟨rfl, rfl⟩ := ret_ok hbody
      exact ⟨rfl, by omega, G3, μ3, _, acc, vs, l13, m13, w3, r3, ht3⟩
  · left
    have hie : i = xs.length := by omega
    subst hie
    rw [List.drop_length] at ht'
    simp only [turns] at ht'
    obtain ⟨rfl, rfl⟩ := ret_ok ht'
    obtain ⟨wd, fv⟩ := w'.dropB bD g0D r'
    refine ⟨wk.stop _ H' lH (Nat.le_refl _), ?_⟩
    have h2 := h1 G' μ' H' (fun a o q => lG _ _ (l1 _ _ q)) (fun n a q => lM _ _ (m1 _ _ q)) wd
    exact After.now wd h2 _ fv
end
end Pe
set_option Elab.async false
set_option linter.all false
set_option maxRecDepth 100000
set_option maxHeartbeats 8000000
namespace Pe
open PySem PySem.Spec PyProof.Rows L2
/-- a new empty set -/
def set0 (w : World) : Obj := { cls := .type "set", dict := none, data := .set #[] 0 (.fresh 0 0 (!w.params.followText "set-order")) }
section
variable {P : Program} {w : World} {A : Around} {E : Value → Shared → Prop} {s : Shared}
theorem made0 {v : Value} {Q : Value → Shared → Prop} (k : Q (.ref s.heap.objs.size) { s with heap := s.heap.push (set0 w) }) : codeAny (model P w) A (.call (.builtin "set.__new__") ⟨[.type "set", v], []⟩) (wants Q E) s := code_set_led1 v k
/-- set(a list of ints) -/
theorem set_listI {l : Addr} {xs : Array Value} (ns : List Int) {Q : Value → Shared → Prop} (h0 : A.handled = none) (il : s.heap.IsList l xs) (ia : IntsAre xs.toList ns) (hz : ns.length + 1 < scanBound)
    (k : ∀ (h' : Heap) (tk c : Nat), SetR w h' s.heap.objs.size (fun j => decide (j ∈ ns)) c → c ≤ ns.length → (∀ b o, s.heap.get? b = some o → h'.get? b = some o) → Q (.ref s.heap.objs.size) { s with heap := h', toks := tk }) :
    wpAny (model P w) A (call (.type "set") [.ref l]) Q E s := by
  have hx : xs.size = ns.length := by
    have := IntsAre.length ia
    rwa [Array.length_toList] at this
  obtain ⟨mc, mt, mro⟩ := F.called_set.mro
  have f1 := F.called_set.made
  have f2 := F.called_set.sub
  refine wpAny_call (codeAny_of_tree ?_)
  show wpAny _ _ (callAny (.type "set") _) _ _ _
  refine wpAny_pure ⟨Code.quiet_builtin _ (by decide +kernel), codeAny_builtin F.entry_type_call ?_⟩
  rw [Around.under_plain (weight_type_call_type "set" [.ref l] []) rfl]
  have f3 := F.called_set.notType
  have f4 := F.called_set.canCreate
  have f5 := F.typeCall_set_1 (.ref l)
  repeat (any_goals (first | assumption | wp_step))
  refine codeAny_mono (made0 (v := .ref l) (E := E) (Q := fun u s1 => u = .ref s.heap.objs.size ∧ s1 = { s with heap := s.heap.push (set0 w) }) ⟨rfl, rfl⟩) fun r s1 hr => ?_
  cases r with
  | error e => exact hr
  | ok fl =>
    cases fl with
    | ret u =>
      obtain ⟨rfl, rfl⟩ := hr
      have g0 : (s.heap.push (set0 w)).get? s.heap.objs.size = some (set0 w) := Heap.get?_push_size _ rfl
      have ty : Shared.TypeIs { s with heap := s.heap.push (set0 w) } (.ref s.heap.objs.size) "set" := ⟨_, g0, rfl⟩
      have i1 := F.called_set.init.lookup
      have i2 := F.called_set.init.bind (.ref s.heap.objs.size)
      repeat (any_goals (first | assumption | wp_step))
      refine codeAny_mono (codeAny_call_builtin (R := wants (fun r s2 => r = .none ∧ ∃ h' tk c, s2 = { s with heap := h', toks := tk } ∧ SetR w h' s.heap.objs.size (fun j => decide (j ∈ ns)) c ∧ c ≤ ns.length ∧
          (∀ b o, s.heap.get? b = some o → h'.get? b = some o)) E) F.called_set.init.plain F.entry_set_init (check_set_init_1 ty ?_)) fun r2 s2 hr2 => ?_
      · obtain ⟨lo, hlo, lc, ln, ld⟩ := il
        obtain ⟨lcls, ldict, ldata, lslots⟩ := lo
        simp only at lc ld
        subst lc; subst ld
        have hlo' : (s.heap.push (set0 w)).get? l = some { cls := .type "list", dict := ldict, data := .seq xs ln, slots := lslots } := Heap.get?_push_of_some _ hlo
        have t1 := F.sub_list_set
        have t2 := F.sub_list_frozenset
        have t3 : (Value.type "list" == Value.type "dict") = false := by decide
        have il1 : (s.heap.push (set0 w)).IsList l xs := ⟨_, hlo', rfl, ln, rfl⟩
        unfold Builtin.«set.__init__» noKeywords Builtin.Frozenset.updateFrom
        generalize hIt : pyIter = It
        wp_walk
        subst hIt
        refine wpAny_pyIter_list il1 ?_
        refine wpAny_bind (wpAny_runValue ?_)
        have lt : l < s.heap.objs.size := Heap.lt_size hlo
        have h3 : A.in1.in1.in1.handled = none := by simp [h0]
        have ne1 : l ≠ (s.heap.push (set0 w)).objs.size := by
          rw [Heap.size_push]; exact Nat.ne_of_lt (Nat.lt_succ_of_lt lt)
        have ne2 : s.heap.objs.size ∉ [(s.heap.push (set0 w)).objs.size, l] := by
          rw [Heap.size_push]
          simp only [List.mem_cons, List.mem_singleton, List.not_mem_nil, or_false, not_or]
          exact ⟨Nat.ne_of_lt (Nat.lt_succ_self _), Nat.ne_of_gt lt⟩
        have vals : ∀ (i : Nat) (v : Value), xs[i]? = some v → ∃ j t, ns[i]? = some j ∧ v = .int j t := fun i v hv => by
          have hi : i < ns.length := by rw [← hx]; exact (Array.getElem?_eq_some_iff.mp hv).1
          obtain ⟨t, e⟩ := IntsAre.int_at ia i v (by rw [Array.getElem?_toList]; exact hv)
          refine ⟨ns[i], t, List.getElem?_eq_getElem hi, ?_⟩
          rw [e, List.getD_eq_getElem?_getD, List.getElem?_eq_getElem hi] <;> rfl
        refine set_update_ints ((Walks.list h3 _ l ne1 xs).toS) s.heap.objs.size ne2 ns hx hz vals (xs.size - 0) 0 _ (by omega) (Nat.zero_le _)
          ⟨⟨_, Heap.get?_push_size _ rfl, rfl, rfl⟩, (il1.push _)⟩ ?first ?last
        case first =>
          have g1 : ((s.heap.push (set0 w)).push { cls := .type "list_iterator", data := .fields #[.ref l, .int 0 0] }).get? s.heap.objs.size = some (set0 w) := Heap.get?_push_of_some _ g0
          exact ⟨0, Nat.le_refl 0, setR_new_at g1⟩
        case last =>
          intro s' c' hm hc' hS'
          obtain ⟨h', g2, d', tk', os'⟩ := s'
          have eg : g2 = s.gens := hm.gens
          have ed : d' = s.drawn := hm.drawn
          have eo : os' = s.os := hm.os
          subst eg; subst ed; subst eo
          show wpAny _ _ _ _ _ _
          refine wpAny_pure ?_
          show wpAny _ _ (ret Value.none) _ _ _
          rw [hx] at hc'
          refine wpAny_pure ⟨rfl, h', tk', c', rfl, hS', hc', fun b o e => ?_⟩
          have b0 : b < s.heap.objs.size := Heap.lt_size e
          have b1 : b ≠ s.heap.objs.size := Nat.ne_of_lt b0
          have b2 : b ≠ (s.heap.push (set0 w)).objs.size := by
            rw [Heap.size_push]; exact Nat.ne_of_lt (Nat.lt_succ_of_lt b0)
          refine hm.heap b o ?_ (Heap.get?_push_of_some _ (Heap.get?_push_of_some _ e))
          simp only [List.mem_cons, List.mem_singleton, List.not_mem_nil, or_false, not_or]
          exact ⟨b1, b2⟩
      · cases r2 with
        | error e => exact hr2
        | ok fl2 =>
          cases fl2 with
          | ret u =>
            obtain ⟨rfl, h', tk, c', rfl, hS', hc', hk'⟩ := hr2
            repeat (any_goals (first | assumption | wp_step))
            exact k _ _ _ hS' hc' hk'
          | _ => exact hr2.elim
    | _ => exact hr.elim
end
section
variable {X : Cx}
def rSetOfI (K : PySem.W.Frag) (w : World) : List V → Hp → VK → Prop := fun xs H Q => ∃ (l : Addr) (ns : List Int), xs = [V.ref l] ∧ (SqL K H l (ns.map V.int) ∨ SqT K H l (ns.map V.int)) ∧ ns.length < 64 ∧
  ∀ a c, c ≤ ns.length → H a = none → Q (.ref a) (upd H a (SetO w a (fun j => decide (j ∈ ns)) c))
theorem cr_setOfI (hc : X.calm = true) : CallR X (.type "set") (rSetOfI X.K X.w) := by
  intro pins s σ H xs us Q I r h
  obtain ⟨l, ns, rfl, hl, hz, q⟩ := h
  rw [Vals.ref1 r]
  have hn : H s.heap.objs.size = none := I.hok.fresh (Nat.le_refl _)
  rcases hl with hl | hl
  · obtain ⟨its, rv, pl, hs⟩ := I.list hl
    refine set_listI (P := X.prog) (w := X.w) ns (I.ok.hd hc) pl.isList (by simpa using rv.ints) (by unfold scanBound; omega) fun h' tk c R hcn k => ?_
    exact ⟨.ref s.heap.objs.size, upd H s.heap.objs.size (SetO X.w s.heap.objs.size (fun j => decide (j ∈ ns)) c), I.laid (t' := tk) k (Nat.le_refl _) (setO_new R), rfl, q _ c hcn hn⟩
  · obtain ⟨its, rv, pt, _⟩ := I.tuple hl
    refine call_set_tupI (P := X.prog) (w := X.w) ns (I.ok.hd hc) (show s.heap.IsTuple l its.toArray from pt) (by simpa using rv.ints) (by unfold scanBound; omega) fun h' tk c R hcn k => ?_
    exact ⟨.ref s.heap.objs.size, upd H s.heap.objs.size (SetO X.w s.heap.objs.size (fun j => decide (j ∈ ns)) c), I.laid (t' := tk) k (Nat.le_refl _) (setO_new R), rfl, q _ c hcn hn⟩
end
end Pe
set_option Elab.async false
set_option linter.all false
set_option maxRecDepth 100000
set_option maxHeartbeats 4000000
namespace NS
open PySem PySem.Spec PyProof.Rows L2
abbrev N := NestedKey
mutual
/-- no text in it -/
def noTx : N → Bool
  | .none => true
  | .num _ => true
  | .text _ => false
  | .tup ks => noTxs ks
def noTxs : List N → Bool
  | [] => true
  | k :: ks => noTx k && noTxs ks
end
/-- the tuple at b is the key k -/
structure At (h : Heap) (k : N) (b : Addr) : Prop where
  is : NestedIs h k (.ref b)
  dep : k.depth ≤ 8
  ntx : noTx k = true
/-- asked of v, f says r -/
def Says (P : Program) (w : World) (f : Nat → Value → Sem Bool) (r : Bool) (n : Nat) (s : Shared) (v : Value) : Prop :=
  ∀ (A : Around) (E : Value → Shared → Prop) (Q : Bool → Shared → Prop), Q r s → wpAny (model P w) A (f n v) Q E s
section
variable {P : Program} {w : World} {s : Shared}
theorem cls_tup {n : Nat} {b : Addr} {o : Obj} {its : Array Value} {m : Nat} (g : s.heap.get? b = some o) (c : o.cls = .type "tuple") (d : o.data = .seq its m)
    (q : ∀ v ∈ its.toList, Says P w ofAClassStatement false n s v) : Says P w ofAClassStatement false (n + 1) s (.ref b) := fun A E Q fin => by
  have ty : s.TypeIs (.ref b) "tuple" := ⟨o, g, c⟩
  have et : (("tuple" : String) == "tuple") = true := by decide
  unfold ofAClassStatement
  refine wpAny_bind (wpAny_typeOf ty ?_)
  dsimp only
  simp only [et, if_true, Bool.not_true, Bool.false_eq_true, if_false]
  try refine wpAny_bind (wpAny_pure ?_)
  try simp only [Bool.not_true, Bool.false_eq_true, if_false]
  show wpAny (model P w) A (seqItems? (.ref b) >>= _) Q E s
  refine wpAny_bind (wpAny_seqItems g d ?_)
  dsimp only
  refine wpAny_bind ?_
  show wpAny (model P w) A (forIn its _ _) _ E s
  rw [← Array.forIn_toList]
  refine wpAny_forIn_list _ (fun left r s' => r.1 = none ∧ s' = s ∧ ∀ v ∈ left, Says P w ofAClassStatement false n s v) _ ?_ ?_ _ _ ⟨rfl, rfl, q⟩
  · rintro v left r s' ⟨_, rfl, all⟩
    refine wpAny_bind (all v List.mem_cons_self _ _ _ ?_)
    simp only [Bool.false_eq_true, if_false]
    exact wpAny_pure ⟨rfl, rfl, fun u z => all u (List.mem_cons_of_mem _ z)⟩
  · rintro ⟨r1, r2⟩ s' ⟨e, rfl, _⟩
    simp only at e
    subst e
    exact wpAny_pure fin
theorem hb_tup {n : Nat} {b : Addr} {o : Obj} {its : Array Value} {m : Nat} (g : s.heap.get? b = some o) (c : o.cls = .type "tuple") (d : o.data = .seq its m)
    (q : ∀ v ∈ its.toList, Says P w hashByValue true n s v) : Says P w hashByValue true (n + 1) s (.ref b) := fun A E Q fin => by
  have ty : s.TypeIs (.ref b) "tuple" := ⟨o, g, c⟩
  unfold hashByValue
  refine wpAny_bind (wpAny_specialOf ty F.slot_tuple_hash.lookup ?_)
  show wpAny (model P w) A (seqItems? (.ref b) >>= _) Q E s
  refine wpAny_bind (wpAny_seqItems g d ?_)
  refine wpAny_bind ?_
  show wpAny (model P w) A (forIn its _ _) _ E s
  rw [← Array.forIn_toList]
  refine wpAny_forIn_list _ (fun left r s' => r.1 = none ∧ s' = s ∧ ∀ v ∈ left, Says P w hashByValue true n s v) _ ?_ ?_ _ _ ⟨rfl, rfl, q⟩
  · rintro v left r s' ⟨_, rfl, all⟩
    refine wpAny_bind (all v List.mem_cons_self _ _ _ ?_)
    simp only [Bool.not_true, Bool.false_eq_true, if_false]
    exact wpAny_pure ⟨rfl, rfl, fun u z => all u (List.mem_cons_of_mem _ z)⟩
  · rintro ⟨r1, r2⟩ s' ⟨e, rfl, _⟩
    simp only at e
    subst e
    exact wpAny_pure fin
mutual
theorem cls_key : ∀ (k : N) (v : Value) (n : Nat) (s : Shared), NestedIs s.heap k v → k.depth ≤ n → Says P w ofAClassStatement false n s v
  | .none, _, n, s, x, _ => by cases x; intro A E Q q; cases n <;> exact wpAny_pure q
  | .num i, _, n, s, x, _ => by cases x <;> (intro A E Q q; cases n <;> exact wpAny_pure q)
  | .text y, _, n, s, x, _ => by cases x; intro A E Q q; cases n <;> exact wpAny_pure q
  | .tup ks, _, n, s, x, hn => by
    cases x with
    | tup g c d hk =>
      simp only [NestedKey.depth] at hn
      obtain ⟨m, rfl⟩ : ∃ m, n = m + 1 := ⟨n - 1, by omega⟩
      exact cls_tup g c d (cls_keys ks _ m s hk (by omega))
theorem cls_keys : ∀ (ks : List N) (vs : List Value) (n : Nat) (s : Shared), NestedAll s.heap ks vs → NestedKey.depthAll ks ≤ n → ∀ v ∈ vs, Says P w ofAClassStatement false n s v
  | [], _, n, s, x, _, v, z => by cases x; cases z
  | k :: ks, _, n, s, x, hn, v, z => by
    cases x with
    | cons a b =>
      simp only [NestedKey.depthAll] at hn
      rcases List.mem_cons.mp z with e | z
      · rw [e]; exact cls_key k _ n s a (by omega)
      · exact cls_keys ks _ n s b (by omega) v z
end
mutual
theorem hb_key : ∀ (k : N) (v : Value) (n : Nat) (s : Shared), NestedIs s.heap k v → k.depth ≤ n → noTx k = true → Says P w hashByValue true n s v
  | .none, _, n, s, x, _, _ => by cases x; intro A E Q q; cases n <;> exact wpAny_pure q
  | .num i, _, n, s, x, _, _ => by cases x <;> (intro A E Q q; cases n <;> exact wpAny_pure q)
  | .text y, _, n, s, x, _, t => by cases t
  | .tup ks, _, n, s, x, hn, t => by
    cases x with
    | tup g c d hk =>
      simp only [NestedKey.depth] at hn
      obtain ⟨m, rfl⟩ : ∃ m, n = m + 1 := ⟨n - 1, by omega⟩
      exact hb_tup g c d (hb_keys ks _ m s hk (by omega) t)
theorem hb_keys : ∀ (ks : List N) (vs : List Value) (n : Nat) (s : Shared), NestedAll s.heap ks vs → NestedKey.depthAll ks ≤ n → noTxs ks = true → ∀ v ∈ vs, Says P w hashByValue true n s v
  | [], _, n, s, x, _, _, v, z => by cases x; cases z
  | k :: ks, _, n, s, x, hn, t, v, z => by
    cases x with
    | cons a b =>
      simp only [NestedKey.depthAll] at hn
      have t' : noTx k = true ∧ noTxs ks = true := by simpa [noTxs] using t
      rcases List.mem_cons.mp z with e | z
      · rw [e]; exact hb_key k _ n s a (by omega) t'.1
      · exact hb_keys ks _ n s b (by omega) t'.2 v z
end
variable {A : Around} {E : Value → Shared → Prop}
theorem seen_no {k : N} {b : Addr} (hb : At s.heap k b) {Q : Bool → Shared → Prop} (fin : Q false s) {ys : List Value} (hy : ∀ y ∈ ys, ∃ k' c, y = Value.ref c ∧ At s.heap k' c) :
    wpAny (model P w) A (searchCouldBeSeen (.ref b) ys) Q E s := by
  unfold searchCouldBeSeen
  refine wpAny_bind ?_
  refine wpAny_forIn_list _ (fun left r s' => r.1 = none ∧ s' = s ∧ ∀ y ∈ left, ∃ k' c, y = Value.ref c ∧ At s.heap k' c) _ ?_ ?_ _ _ ⟨rfl, rfl, hy⟩
  · rintro v left r s' ⟨_, rfl, all⟩
    obtain ⟨k', c, rfl, hc⟩ := all v List.mem_cons_self
    have all' : ∀ y ∈ left, ∃ k' c, y = Value.ref c ∧ At s'.heap k' c := fun u z => all u (List.mem_cons_of_mem _ z)
    dsimp only
    by_cases very : (b == c || (carriedByValue (.ref b) && carriedByValue (.ref c))) = true
    · exact wp_if_pos very (wpAny_pure ⟨rfl, rfl, all'⟩)
    · refine wp_if_neg very ?_
      refine wpAny_bind ((nestedKind P w).quiet ⟨hb.is, hb.dep⟩ ?_)
      simp only [Bool.not_true, Bool.false_eq_true, if_false]
      refine wpAny_bind ((nestedKind P w).quiet ⟨hc.is, hc.dep⟩ ?_)
      simp only [Bool.not_true, Bool.false_eq_true, if_false]
      refine wpAny_bind (cls_key k _ 8 s' hb.is hb.dep _ _ _ ?_)
      simp only [Bool.false_eq_true, if_false]
      refine wpAny_bind (cls_key k' _ 8 s' hc.is hc.dep _ _ _ ?_)
      simp only [Bool.false_eq_true, if_false]
      exact wpAny_pure ⟨rfl, rfl, all'⟩
  · rintro ⟨r1, r2⟩ s' ⟨e, rfl, _⟩
    simp only at e
    subst e
    exact wpAny_pure fin
end
abbrev Ent := N × Addr
def ents (w : World) (L : List Ent) : List (Int × Value) := L.map fun p => (p.1.hash w, Value.ref p.2)
structure Tb (w : World) (h : Heap) (a : Addr) (L : List Ent) (es : Array (Int × Value)) (ep : Nat) (t : SetTable) : Prop where
  ob : ∃ o, h.get? a = some o ∧ o.ExactSet ∧ o.data = .set es ep t
  rows : es.toList = ents w L
  tab : TabOk t (L.map fun p => p.1.hash w)
  nd : (L.map (·.1)).Nodup
  keys : ∀ p ∈ L, At h p.1 p.2
  plain : t.plain = true
  led : w.params.followText "set-order" = true ∨ t.led = true
  room : L.length * 5 < t.mask * 3
  few : L.length < 64
/-- the c-th look on the way of a hash -/
def pr (t : SetTable) (H : Int) (c : Nat) : SetTable.Probe := nth t.mask (runAt t.mask (SetTable.bits H % (t.mask + 1)) (SetTable.bits H)) c
theorem pr_add {t : SetTable} {H : Int} (c q : Nat) : nth t.mask (pr t H c) q = pr t H (c + q) := (nth_add t.mask c _ q).symm
theorem pr_j {t : SetTable} {H : Int} (c q : Nat) : (nth t.mask (pr t H c) q).j = way t.mask H (c + q) := congrArg SetTable.Probe.j (pr_add c q)
theorem pr_dummy {t : SetTable} {H : Int} (c : Nat) : (pr t H c).dummy = none := by
  have gen : ∀ (n : Nat) (p : SetTable.Probe), p.dummy = none → (nth t.mask p n).dummy = none := by
    intro n
    induction n with
    | zero => exact fun p z => z
    | succ n ih =>
      refine fun p z => ih (adv t.mask p) ?_
      unfold adv
      split <;> exact z
  exact gen c _ rfl
section
variable {P : Program} {w : World} {A : Around} {E : Value → Shared → Prop} {s : Shared} {a : Addr} {L : List Ent} {es : Array (Int × Value)} {ep : Nat} {t : SetTable}
theorem ents_len {es : Array (Int × Value)} (h : es.toList = ents w L) : es.size = L.length := by
  have := congrArg List.length h
  unfold ents at this
  simpa using this
theorem Tb.size (T : Tb w s.heap a L es ep t) : es.size = L.length := ents_len T.rows
theorem fits_of (h1 : t.place.size = es.size) (h2 : t.dummies = #[]) (h3 : es.size ≤ t.mask) : t.fits es.size = true := by
  unfold SetTable.fits SetTable.fill
  rw [h2, Bool.and_eq_true, beq_iff_eq, decide_eq_true_eq]
  show t.place.size = es.size ∧ t.place.size + 0 ≤ t.mask
  omega
theorem Tb.fits (T : Tb w s.heap a L es ep t) : t.fits es.size = true := by
  have h1 := T.tab.sz
  rw [List.length_map] at h1
  have h2 := T.size
  have h3 := T.room
  exact fits_of (by omega) T.tab.dm (by omega)
theorem ents_at (h : es.toList = ents w L) {i : Nat} {p : Ent} (g : L[i]? = some p) : es[i]? = some (p.1.hash w, Value.ref p.2) := by
  rw [← Array.getElem?_toList, h]
  unfold ents
  rw [List.getElem?_map, g]; rfl
theorem Tb.stays (T : Tb w s.heap a L es ep t) : ¬ t.gaveWay = true := by
  unfold SetTable.gaveWay
  rw [mask_odd T.tab.mok]
  decide
/-- the search for a key, from the c-th look on -/
theorem find (T : Tb w s.heap a L es ep t) {k : N} {b : Addr} (hb : At s.heap k b) (hu : A.units + 8 < cLine) {K : Nat} (kf : K < 10 * SetTable.turns t.mask)
    (free : way t.mask (k.hash w) K ∉ t.place.toList) (full : ∀ c, c < K → way t.mask (k.hash w) c ∈ t.place.toList) {Q : SetFound → Shared → Prop}
    (yes : k ∈ L.map (·.1) → Q (.there none) s) (no : k ∉ L.map (·.1) → Q (.free (way t.mask (k.hash w) K) false) s) :
    ∀ (f c : Nat) (st : Option SetTable.Probe), st.getD (t.probeStart (k.hash w)) = pr t (k.hash w) c → c ≤ K → K - c < f →
      (∀ (i : Nat) p, L[i]? = some p → p.1 = k → ∃ c', c ≤ c' ∧ c' < K ∧ t.place.toList[i]? = some (way t.mask (k.hash w) c')) →
      wpAny (model P w) A (setSearchFrom a (.ref b) (k.hash w) true f st) Q E s := by
  obtain ⟨o, ho, _, hd⟩ := T.ob
  intro f
  induction f with
  | zero => intro c st _ _ z; omega
  | succ f ih =>
    intro c st hst hc hf hre
    rw [setSearchFrom_succ]
    refine wpAny_bind (wpAny_setState_of ho hd T.fits ?_)
    dsimp only
    refine wp_if_neg T.stays ?_
    try refine wpAny_bind (wpAny_pure ?_)
    have hash_of : ∀ (i : Nat) p, L[i]? = some p → (fun i => (es[i]?.map (·.1)).getD 0) i = p.1.hash w := fun i p hp => by
      show (es[i]?.map (·.1)).getD 0 = _
      rw [ents_at T.rows hp]; rfl
    rcases go_spec t T.tab.ris T.tab.dm (fun i => (es[i]?.map (·.1)).getD 0) (k.hash w) (10 * SetTable.turns t.mask) (K - c) (pr t (k.hash w) c) (pr_dummy c) (by omega)
        (fun q hq => by rw [pr_j]; exact full (c + q) (by omega)) (by rw [pr_j, show c + (K - c) = K by omega]; exact free) with ⟨q, i, hq, hi, _, hno, met⟩ | ⟨hno, met⟩
    · have met' : t.probe (fun i => (es[i]?.map (·.1)).getD 0) (k.hash w) (st.getD (t.probeStart (k.hash w))) = some (.candidate (way t.mask (k.hash w) (c + q)) i (pr t (k.hash w) (c + (q + 1)))) := by
        rw [hst, ← pr_j, ← pr_add]
        exact met
      rw [met']
      dsimp only
      rw [pr_j] at hi
      have il : i < L.length := by
        have h1 : i < t.place.toList.length := (List.getElem?_eq_some_iff.mp hi).1
        have h2 := T.tab.sz
        rw [List.length_map] at h2
        rw [Array.length_toList] at h1
        omega
      obtain ⟨p, hp⟩ : ∃ p, L[i]? = some p := ⟨_, List.getElem?_eq_getElem il⟩
      have pm : p ∈ L := List.mem_of_getElem? hp
      have rest : wpAny (model P w) A (searchRest a (.ref b) (k.hash w) true f es t (way t.mask (k.hash w) (c + q)) i (pr t (k.hash w) (c + (q + 1)))) Q E s := by
        unfold searchRest
        rw [ents_at T.rows hp]
        dsimp only
        refine wpAny_bind (wpAny_holding ((nestedKind P w).eqBool hu ⟨(T.keys p pm).is, (T.keys p pm).dep⟩ ⟨hb.is, hb.dep⟩ ?_))
        refine wpAny_bind (wpAny_setState_of ho hd T.fits ?_)
        dsimp only
        by_cases same : p.1 = k
        · exact wp_if_pos (by simp [same]) (wpAny_pure (yes (List.mem_map.mpr ⟨p, pm, same⟩)))
        · refine wp_if_neg (by simp [same]) ?_
          try refine wpAny_bind (wpAny_pure ?_)
          rw [sameMem]
          dsimp only
          have sl : t.slot (way t.mask (k.hash w) (c + q)) = .live i := slot_live T.tab.ris hi
          simp only [if_true, sl, ents_at T.rows hp]
          refine wpAny_bind (wpAny_isSame_ref_self (wpAny_bind (wpAny_pure ?_)))
          simp only [if_true]
          refine wp_if_neg (by simp [same]) ?_
          refine ih (c + (q + 1)) _ rfl (by omega) (by omega) fun i0 p0 h0 e0 => ?_
          obtain ⟨c', a1, a2, a3⟩ := hre i0 p0 h0 e0
          have far : ¬ c' < c + q := fun z => by
            refine hno (c' - c) i0 (by omega) (by rw [pr_j, show c + (c' - c) = c' by omega]; exact a3) ?_
            exact (hash_of i0 p0 h0).trans (by rw [e0])
          have other : c' ≠ c + q := fun z => by
            rw [z] at a3
            have s0 := slot_live T.tab.ris a3
            rw [sl] at s0
            injection s0 with s0
            rw [← s0, hp] at h0
            exact same ((congrArg Prod.fst (Option.some.inj h0)).trans e0)
          exact ⟨c', by omega, a2, a3⟩
      by_cases ld : t.led = true
      · refine wp_if_neg (by simp [ld]) ?_
        try refine wpAny_bind (wpAny_pure ?_)
        exact rest
      · refine wp_if_pos (by simp [ld]) ?_
        refine wpAny_bind (seen_no hb ?_ fun y hy => ?_)
        · refine wp_if_neg (by decide) ?_
          try refine wpAny_bind (wpAny_pure ?_)
          exact rest
        · obtain ⟨e, he, ee⟩ := List.mem_map.mp hy
          have z1 : e ∈ es ∧ e.1 = k.hash w := by simpa using he
          have z2 : e ∈ es.toList := by simpa using z1.1
          rw [T.rows] at z2
          obtain ⟨p2, m2, e2⟩ := List.mem_map.mp z2
          exact ⟨p2.1, p2.2, by rw [← ee, ← e2], T.keys p2 m2⟩
    · have met' : t.probe (fun i => (es[i]?.map (·.1)).getD 0) (k.hash w) (st.getD (t.probeStart (k.hash w))) = some (.empty (way t.mask (k.hash w) K) none) := by
        have e2 : way t.mask (k.hash w) K = (nth t.mask (pr t (k.hash w) c) (K - c)).j := by
          rw [pr_j, show c + (K - c) = K by omega]
        rw [hst, e2]
        exact met
      rw [met']
      dsimp only
      refine wpAny_pure (no fun m => ?_)
      obtain ⟨p0, h0, e0⟩ := List.mem_map.mp m
      obtain ⟨i0, li, g0⟩ := List.getElem_of_mem h0
      have h00 : L[i0]? = some p0 := by rw [List.getElem?_eq_getElem li, g0]
      obtain ⟨c', a1, a2, a3⟩ := hre i0 p0 h00 e0
      exact hno (c' - c) i0 (by omega) (by rw [pr_j, show c + (c' - c) = c' by omega]; exact a3) ((hash_of i0 p0 h00).trans (by rw [e0]))
theorem find_add (T : Tb w s.heap a L es ep t) {k : N} {b : Addr} (hb : At s.heap k b) (hu : A.units + 8 < cLine) {Q : SetFound → Shared → Prop}
    (yes : k ∈ L.map (·.1) → Q (.there none) s)
    (no : ∀ K, k ∉ L.map (·.1) → way t.mask (k.hash w) K ∉ t.place.toList → (∀ c, c < K → way t.mask (k.hash w) c ∈ t.place.toList) → Q (.free (way t.mask (k.hash w) K) false) s) :
    wpAny (model P w) A (setSearch a (.ref b) (k.hash w) true) Q E s := by
  have rm := T.room
  obtain ⟨K, kf, free, full⟩ := T.tab.first (by rw [List.length_map]; omega) (k.hash w)
  have big : 10 * SetTable.turns t.mask ≤ 1420 := by
    unfold SetTable.turns
    rcases T.tab.mok with e | e | e <;> omega
  unfold setSearch
  refine find T hb hu kf free full yes (fun z => no K z free full) 100000 0 none rfl (Nat.zero_le _) (by omega) fun i p hp e => ?_
  have hh : (L.map fun p => p.1.hash w)[i]? = some (k.hash w) := by rw [List.getElem?_map, hp, ← e]; rfl
  have pl : i < t.place.toList.length := by
    have h1 : i < L.length := (List.getElem?_eq_some_iff.mp hp).1
    have h2 := T.tab.sz
    rw [List.length_map] at h2
    rw [Array.length_toList]
    omega
  have hj := List.getElem?_eq_getElem pl
  obtain ⟨c, hc, ec⟩ := T.tab.before free hh hj
  exact ⟨c, Nat.zero_le _, hc, by rw [hj, ec]⟩
theorem At.but {h h' : Heap} {k : N} {b : Addr} {o : Obj} (x : At h k b) (ho : h.get? a = some o) (hd : o.data = .set es ep t) (sb : Heap.SameBut a h h') : At h' k b :=
  ⟨NestedIs.at (fun c oc vs n hc dc => by
    refine (sb.2 c fun e => ?_).trans hc
    subst e
    rw [ho] at hc
    cases hc
    rw [hd] at dc
    cases dc) k _ x.is, x.dep, x.ntx⟩
theorem At.keep {h h' : Heap} {k : N} {b : Addr} (x : At h k b) (kp : ∀ c o, h.get? c = some o → h'.get? c = some o) : At h' k b :=
  ⟨NestedIs.at (fun c oc vs n hc _ => kp c oc hc) k _ x.is, x.dep, x.ntx⟩
theorem Tb.keep {h h' : Heap} (T : Tb w h a L es ep t) (ka : ∀ o, h.get? a = some o → h'.get? a = some o) (kk : ∀ p ∈ L, At h' p.1 p.2) : Tb w h' a L es ep t := by
  obtain ⟨o, ho, r⟩ := T.ob
  exact ⟨⟨o, ka o ho, r⟩, T.rows, T.tab, T.nd, kk, T.plain, T.led, T.room, T.few⟩
/-- the entries in another order -/
theorem ents_order (order : Array Nat) (hr : es.toList = ents w L) (hp : order.toList.Perm (List.range L.length)) :
    ∃ L2, (order.filterMap (es[·]?)).toList = ents w L2 ∧ L2.Perm L ∧ (L2.map fun p => p.1.hash w) = order.toList.map fun i => (es.map (·.1)).getD i 0 := by
  have each : ∀ l : List Nat, (∀ i ∈ l, i < L.length) → l.filterMap (fun i => es[i]?) = ents w (l.filterMap fun i => L[i]?) ∧ ((l.filterMap fun i => L[i]?).map fun p => p.1.hash w) = l.map fun i => (es.map (·.1)).getD i 0 := by
    intro l
    induction l with
    | nil => exact fun _ => ⟨rfl, rfl⟩
    | cons i l ih =>
      intro hl
      have li := hl i List.mem_cons_self
      obtain ⟨e1, e2⟩ := ih fun j hj => hl j (List.mem_cons_of_mem _ hj)
      have gi : L[i]? = some L[i] := List.getElem?_eq_getElem li
      have ge := ents_at hr gi
      rw [List.filterMap_cons_some gi, List.filterMap_cons_some ge, e1]
      refine ⟨rfl, ?_⟩
      rw [List.map_cons, List.map_cons, e2]
      have e5 : (es.map (·.1))[i]? = some ((L[i]).1.hash w) := by rw [Array.getElem?_map, ge]; rfl
      have e4 : (es.map (·.1)).getD i 0 = (L[i]).1.hash w := by simp [Array.getD_eq_getD_getElem?, e5]
      rw [e4]
  obtain ⟨e1, e2⟩ := each order.toList fun i hi => List.mem_range.mp (hp.mem_iff.mp hi)
  have all : ∀ n, n ≤ L.length → (List.range n).filterMap (fun i => L[i]?) = L.take n := by
    intro n
    induction n with
    | zero => intro _; rfl
    | succ n ih =>
      intro hn
      rw [List.range_succ, List.filterMap_append, ih (by omega), List.take_succ, List.getElem?_eq_getElem (by omega : n < L.length)]
      rw [List.filterMap_cons_some (List.getElem?_eq_getElem (by omega : n < L.length))]; rfl
  have pm : (order.toList.filterMap fun i => L[i]?).Perm L := by
    have := hp.filterMap fun i => L[i]?
    rwa [all L.length (Nat.le_refl _), List.take_length] at this
  exact ⟨_, by rw [Array.toList_filterMap]; exact e1, pm, e2⟩
/-- the table laid anew -/
theorem relay {o : Obj} (ho : s.heap.get? a = some o) (hex : o.ExactSet) (hd : o.data = .set es ep t) (hr : es.toList = ents w L) (hs : t.place.size = es.size) (hdm : t.dummies = #[]) (hle : es.size ≤ t.mask)
    (nd : (L.map (·.1)).Nodup) (keys : ∀ p ∈ L, At s.heap p.1 p.2) (pl : t.plain = true) (ld : w.params.followText "set-order" = true ∨ t.led = true) (few : L.length < 64) {want M : Nat}
    (hw : SetTable.sizeAbove want - 1 = M) (hM : MaskOk M) (hw2 : SetTable.sizeAbove want ≤ 128) (hn : L.length * 5 < M * 3) {Q : Unit → Shared → Prop}
    (fin : ∀ h' L' es' ep' t', Heap.SameBut a s.heap h' → Tb w h' a L' es' ep' t' → L'.Perm L → Q () { s with heap := h' }) : wpAny (model P w) A (setRelay a want) Q E s := by
  have sl := ents_len hr
  obtain ⟨t', order, e, hp, T', em, el, epl, _⟩ := relaid_ok t (hs := es.map (·.1)) (wanted := want) hw hM (by rw [Array.size_map, sl]; omega)
  rw [Array.size_map, sl] at hp
  obtain ⟨L2, r1, r2, r3⟩ := ents_order (es := es) order hr hp
  rw [← r3] at T'
  have s2 : (order.filterMap (es[·]?)).size = es.size := by rw [ents_len r1, r2.length_eq, sl]
  rw [setRelay_eq]
  refine wpAny_bind (wpAny_setState_of ho hd (fits_of hs hdm hle) ?_)
  dsimp only
  refine wp_if_neg (by rw [sizeLine_eq]; omega) ?_
  try refine wpAny_bind (wpAny_pure ?_)
  rw [e]
  dsimp only
  refine wpAny_bind ?_
  refine wp_if_neg (by rw [s2]; simp) ?_
  try refine wpAny_bind (wpAny_pure ?_)
  refine wpAny_pure ?_
  dsimp only
  refine wpAny_storeSet_of ho hd ?_ (by rw [s2, sl, sizeLine_eq]; omega)
  have sb : Heap.SameBut a s.heap (s.heap.update a (Obj.putSet (order.filterMap (es[·]?)) t')) := Heap.SameBut.update ..
  exact fin _ L2 (order.filterMap (es[·]?)) (ep + 1) t' sb ⟨⟨_, store_at ho hd, ⟨hex.1, hex.2.1, hex.2.2⟩, rfl⟩, r1, T', (r2.map (·.1)).nodup_iff.mpr nd, fun p m => (keys p (r2.mem_iff.mp m)).but ho hd sb, by rw [epl]; exact pl,
    by rw [el]; exact ld, by rw [r2.length_eq, em]; exact hn, by rw [r2.length_eq]; exact few⟩ r2
/-- s.add(x) with its hash -/
theorem addH (T : Tb w s.heap a L es ep t) {k : N} {b : Addr} (hb : At s.heap k b) (hu : A.units + 8 < cLine) (few : L.length + 1 < 64) {Q : Bool → Shared → Prop}
    (fin : ∀ r h' L' es' ep' t', Heap.SameBut a s.heap h' → Tb w h' a L' es' ep' t' → (k ∈ L.map (·.1) → L' = L) → (k ∉ L.map (·.1) → L'.Perm ((k, b) :: L)) → Q r { s with heap := h' }) :
    wpAny (model P w) A (setAddHashed a (.ref b) (k.hash w)) Q E s := by
  obtain ⟨o, ho, hex, hd⟩ := T.ob
  have sl := T.size
  have rm := T.room
  unfold setAddHashed
  refine wpAny_holding ?_
  rw [show (100000 : Nat) = 99999 + 1 from rfl, setAddHashedIn_succ]
  refine wpAny_bind (wpAny_setState_of ho hd T.fits ?_)
  dsimp only
  refine wp_if_neg (by simp [byScan, Value.scannable]) ?_
  try refine wpAny_bind (wpAny_pure ?_)
  refine wpAny_bind (find_add T hb hu (fun m => ?_) fun K m free full => ?_)
  · dsimp only
    exact wpAny_pure (fin false s.heap L es ep t (Heap.SameBut.refl a s.heap) T (fun _ => rfl) fun z => absurd m z)
  dsimp only
  refine wpAny_bind (wpAny_setState_of ho hd T.fits ?_)
  dsimp only
  obtain ⟨u1, u2, u3, u4, u5, u6, _, _, u9⟩ := T.tab.put free full
  have pl1 : (t.put (way t.mask (k.hash w) K)).1.plain = true := u6.trans T.plain
  generalize t.put (way t.mask (k.hash w) K) = tp at u1 u3 u4 u5 u6 u9 pl1 ⊢
  obtain ⟨t1, pos⟩ := tp
  dsimp only at u1 u3 u4 u5 u6 u9 pl1 ⊢
  subst u1
  first
    | (refine wpAny_bind ?_; refine wp_if_pos pl1 ?_; refine hb_key k _ 8 s hb.is hb.dep hb.ntx _ _ _ ?_)
    | refine wp_if_pos pl1 (wpAny_bind (hb_key k _ 8 s hb.is hb.dep hb.ntx _ _ _ ?_))
  simp only [if_true]
  have rows1 : (SetTable.insertAt es (SetTable.below t.place (way t.mask (k.hash w) K)) (k.hash w, Value.ref b)).toList = ents w (L.take (SetTable.below t.place (way t.mask (k.hash w) K)) ++ (k, b) :: L.drop (SetTable.below t.place (way t.mask (k.hash w) K))) := by
    rw [SetTable.toList_insertAt, T.rows]
    unfold ents
    rw [List.map_append, List.map_cons, List.map_take, List.map_drop]
  generalize SetTable.below t.place (way t.mask (k.hash w) K) = at1 at u2 u3 rows1 ⊢
  have pm : (L.take at1 ++ (k, b) :: L.drop at1).Perm ((k, b) :: L) := put_perm L at1 (k, b)
  have len1 : (L.take at1 ++ (k, b) :: L.drop at1).length = L.length + 1 := pm.length_eq
  have hs1 : (L.take at1 ++ (k, b) :: L.drop at1).map (fun p => p.1.hash w) = (L.map fun p => p.1.hash w).take at1 ++ k.hash w :: (L.map fun p => p.1.hash w).drop at1 := by
    rw [List.map_append, List.map_cons, List.map_take, List.map_drop]
  rw [← hs1] at u3
  have nd1 : ((L.take at1 ++ (k, b) :: L.drop at1).map (·.1)).Nodup := (pm.map (·.1)).nodup_iff.mpr (List.nodup_cons.mpr ⟨m, T.nd⟩)
  have es1 := ents_len rows1
  rw [len1] at es1
  generalize SetTable.insertAt es at1 (k.hash w, Value.ref b) = ea at rows1 es1 ⊢
  generalize L.take at1 ++ (k, b) :: L.drop at1 = L1 at pm len1 u3 nd1 rows1
  refine wpAny_bind (wpAny_storeSet_of ho hd ?_ (by rw [es1, sizeLine_eq]; omega))
  have sb : Heap.SameBut a s.heap (s.heap.update a (Obj.putSet ea t1)) := Heap.SameBut.update ..
  have ho1 := store_at (es' := ea) (t' := t1) ho hd
  generalize s.heap.update a (Obj.putSet ea t1) = h1 at sb ho1 ⊢
  have keys1 : ∀ p ∈ L1, At h1 p.1 p.2 := fun p hp => by
    rcases List.mem_cons.mp (pm.mem_iff.mp hp) with e | z
    · rw [e]; exact hb.but ho hd sb
    · exact (T.keys p z).but ho hd sb
  have ld1 : w.params.followText "set-order" = true ∨ t1.led = true := by rw [u5]; exact T.led
  by_cases tf : t1.tooFull = true
  · first
      | (refine wpAny_bind ?_; refine wp_if_pos (by simp [tf]) ?_)
      | (refine wp_if_pos (by simp [tf]) ?_; refine wpAny_bind ?_)
    have much : (L.length + 1) * 5 ≥ t1.mask * 3 := by
      have z := tf
      unfold SetTable.tooFull at z
      rw [decide_eq_true_eq, u9, List.length_map] at z
      exact z
    rw [sl]
    have ps : t1.place.size = ea.size := by
      have z := u3.sz
      rw [List.length_map, len1] at z
      rw [z, es1]
    have which : (t.mask = 7 ∧ L.length = 4) ∨ (t.mask = 31 ∧ L.length = 18) := by
      rcases T.tab.mok with e | e | e
      · left; rw [u4, e] at much; rw [e] at rm; exact ⟨e, by omega⟩
      · right; rw [u4, e] at much; rw [e] at rm; exact ⟨e, by omega⟩
      · exfalso; rw [u4, e] at much; omega
    have anew : ∀ M, SetTable.sizeAbove (SetTable.grown (L.length + 1)) - 1 = M → MaskOk M → SetTable.sizeAbove (SetTable.grown (L.length + 1)) ≤ 128 → (L.length + 1) * 5 < M * 3 →
        wpAny (model P w) A (setRelay a (SetTable.grown (L.length + 1))) (fun _ s' => wpAny (model P w) A (pure true) Q E s') E { s with heap := h1 } := fun M g1 g2 g3 g4 =>
      relay (s := { s with heap := h1 }) ho1 ⟨hex.1, hex.2.1, hex.2.2⟩ rfl rows1 ps u3.dm (by rw [es1, u4]; rcases which with ⟨e, e2⟩ | ⟨e, e2⟩ <;> omega) nd1 keys1 pl1 ld1 (by rw [len1]; exact few) g1 g2 g3 (by rw [len1]; exact g4)
        fun h2 L2 es2 ep2 t2 sb2 T2 pm2 => wpAny_pure (fin true h2 L2 es2 ep2 t2 (sb.trans sb2) T2 (fun z => absurd z m) fun _ => pm2.trans pm)
    rcases which with ⟨_, e2⟩ | ⟨_, e2⟩
    · exact anew 31 (by rw [e2, size_20]) (.inr (.inl rfl)) (by rw [e2, size_20]; decide) (by omega)
    · exact anew 127 (by rw [e2, size_76]) (.inr (.inr rfl)) (by rw [e2, size_76]; decide) (by omega)
  · have less := tf
    unfold SetTable.tooFull at less
    rw [decide_eq_true_eq, u9, List.length_map] at less
    first
      | refine wp_if_neg (by simp [tf]) ?_
      | (refine wpAny_bind ?_; refine wp_if_neg (by simp [tf]) ?_; refine wpAny_pure ?_)
    exact wpAny_pure (fin true h1 L1 ea (ep + 1) t1 sb ⟨⟨_, ho1, ⟨hex.1, hex.2.1, hex.2.2⟩, rfl⟩, rows1, u3, nd1, keys1, pl1, ld1, by rw [len1]; omega, by rw [len1]; exact few⟩ (fun z => absurd z m) fun _ => pm)
end
end NS
set_option Elab.async false
set_option linter.all false
set_option maxRecDepth 100000
set_option maxHeartbeats 4000000
namespace NS
open PySem PySem.Spec PyProof.Rows L2
/-- what came in from the first i items -/
structure In (ks : List Ent) (i : Nat) (L : List Ent) : Prop where
  sub : ∀ p ∈ L, p ∈ ks.take i
  all : ∀ p ∈ ks.take i, p.1 ∈ L.map (·.1)
  len : L.length ≤ i
theorem take_one {α : Type} {l : List α} {i : Nat} {x : α} (h : l[i]? = some x) : l.take (i + 1) = l.take i ++ [x] := by rw [List.take_succ, h]; rfl
theorem In.same {ks L : List Ent} {i : Nat} {x : Ent} (g : In ks i L) (h : ks[i]? = some x) (m : x.1 ∈ L.map (·.1)) : In ks (i + 1) L where
  sub := fun p hp => by rw [take_one h]; exact List.mem_append_left _ (g.sub p hp)
  all := fun p hp => by
    rw [take_one h] at hp
    rcases List.mem_append.mp hp with z | z
    · exact g.all p z
    · rw [List.mem_singleton.mp z]; exact m
  len := Nat.le_succ_of_le g.len
theorem In.more {ks L L' : List Ent} {i : Nat} {x : Ent} (g : In ks i L) (h : ks[i]? = some x) (pm : L'.Perm (x :: L)) : In ks (i + 1) L' where
  sub := fun p hp => by
    rw [take_one h]
    rcases List.mem_cons.mp (pm.mem_iff.mp hp) with e | z
    · rw [e]; simp
    · exact List.mem_append_left _ (g.sub p z)
  all := fun p hp => by
    rw [(pm.map (·.1)).mem_iff, List.map_cons]
    rw [take_one h] at hp
    rcases List.mem_append.mp hp with z | z
    · exact List.mem_cons_of_mem _ (g.all p z)
    · rw [List.mem_singleton.mp z]; exact List.mem_cons_self
  len := by rw [pm.length_eq, List.length_cons]; exact Nat.succ_le_succ g.len
theorem tb_new {w : World} {h : Heap} {a : Addr} (ho : h.get? a = some { cls := .type "set", dict := none, data := .set #[] 0 (.fresh 0 0 (!w.params.followText "set-order")) }) : Tb w h a [] #[] 0 (.fresh 0 0 (!w.params.followText "set-order")) :=
  ⟨⟨_, ho, ⟨rfl, rfl, rfl⟩, rfl⟩, rfl, ⟨List.Pairwise.nil, rfl, rfl, .inl rfl, fun x hx => (by cases hx), fun i h j hi => (by simp at hi)⟩, List.nodup_nil, fun p hp => (by cases hp), rfl,
    (by
      show _ ∨ (!w.params.followText "set-order") = true
      cases w.params.followText "set-order" <;> simp), (by show 0 * 5 < 7 * 3; decide), (by show 0 < 64; decide)⟩
section
variable {P : Program} {w : World} {A : Around} {E : Value → Shared → Prop} {s : Shared}
theorem upd_loop {I : Addr} {fp wr : List Addr} {G : Array GenState → Array GenState → Prop} {n : Nat} {Pv : Nat → Value → Prop} {St : Nat → Shared → Prop} {R : Result → Shared → Prop}
    (W : WalksS P w A.in1 I fp wr G n Pv St) (S : Addr) (sf : S ∉ fp) (ks : List Ent) (few : ks.length < 64) (val : ∀ i v, Pv i v → ∃ p, ks[i]? = some p ∧ v = .ref p.2)
    (h0 : Heap) (hk : ∀ p ∈ ks, At h0 p.1 p.2) (s0 : h0.get? S = none) (w0 : ∀ b ∈ wr, h0.get? b = none) (hn : n = ks.length) (hu : A.in1.units + 8 < cLine) :
    ∀ (j i : Nat) (s : Shared), n - i = j → i ≤ n → St i s → (∀ b o, h0.get? b = some o → s.heap.get? b = some o) → (∃ L es ep t, Tb w s.heap S L es ep t ∧ In ks i L) →
      (∀ s' L es ep t, Moved (S :: wr) G s s' → Tb w s'.heap S L es ep t → In ks n L → (∀ b o, h0.get? b = some o → s'.heap.get? b = some o) → R (.ok (.ret .none)) s') →
      codeAny (model P w) A (.builtin "set.update.loop" ⟨[.ref S, .ref I], []⟩) R s := by
  have sw : S ∉ wr := fun z => sf (W.sub _ z)
  have wsub : ∀ b ∈ wr, b ∈ S :: wr := fun b z => List.mem_cons_of_mem _ z
  have kept : ∀ {s s' : Shared}, Moved wr G s s' → (∀ b o, h0.get? b = some o → s.heap.get? b = some o) → ∀ b o, h0.get? b = some o → s'.heap.get? b = some o := fun mv kp b o e =>
    mv.heap b o (fun z => by rw [w0 b z] at e; cases e) (kp b o e)
  intro j
  induction j with
  | zero =>
    rintro i s hj hi st kp ⟨L, es, ep, t, T, g⟩ fin
    obtain rfl : i = n := by omega
    refine codeAny_builtin F.entry_set_update_loop ?_
    rw [Around.under_plainId F.plain_set_update_loop _]
    show wpAny _ A.in1 (pyNext (.ref I) >>= _) _ _ s
    refine wpAny_bind (W.done s _ _ st fun s' mv => ?_)
    show wpAny _ A.in1 (ret Value.none) _ _ s'
    have kp' := kept mv kp
    exact wpAny_pure (fin s' L es ep t (mv.mono wsub) (T.keep (fun o e => mv.heap S o sw e) fun p hp => (hk p (List.mem_of_mem_take (g.sub p hp))).keep kp') g kp')
  | succ j ih =>
    rintro i s hj hi st kp ⟨L, es, ep, t, T, g⟩ fin
    have lt : i < n := by omega
    refine codeAny_builtin F.entry_set_update_loop ?_
    rw [Around.under_plainId F.plain_set_update_loop _]
    show wpAny _ A.in1 (pyNext (.ref I) >>= _) _ _ s
    refine wpAny_bind (W.item i s _ _ lt st fun v s' pv st' mv => ?_)
    obtain ⟨p, hp, rfl⟩ := val i v pv
    have kp' := kept mv kp
    have T' : Tb w s'.heap S L es ep t := T.keep (fun o e => mv.heap S o sw e) fun q hq => (hk q (List.mem_of_mem_take (g.sub q hq))).keep kp'
    have x : At s'.heap p.1 p.2 := (hk p (List.mem_of_getElem? hp)).keep kp'
    show wpAny _ A.in1 (holding [Value.ref p.2] (setAdd S (.ref p.2)) >>= _) _ _ s'
    refine wpAny_bind (wpAny_holding ?_)
    unfold setAdd
    refine wpAny_holding ?_
    refine wpAny_bind ((nestedKind P w).pyHash hu ⟨x.is, x.dep⟩ ?_)
    refine addH (s := { s' with toks := s'.toks + p.1.draws }) T' x hu (by have := g.len; omega) fun b h' L' es' ep' t' sb T2 c1 c2 => ?_
    have g' : In ks (i + 1) L' := by
      by_cases c : p.1 ∈ L.map (·.1)
      · rw [c1 c]; exact g.same hp c
      · exact g.more hp (c2 c)
    have kp2 : ∀ b o, h0.get? b = some o → h'.get? b = some o := fun b o e => (sb.2 b (fun z => by rw [z, s0] at e; cases e)).trans (kp' b o e)
    refine wpAny_pure ⟨plainId_quiet F.plain_set_update_loop _, ih (i + 1) _ (by omega) lt (W.frame _ s' _ _ st' (Nat.le_add_right _ _) fun b hb o e => ?_) kp2 ⟨L', es', ep', t', T2, g'⟩ fun s2 L2 es2 ep2 t2 mv2 T3 g2 kp3 => ?_⟩
    · rw [sb.2 b (fun z : b = S => sf (by rw [← z]; exact hb))]; exact e
    · refine fin s2 L2 es2 ep2 t2 (Moved.trans W.gtrans ((mv.mono wsub).then_heap (Nat.le_add_right _ _) fun b o hb e => ?_) mv2) T3 g2 kp3
      rw [sb.2 b (fun z : b = S => hb (by rw [z]; exact List.mem_cons_self))]; exact e
/-- a set as it is made -/
abbrev setNew (w : World) : Obj := { cls := .type "set", dict := none, data := .set #[] 0 (.fresh 0 0 (!w.params.followText "set-order")) }
/-- set(xs) -/
theorem call_set {l : Addr} {its : Array Value} (ks : List Ent) {Q : Value → Shared → Prop} (hh : A.handled = none) (hl : s.heap.IsList l its) (hit : its.toList = ks.map fun p => Value.ref p.2)
    (hk : ∀ p ∈ ks, At s.heap p.1 p.2) (few : ks.length < 64) (hu : A.units + 12 < cLine)
    (fin : ∀ (h' : Heap) (tk : Nat) L es ep t, Tb w h' s.heap.objs.size L es ep t → In ks ks.length L → (∀ b o, s.heap.get? b = some o → h'.get? b = some o) → Q (.ref s.heap.objs.size) { s with heap := h', toks := tk }) :
    wpAny (model P w) A (call (.type "set") [.ref l]) Q E s := by
  have isz : its.size = ks.length := by
    have := congrArg List.length hit
    simpa using this
  obtain ⟨c, tl, hmro⟩ := F.called_set.mro
  have f1 := F.called_set.made
  have f2 := F.called_set.sub
  refine wpAny_call (codeAny_of_tree ?_)
  show wpAny _ _ (callAny (.type "set") _) _ _ _
  refine wpAny_pure ⟨Code.quiet_builtin _ (by decide +kernel), codeAny_builtin F.entry_type_call ?_⟩
  rw [Around.under_plain (weight_type_call_type "set" [.ref l] []) rfl]
  have f3 := F.called_set.notType
  have f4 := F.called_set.canCreate
  have f5 := F.typeCall_set_1 (.ref l)
  repeat (any_goals (first | assumption | wp_step))
  refine codeAny_mono (code_set_led1 (.ref l) (E := E) (Q₁ := fun obj s₁ => obj = .ref s.heap.objs.size ∧ s₁ = { s with heap := s.heap.push (setNew w) }) ⟨rfl, rfl⟩) fun r s₁ hr => ?_
  cases r with
  | error e => exact hr
  | ok fl =>
    cases fl with
    | ret obj =>
      obtain ⟨rfl, rfl⟩ := hr
      have hS : (s.heap.push (setNew w)).get? s.heap.objs.size = some (setNew w) := Heap.get?_push_size _ rfl
      have hT : Shared.TypeIs { s with heap := s.heap.push (setNew w) } (.ref s.heap.objs.size) "set" := ⟨_, hS, rfl⟩
      have f6 := F.called_set.init.lookup
      have f7 := F.called_set.init.bind (.ref s.heap.objs.size)
      repeat (any_goals (first | assumption | wp_step))
      refine codeAny_mono (codeAny_call_builtin (R := wants (fun r s₂ => r = .none ∧ ∃ h' tk L es ep t, s₂ = { s with heap := h', toks := tk } ∧ Tb w h' s.heap.objs.size L es ep t ∧ In ks ks.length L ∧
          (∀ b o, s.heap.get? b = some o → h'.get? b = some o)) E) F.called_set.init.plain F.entry_set_init (check_set_init_1 hT ?_)) fun r₂ s₂ hr₂ => ?_
      · obtain ⟨ol, hol, hcl, nl, hdl⟩ := hl
        obtain ⟨ocls, odict, odata, oslots⟩ := ol
        simp only at hcl hdl
        subst hcl; subst hdl
        have hol' : (s.heap.push (setNew w)).get? l = some { cls := .type "list", dict := odict, data := .seq its nl, slots := oslots } := Heap.get?_push_of_some _ hol
        have g1 := F.sub_list_set
        have g2 := F.sub_list_frozenset
        have g3 : (Value.type "list" == Value.type "dict") = false := by decide
        have hl1 : (s.heap.push (setNew w)).IsList l its := ⟨_, hol', rfl, nl, rfl⟩
        unfold Builtin.«set.__init__» noKeywords Builtin.Frozenset.updateFrom
        generalize hPI : pyIter = PI
        wp_walk
        subst hPI
        refine wpAny_pyIter_list hl1 ?_
        refine wpAny_bind (wpAny_runValue ?_)
        have lS : l < s.heap.objs.size := Heap.lt_size hol
        have hh3 : A.in1.in1.in1.handled = none := by simp [hh]
        have neI : l ≠ (s.heap.push (setNew w)).objs.size := Nat.ne_of_lt (by rw [Heap.size_push]; exact Nat.lt_succ_of_lt lS)
        have sF : s.heap.objs.size ∉ [(s.heap.push (setNew w)).objs.size, l] := by
          rw [Heap.size_push]
          simp only [List.mem_cons, List.not_mem_nil, or_false, not_or]
          exact ⟨Nat.ne_of_lt (Nat.lt_succ_self _), (Nat.ne_of_lt lS).symm⟩
        have val : ∀ (i : Nat) (v : Value), its[i]? = some v → ∃ p, ks[i]? = some p ∧ v = .ref p.2 := fun i v hv => by
          have q : its.toList[i]? = some v := by rw [Array.getElem?_toList]; exact hv
          rw [hit, List.getElem?_map] at q
          obtain ⟨p, hp, e⟩ := Option.map_eq_some_iff.mp q
          exact ⟨p, hp, e.symm⟩
        have none_of : ∀ b, s.heap.objs.size ≤ b → s.heap.get? b = none := fun b hb => by
          cases q : s.heap.get? b with
          | none => rfl
          | some o => exact absurd (Heap.lt_size q) (Nat.not_lt.mpr hb)
        refine upd_loop ((Walks.list hh3 _ l neI its).toS) s.heap.objs.size
          sF ks few val s.heap hk (none_of _ (Nat.le_refl _)) (fun b hb => none_of b (by
            rw [List.mem_singleton.mp hb, Heap.size_push]
            exact Nat.le_succ _)) isz (by
            have : A.in1.in1.in1.units = A.units + 3 := rfl
            omega) (its.size - 0) 0 _ (by omega) (Nat.zero_le _)
          ⟨⟨_, Heap.get?_push_size _ rfl, rfl, rfl⟩, (hl1.push _)⟩ (fun b o e => Heap.get?_push_of_some _ (Heap.get?_push_of_some _ e)) ?hS0 ?hR
        case hS0 =>
          exact ⟨[], #[], 0, _, tb_new (Heap.get?_push_of_some _ hS), ⟨fun p hp => (by cases hp), fun p hp => (by simp at hp), Nat.le_refl _⟩⟩
        case hR =>
          intro s' L es ep t mv T' g' kp
          obtain ⟨h', g2, d', tk', os'⟩ := s'
          obtain rfl : g2 = s.gens := mv.gens
          obtain rfl : d' = s.drawn := mv.drawn
          obtain rfl : os' = s.os := mv.os
          show wpAny _ _ _ _ _ _
          refine wpAny_pure ?_
          show wpAny _ _ (ret Value.none) _ _ _
          rw [isz] at g'
          exact wpAny_pure ⟨rfl, h', tk', L, es, ep, t, rfl, T', g', kp⟩
      · cases r₂ with
        | error e => exact hr₂
        | ok fl₂ =>
          cases fl₂ with
          | ret r =>
            obtain ⟨rfl, h', tk, L, es, ep, t, rfl, T', g', kp⟩ := hr₂
            repeat (any_goals (first | assumption | wp_step))
            exact fin _ _ _ _ _ _ T' g' kp
          | _ => exact hr₂.elim
    | _ => exact hr.elim
end
end NS
set_option Elab.async false
set_option linter.all false
set_option maxRecDepth 100000
set_option maxHeartbeats 4000000
namespace NS
open PySem PySem.Spec PyProof.Rows L2 Pe
mutual
/-- the key that data is -/
def toKey : D → N
  | .int i => .num i
  | .tup xs => .tup (toKeys xs)
  | _ => .none
def toKeys : List D → List N
  | [] => []
  | d :: ds => toKey d :: toKeys ds
end
mutual
theorem key_of {h : Heap} : ∀ (n : Nat) (d : D) (v : Value) (as : List Addr), d.nk n = true → Reads h v d.py as → NestedIs h (toKey d) v ∧ (toKey d).depth ≤ n ∧ noTx (toKey d) = true
  | n, .non, v, as, _, r => by
    simp only [D.py] at r
    cases r
    exact ⟨.none, Nat.zero_le _, rfl⟩
  | n, .int i, v, as, _, r => by
    simp only [D.py] at r
    cases r
    exact ⟨.int _ _, Nat.zero_le _, rfl⟩
  | 0, .tup xs, v, as, hk, r => by cases hk
  | n + 1, .tup xs, v, as, hk, r => by
    simp only [D.py] at r
    cases r with
    | tuple h1 h2 h3 h4 =>
      obtain ⟨a, b, c⟩ := keys_of n xs _ _ (by simpa [D.nk] using hk) h4
      refine ⟨.tup h1 h2 h3 a, ?_, c⟩
      show NestedKey.depthAll (toKeys xs) + 1 ≤ n + 1
      omega
  | n, .bl _, _, _, hk, _ => by cases n <;> cases hk
  | n, .str _, _, _, hk, _ => by cases n <;> cases hk
  | n, .lst _, _, _, hk, _ => by cases n <;> cases hk
  | n, .ref _, _, _, hk, _ => by cases n <;> cases hk
  | n, .scr _, _, _, hk, _ => by cases n <;> cases hk
  | n, .dct0, _, _, hk, _ => by cases n <;> cases hk
  | n, .exn _ _ _, _, _, hk, _ => by cases n <;> cases hk
theorem keys_of {h : Heap} : ∀ (n : Nat) (ds : List D) (vs : List Value) (as : List Addr), D.nks n ds = true → ReadsAll h vs (D.pys ds) as → NestedAll h (toKeys ds) vs ∧ NestedKey.depthAll (toKeys ds) ≤ n ∧ noTxs (toKeys ds) = true
  | n, [], vs, as, _, r => by
    simp only [D.pys] at r
    cases r
    exact ⟨.nil, Nat.zero_le _, rfl⟩
  | n, d :: ds, vs, as, hk, r => by
    simp only [D.pys] at r
    have hk : d.nk n = true ∧ D.nks n ds = true := by simpa [D.nks] using hk
    cases r with
    | cons h1 h2 =>
      obtain ⟨a1, a2, a3⟩ := key_of n d _ _ hk.1 h1
      obtain ⟨b1, b2, b3⟩ := keys_of n ds _ _ hk.2 h2
      refine ⟨.cons a1 b1, ?_, ?_⟩
      · show max (toKey d).depth (NestedKey.depthAll (toKeys ds)) ≤ n
        omega
      · show (noTx (toKey d) && noTxs (toKeys ds)) = true
        rw [a3, b3]; rfl
end
mutual
theorem key_inj : ∀ {n : Nat} {a b : D}, a.nk n = true → b.nk n = true → toKey a = toKey b → a = b
  | n, .non, b, _, hb, e => by cases b <;> first | rfl | (cases e; done) | (cases n <;> cases hb)
  | n, .int i, b, _, hb, e => by cases b <;> first | (cases e; rfl) | (cases e; done) | (cases n <;> cases hb)
  | 0, .tup xs, b, ha, _, _ => by cases ha
  | n + 1, .tup xs, b, ha, hb, e => by
    cases b with
    | tup ys =>
      have e' : toKeys xs = toKeys ys := by
        have : (NestedKey.tup (toKeys xs)) = .tup (toKeys ys) := e
        injection this
      rw [keys_inj (n := n) (by simpa [D.nk] using ha) (by simpa [D.nk] using hb) e']
    | non => cases e
    | int _ => cases e
    | _ => cases hb
  | n, .bl _, _, ha, _, _ => by cases n <;> cases ha
  | n, .str _, _, ha, _, _ => by cases n <;> cases ha
  | n, .lst _, _, ha, _, _ => by cases n <;> cases ha
  | n, .ref _, _, ha, _, _ => by cases n <;> cases ha
  | n, .scr _, _, ha, _, _ => by cases n <;> cases ha
  | n, .dct0, _, ha, _, _ => by cases n <;> cases ha
  | n, .exn _ _ _, _, ha, _, _ => by cases n <;> cases ha
theorem keys_inj : ∀ {n : Nat} {a b : List D}, D.nks n a = true → D.nks n b = true → toKeys a = toKeys b → a = b
  | _, [], [], _, _, _ => rfl
  | _, [], _ :: _, _, _, e => by cases e
  | _, _ :: _, [], _, _, e => by cases e
  | n, x :: xs, y :: ys, ha, hb, e => by
    have ha : x.nk n = true ∧ D.nks n xs = true := by simpa [D.nks] using ha
    have hb : y.nk n = true ∧ D.nks n ys = true := by simpa [D.nks] using hb
    have e : toKey x :: toKeys xs = toKey y :: toKeys ys := e
    injection e with e1 e2
    rw [key_inj ha.1 hb.1 e1, keys_inj ha.2 hb.2 e2]
end
mutual
theorem nk_ok : ∀ {n : Nat} {d : D}, d.nk n = true → d.ok n = true
  | n, .non, _ => by cases n <;> rfl
  | n, .int _, _ => by cases n <;> rfl
  | 0, .tup _, h => by cases h
  | n + 1, .tup xs, h => nks_ok (n := n) (ds := xs) h
  | n, .bl _, h => by cases n <;> cases h
  | n, .str _, h => by cases n <;> cases h
  | n, .lst _, h => by cases n <;> cases h
  | n, .ref _, h => by cases n <;> cases h
  | n, .scr _, h => by cases n <;> cases h
  | n, .dct0, h => by cases n <;> cases h
  | n, .exn _ _ _, h => by cases n <;> cases h
theorem nks_ok : ∀ {n : Nat} {ds : List D}, D.nks n ds = true → D.oks n ds = true
  | _, [], _ => rfl
  | n, d :: ds, h => by
    have h : d.nk n = true ∧ D.nks n ds = true := by simpa [D.nks] using h
    show (D.ok n d && D.oks n ds) = true
    rw [nk_ok h.1, nks_ok h.2]; rfl
end
theorem leD_def (a b : D) : leD a b = !PyProof.Rows.lexLt itemOrd (W.keyToks b.py) (W.keyToks a.py) := rfl
theorem leD_total (a b : D) : (leD a b || leD b a) = true := by
  rw [leD_def, leD_def]
  cases h : PyProof.Rows.lexLt itemOrd (W.keyToks b.py) (W.keyToks a.py) with
  | false => rfl
  | true =>
    cases h2 : PyProof.Rows.lexLt itemOrd (W.keyToks a.py) (W.keyToks b.py) with
    | false => rfl
    | true =>
      have := lex_trans _ _ _ h h2
      rw [lex_irrefl] at this
      cases this
theorem leD_trans (a b c : D) (h1 : leD a b = true) (h2 : leD b c = true) : leD a c = true := by
  rw [leD_def] at *
  simp only [Bool.not_eq_eq_eq_not, Bool.not_true] at *
  cases h : PyProof.Rows.lexLt itemOrd (W.keyToks c.py) (W.keyToks a.py) with
  | false => rfl
  | true =>
    rcases lex_negTrans _ (W.keyToks b.py) _ h with z | z
    · rw [z] at h2; cases h2
    · rw [z] at h1; cases h1
theorem leD_eqv {a b : D} (al : W.alike a.py b.py = true) (h1 : leD a b = true) (h2 : leD b a = true) : PyData.eqv a.py b.py = true := by
  rw [leD_def] at *
  simp only [Bool.not_eq_eq_eq_not, Bool.not_true] at *
  have e := lex_total _ _ h1 h2
  cases q : PyData.eqv a.py b.py with
  | true => rfl
  | false =>
    have z := (W.toks_eqv a.py b.py al).2 q [] [Sum.inl 0]
    rw [e, W.lex_pre, lex_irrefl] at z
    exact absurd z (by decide +kernel)
end NS
set_option Elab.async false
set_option linter.all false
set_option maxRecDepth 100000
set_option maxHeartbeats 4000000
namespace NS
open PySem PySem.Spec PyProof.Rows L2 Pe
open PySem.W (EachIs)
mutual
theorem reads_nil {h : Heap} : ∀ (n : Nat) (d : D) (v : Value) (as : List Addr), d.nk n = true → Reads h v d.py as → as = []
  | n, .non, v, as, _, r => by simp only [D.py] at r; cases r; rfl
  | n, .int i, v, as, _, r => by simp only [D.py] at r; cases r; rfl
  | 0, .tup xs, v, as, hk, r => by cases hk
  | n + 1, .tup xs, v, as, hk, r => by
    simp only [D.py] at r
    cases r with
    | tuple h1 h2 h3 h4 => exact reads_nils n xs _ _ (by simpa [D.nk] using hk) h4
  | n, .bl _, _, _, hk, _ => by cases n <;> cases hk
  | n, .str _, _, _, hk, _ => by cases n <;> cases hk
  | n, .lst _, _, _, hk, _ => by cases n <;> cases hk
  | n, .ref _, _, _, hk, _ => by cases n <;> cases hk
  | n, .scr _, _, _, hk, _ => by cases n <;> cases hk
  | n, .dct0, _, _, hk, _ => by cases n <;> cases hk
  | n, .exn _ _ _, _, _, hk, _ => by cases n <;> cases hk
theorem reads_nils {h : Heap} : ∀ (n : Nat) (ds : List D) (vs : List Value) (as : List Addr), D.nks n ds = true → ReadsAll h vs (D.pys ds) as → as = []
  | n, [], vs, as, _, r => by simp only [D.pys] at r; cases r; rfl
  | n, d :: ds, vs, as, hk, r => by
    simp only [D.pys] at r
    have hk : d.nk n = true ∧ D.nks n ds = true := by simpa [D.nks] using hk
    cases r with
    | cons h1 h2 => rw [reads_nil n d _ _ hk.1 h1, reads_nils n ds _ _ hk.2 h2]; rfl
end
/-- the set at a, without the tuples themselves -/
structure Tb0 (w : World) (h : Heap) (a : Addr) (L : List Ent) : Prop where
  ex : ∃ (es : Array (Int × Value)) (ep : Nat) (t : SetTable), (∃ o, h.get? a = some o ∧ o.ExactSet ∧ o.data = .set es ep t) ∧ es.toList = ents w L ∧ TabOk t (L.map fun p => p.1.hash w) ∧ (L.map (·.1)).Nodup ∧ t.plain = true ∧
    (w.params.followText "set-order" = true ∨ t.led = true) ∧ L.length * 5 < t.mask * 3 ∧ L.length < 64
def SetNO (w : World) (a : Addr) (L : List Ent) : HO := .ext fun h => Tb0 w h a L
theorem Tb.zero {w : World} {h : Heap} {a : Addr} {L : List Ent} {es : Array (Int × Value)} {ep : Nat} {t : SetTable} (T : Tb w h a L es ep t) : Tb0 w h a L :=
  ⟨es, ep, t, T.ob, T.rows, T.tab, T.nd, T.plain, T.led, T.room, T.few⟩
theorem setNO_ok {P : Program} {w : World} {H : Hp} {h : Heap} {a : Addr} {L : List Ent} (R : Tb0 w h a L) : ObjOk P w H h a (SetNO w a L) := by
  have ⟨es, ep, t, ⟨o, ho, r⟩, q⟩ := R.ex
  refine ⟨R, ⟨o, ho⟩, fun h1 h2 p kp => ?_⟩
  have ⟨es', ep', t', ⟨o', ho', r'⟩, q'⟩ := Tb0.ex p
  exact ⟨es', ep', t', ⟨o', kp o' ho', r'⟩, q'⟩
/-- data where it lies -/
abbrev Pl := D × Addr
def ent (p : Pl) : Ent := (toKey p.1, p.2)
theorem lift_map {α β : Type} {f : α → β} {ks : List α} : ∀ {L : List β}, (∀ e ∈ L, ∃ p ∈ ks, e = f p) → ∃ L0 : List α, L = L0.map f ∧ ∀ p ∈ L0, p ∈ ks
  | [], _ => ⟨[], rfl, by simp⟩
  | e :: L, h => by
    obtain ⟨p, hp, rfl⟩ := h e List.mem_cons_self
    obtain ⟨L0, rfl, h0⟩ := lift_map (L := L) fun e z => h e (List.mem_cons_of_mem _ z)
    exact ⟨p :: L0, rfl, fun q hq => (List.mem_cons.mp hq).elim (fun z => by rw [z]; exact hp) (h0 q)⟩
theorem perm_lift {α β : Type} {f : α → β} : ∀ {l l' : List β}, l.Perm l' → ∀ m' : List α, l' = m'.map f → ∃ m : List α, l = m.map f ∧ m.Perm m' := by
  intro l l' h
  induction h with
  | nil => intro m' e; exact ⟨[], rfl, by cases m' with | nil => exact .refl _ | cons _ _ => cases e⟩
  | cons x _ ih =>
    intro m' e
    cases m' with
    | nil => cases e
    | cons y m' =>
      simp only [List.map_cons, List.cons.injEq] at e
      obtain ⟨m, e2, p⟩ := ih m' e.2
      exact ⟨y :: m, by rw [List.map_cons, ← e.1, ← e2], p.cons y⟩
  | swap x y l =>
    intro m' e
    match m', e with
    | a :: b :: m', e =>
      simp only [List.map_cons, List.cons.injEq] at e
      exact ⟨b :: a :: m', by rw [List.map_cons, List.map_cons, ← e.1, ← e.2.1, ← e.2.2], .swap a b m'⟩
  | trans _ _ i1 i2 =>
    intro m' e
    obtain ⟨m, e2, p⟩ := i2 m' e
    obtain ⟨m0, e3, p2⟩ := i1 m e2
    exact ⟨m0, e3, p2.trans p⟩
section
variable {X : Cx}
theorem Inv.at {pins : List (Addr × Obj)} {σ : L2.St} {H : Hp} {s : Shared} (I : Inv X pins σ H s) {p : Pl} (h : Dp X.K H (V.ref p.2) p.1.py) (hk : p.1.nk 8 = true) : At s.heap (toKey p.1) p.2 := by
  obtain ⟨as, r⟩ := Dp.reads I _ (V.ref p.2) (Value.ref p.2) h rfl
  obtain ⟨a, b, c⟩ := key_of 8 p.1 _ _ hk r
  exact ⟨a, b, c⟩
theorem vals_pl : ∀ {ks : List Pl} {us : List Value}, Vals (ks.map fun p => V.ref p.2) us → us = ks.map fun p => Value.ref p.2
  | [], _, .nil => rfl
  | p :: ks, _, .cons r t => by
    cases r
    rw [vals_pl t]; rfl
theorem pl_vals : ∀ (ks : List Pl), Vals (ks.map fun p => V.ref p.2) (ks.map fun p => Value.ref p.2)
  | [] => .nil
  | p :: ks => .cons rfl (pl_vals ks)
/-- set(xs), xs a list of nested tuples -/
def rSetN (K : PySem.W.Frag) (w : World) : List V → Hp → VK → Prop := fun xs H Q => ∃ (l : Addr) (ks : List Pl), xs = [V.ref l] ∧ SqL K H l (ks.map fun p => V.ref p.2) ∧ (∀ p ∈ ks, Dp K H (V.ref p.2) p.1.py ∧ p.1.nk 8 = true) ∧ ks.length < 64 ∧
  ∀ a (L : List Pl), H a = none → (∀ p ∈ L, p ∈ ks) → (∀ p ∈ ks, p.1 ∈ L.map (·.1)) → (L.map (·.1)).Nodup → Q (.ref a) (upd H a (SetNO w a (L.map ent)))
theorem cr_setN (hc : X.calm = true) (hu : X.A.units + 64 < cLine) : CallR X (.type "set") (rSetN X.K X.w) := by
  intro pins s σ H xs us Q I r h
  obtain ⟨l, ks, rfl, hl, hk, hf, q⟩ := h
  rw [Vals.ref1 r]
  obtain ⟨its, rv, pl, hz⟩ := I.list hl
  have hn : H s.heap.objs.size = none := I.hok.fresh (Nat.le_refl _)
  refine call_set (P := X.prog) (w := X.w) (ks.map ent) (I.ok.hd hc) pl.isList ?_ (fun e he => ?_) (by rw [List.length_map]; exact hf) (by omega) fun h' tk L es ep t T g kp => ?_
  · have := vals_pl rv
    rw [List.map_map, List.toList_toArray]
    exact this
  · obtain ⟨p, hp, rfl⟩ := List.mem_map.mp he
    exact Inv.at I (hk p hp).1 (hk p hp).2
  · obtain ⟨L0, rfl, h0⟩ := lift_map (f := ent) (ks := ks) (L := L) fun e he => by
      have := List.mem_of_mem_take (g.sub e he)
      obtain ⟨p, hp, rfl⟩ := List.mem_map.mp this
      exact ⟨p, hp, rfl⟩
    refine ⟨.ref s.heap.objs.size, upd H s.heap.objs.size (SetNO X.w s.heap.objs.size (L0.map ent)), I.laid (t' := tk) kp (Nat.le_refl _) (setNO_ok T.zero), rfl, q _ L0 hn h0 (fun p hp => ?_) ?_⟩
    · have := g.all (ent p) (by rw [List.take_of_length_le (Nat.le_refl _)]; exact List.mem_map_of_mem hp)
      rw [List.map_map] at this
      obtain ⟨q, hq, e⟩ := List.mem_map.mp this
      have : q.1 = p.1 := key_inj (hk q (h0 q hq)).2 (hk p hp).2 e
      rw [← this]
      exact List.mem_map_of_mem hq
    · have nd := T.nd
      rw [List.map_map] at nd
      unfold List.Nodup at nd ⊢
      rw [List.pairwise_map] at nd ⊢
      exact nd.imp fun z e => z (by show toKey _ = toKey _; rw [e])
/-- sorted(set) -/
def rSortN (K : PySem.W.Frag) (w : World) : List V → Hp → VK → Prop := fun vs H Q => ∃ (a : Addr) (L : List Pl), vs = [V.ref a] ∧ H a = some (SetNO w a (L.map ent)) ∧ (∀ p ∈ L, Dp K H (V.ref p.2) p.1.py ∧ p.1.nk 8 = true ∧ isTup1 p.1 = true) ∧ allAlike (L.map (·.1)) = true ∧
  ∀ (L' : List Pl) (p : Addr), L'.Perm L → (L'.map (·.1)).Pairwise (fun a b => leD a b = true) → H p = none → Q (.ref p) (upd H p (.lst (L'.map fun q => V.ref q.2)))
theorem each_of_eq : ∀ (bs : List Pl), EachIs (fun v (q : Pl) => v = Value.ref q.2) (bs.map fun q => Value.ref q.2) bs
  | [] => .nil
  | _ :: bs => .cons rfl (each_of_eq bs)
theorem eq_of_each : ∀ {out : List Value} {bs : List Pl}, EachIs (fun v (q : Pl) => v = Value.ref q.2) out bs → out = bs.map fun q => Value.ref q.2
  | _, _, .nil => rfl
  | _, _, .cons h t => by rw [h, eq_of_each t]; rfl
theorem each_reads_pl {h : Heap} {a : Addr} : ∀ {bs : List Pl}, (∀ q ∈ bs, ∃ as, Reads h (Value.ref q.2) q.1.py as ∧ a ∉ as) → EachIs (fun v (q : Pl) => ∃ as, Reads h v q.1.py as ∧ a ∉ as) (bs.map fun q => Value.ref q.2) bs
  | [], _ => .nil
  | b :: bs, h => .cons (h b List.mem_cons_self) (each_reads_pl fun q z => h q (List.mem_cons_of_mem _ z))
theorem cr_sortN (hc : X.calm = true) (hu : X.A.units + 64 < cLine) : CallR X (.builtin "sorted") (rSortN X.K X.w) := by
  intro pins s σ H vs us Q I r h
  obtain ⟨a, L, rfl, ha, hk, hal, q⟩ := h
  have R0 : Tb0 X.w s.heap a (L.map ent) := (I.hok a _ ha).1
  obtain ⟨es, ep, t, ⟨o, ho, hex, hd⟩, hrows, htab, hnd, hpl, hld, hrm, hfew⟩ := R0.ex
  rw [Vals.ref1 r]
  have esz : es.size = L.length := by rw [ents_len hrows, List.length_map]
  rw [List.length_map] at hrm hfew
  have hfits : t.fits es.size = true := by
    have h1 := htab.sz
    rw [List.length_map, List.length_map] at h1
    exact fits_of (by omega) htab.dm (by omega)
  have rds : ∀ p ∈ L, ∃ as, Reads s.heap (Value.ref p.2) p.1.py as ∧ as = [] := fun p hp => by
    obtain ⟨as, rr⟩ := Dp.reads I _ (V.ref p.2) (Value.ref p.2) (hk p hp).1 rfl
    exact ⟨as, rr, reads_nil 8 p.1 _ _ (hk p hp).2.1 rr⟩
  refine Calls.call_function_entry kind_sorted plain_sorted entry_sorted (args_sorted1 _) ?_
  unfold Builtin.«sorted»
  refine wpAny_bind (m := checkCount "sorted" 1 1 _) (wpAny_pure ?_)
  refine wpAny_bind (collect_set (A := X.A.in1) (I.ok.hd hc) ⟨o, ho, hex.1, hd⟩ hfits (by unfold scanBound; omega) htab.ris hld fun s1 vs k1 hz g1 o1 pm => ?_)
  have hes : es.toList.map (·.2) = L.map fun q => Value.ref q.2 := by
    rw [hrows]
    unfold ents
    rw [List.map_map, List.map_map]; rfl
  rw [hes] at pm
  obtain ⟨bs, rfl, pb⟩ := perm_lift (f := fun q : Pl => Value.ref q.2) pm L rfl
  have bl : bs.length = L.length := pb.length_eq
  refine wpAny_bind (wpAny_newList ?_ (by simp only [List.size_toArray, List.length_map]; rw [sizeLine_eq]; omega))
  have hoL : (s1.heap.push (seqObj "list" (bs.map fun q => Value.ref q.2).toArray 0)).get? s1.heap.objs.size = some (seqObj "list" (bs.map fun q => Value.ref q.2).toArray 0) := Heap.get?_push_size _ rfl
  have er := each_reads_pl (h := s1.heap.push (seqObj "list" (bs.map fun q => Value.ref q.2).toArray 0)) (a := s1.heap.objs.size) (bs := bs) fun q hq => by
    obtain ⟨as, rr, e⟩ := rds q (pb.mem_iff.mp hq)
    exact ⟨as, PyProof.Rows.Reads.keeps (fun b u e => Heap.get?_push_of_some _ (k1 b u e)) rr, by rw [e]; simp⟩
  have al' : ∀ p ∈ L, ∀ p' ∈ L, W.alike p.1.py p'.1.py = true := fun p hp p' hp' => by
    unfold allAlike at hal
    rw [List.all_eq_true] at hal
    have := hal p.1 (List.mem_map_of_mem hp)
    rw [List.all_eq_true] at this
    exact this p'.1 (List.mem_map_of_mem hp')
  refine wpAny_bind (wpAny_holding (W.list_sort_data (enc := fun q : Pl => q.1.py) (R := fun v (q : Pl) => v = Value.ref q.2) (s := { s1 with heap := s1.heap.push (seqObj "list" (bs.map fun q => Value.ref q.2).toArray 0) }) hoL (each_of_eq bs) er ?_ (.inl fun d hd => ?_) (by rw [sizeLine_eq]; omega) (fun b hb => ?_) fun out hlen eo => ?_))
  · intro d hd d' hd'
    obtain ⟨b, hb, rfl⟩ := List.mem_map.mp hd
    obtain ⟨b', hb', rfl⟩ := List.mem_map.mp hd'
    exact al' b (pb.mem_iff.mp hb) b' (pb.mem_iff.mp hb')
  · obtain ⟨b, hb, rfl⟩ := List.mem_map.mp hd
    have h1 := (hk b (pb.mem_iff.mp hb)).2.2
    obtain ⟨d, ad⟩ := b
    cases d with
    | tup xs =>
      cases xs with
      | nil => cases h1
      | cons x xs => exact ⟨x.py, D.pys xs, rfl⟩
    | _ => cases h1
  · have := (ok_plain b.1 8 (nk_ok (hk b (pb.mem_iff.mp hb)).2.1)).2
    show X.A.in1.units + 1 + b.1.py.depth < cLine
    have e : X.A.in1.units = X.A.units + 1 := rfl
    omega
  · have eo' := eq_of_each eo
    obtain ⟨c, hc'⟩ := sortedHeap_at (vs := bs.map fun q => Value.ref q.2) (out := out.toArray) hoL
    have pL : (bs.mergeSort (W.dataLe false fun q : Pl => q.1.py)).Perm L := (List.mergeSort_perm _ _).trans pb
    have pw : ((bs.mergeSort (W.dataLe false fun q : Pl => q.1.py)).map (·.1)).Pairwise (fun a b => leD a b = true) := by
      rw [List.pairwise_map]
      exact List.pairwise_mergeSort (le := W.dataLe false fun q : Pl => q.1.py) (fun a b c h1 h2 => leD_trans a.1 b.1 c.1 h1 h2) (fun a b => leD_total a.1 b.1) bs
    have hn : H s1.heap.objs.size = none := I.hok.fresh hz
    have hlen' : ((bs.mergeSort (W.dataLe false fun q : Pl => q.1.py)).map fun q => V.ref q.2).length ≤ sizeLine := by rw [List.length_map, pL.length_eq, sizeLine_eq]; omega
    have kk : ∀ b u, s.heap.get? b = some u → (sortedHeap (s1.heap.push (seqObj "list" (bs.map fun q => Value.ref q.2).toArray 0)) s1.heap.objs.size (bs.map fun q => Value.ref q.2) out.toArray).get? b = some u := fun b u e => by
      have z := k1 b u e
      have hlt := Heap.lt_size z
      rw [sortedHeap_old (Nat.ne_of_lt hlt) (by rw [size_push']; exact Nat.lt_succ_of_lt hlt)]
      exact Heap.get?_push_of_some _ z
    have hv : Vals ((bs.mergeSort (W.dataLe false fun q : Pl => q.1.py)).map fun q => V.ref q.2) out := by rw [eo']; exact pl_vals _
    have J : Inv X pins σ (upd H s1.heap.objs.size (.lst ((bs.mergeSort (W.dataLe false fun q : Pl => q.1.py)).map fun q => V.ref q.2))) { s with heap := sortedHeap (s1.heap.push (seqObj "list" (bs.map fun q => Value.ref q.2).toArray 0)) s1.heap.objs.size (bs.map fun q => Value.ref q.2) out.toArray, gens := s1.gens, drawn := s1.drawn, toks := s1.toks } :=
      I.call (ch := []) (Un.laid kk hz hn) (I.hok.laid kk hz ⟨hlen', out, c, hv, hc'⟩) (by rw [g1]; exact I.bare) (fun _ z => nomatch z)
    refine wpAny_pure ⟨_, rfl, ?_⟩
    have e : ({ s1 with heap := sortedHeap (s1.heap.push (seqObj "list" (bs.map fun q => Value.ref q.2).toArray 0)) s1.heap.objs.size (bs.map fun q => Value.ref q.2) out.toArray } : Shared) = { s with heap := sortedHeap (s1.heap.push (seqObj "list" (bs.map fun q => Value.ref q.2).toArray 0)) s1.heap.objs.size (bs.map fun q => Value.ref q.2) out.toArray, gens := s1.gens, drawn := s1.drawn, toks := s1.toks } := by
      cases s1
      cases s
      cases o1
      rfl
    rw [e]
    exact ⟨.ref s1.heap.objs.size, _, J, rfl, q _ _ pL pw hn⟩
end
end NS
set_option Elab.async false
set_option linter.all false
set_option maxRecDepth 100000
set_option maxHeartbeats 1000000
namespace Pe
open PySem
/-- data without a reference is seen as it is -/
def D.noRef : D → Bool
  | .ref _ => false
  | _ => true
theorem see_noRef {d : D} (h : d.noRef = true) (S : Store) : S.see d = d := by
  cases d <;> first | rfl | cases h
section
variable (cf : Str → List D → M Fv)
/-- e gives v, and changes nothing -/
structure Ev (ρ : En) (e : E) (v : Fv) : Prop where of ::
  at_ : ∀ S, evE cf e ρ S = .ok v S
structure EvEs (ρ : En) (es : Es) (ds : List D) : Prop where of ::
  at_ : ∀ S, evEs cf es ρ S = .ok ds S
structure EvO (ρ : En) (o : Oe) (i : Option Int) : Prop where of ::
  at_ : ∀ S, evO cf o ρ S = .ok i S
structure EvC (ρ : En) (o : Oe) (b : Bool) : Prop where of ::
  at_ : ∀ S, evC cf o ρ S = .ok b S
structure EvI (ρ : En) (it : It) (xs : List D) : Prop where of ::
  at_ : ∀ S, evI cf it ρ S = .ok xs S
/-- a call gives v, and changes nothing -/
structure Cl (f : Str) (ds : List D) (v : Fv) : Prop where of ::
  at_ : ∀ S, cf f ds S = .ok v S
/-- a block runs to its end -/
structure Go (ρ : En) (s : Ss) (f : Fl) (ρ' : En) : Prop where of ::
  at_ : ∀ S, evSs cf s ρ S = .ok (f, ρ') S
structure Go1 (ρ : En) (s : S) (f : Fl) (ρ' : En) : Prop where of ::
  at_ : ∀ St, evS cf s ρ St = .ok (f, ρ') St
end
section
variable {cf : Str → List D → M Fv} {ρ : En}
instance {e : E} {v : Fv} : CoeFun (Ev cf ρ e v) (fun _ => ∀ S, evE cf e ρ S = .ok v S) := ⟨Ev.at_⟩
instance {e : Es} {v : List D} : CoeFun (EvEs cf ρ e v) (fun _ => ∀ S, evEs cf e ρ S = .ok v S) := ⟨EvEs.at_⟩
instance {e : Oe} {v : Option Int} : CoeFun (EvO cf ρ e v) (fun _ => ∀ S, evO cf e ρ S = .ok v S) := ⟨EvO.at_⟩
instance {e : Oe} {v : Bool} : CoeFun (EvC cf ρ e v) (fun _ => ∀ S, evC cf e ρ S = .ok v S) := ⟨EvC.at_⟩
instance {e : It} {v : List D} : CoeFun (EvI cf ρ e v) (fun _ => ∀ S, evI cf e ρ S = .ok v S) := ⟨EvI.at_⟩
instance {f : Str} {ds : List D} {v : Fv} : CoeFun (Cl cf f ds v) (fun _ => ∀ S, cf f ds S = .ok v S) := ⟨Cl.at_⟩
instance {s : Ss} {f : Fl} {ρ' : En} : CoeFun (Go cf ρ s f ρ') (fun _ => ∀ S, evSs cf s ρ S = .ok (f, ρ') S) := ⟨Go.at_⟩
instance {s : Pe.S} {f : Fl} {ρ' : En} : CoeFun (Go1 cf ρ s f ρ') (fun _ => ∀ S, evS cf s ρ S = .ok (f, ρ') S) := ⟨Go1.at_⟩
end
section
variable {cf : Str → List D → M Fv} {ρ : En}
theorem bnd_at {α β : Type} {m : M α} {k : α → M β} {S S' : Store} {a : α} (h : m S = .ok a S') : M.bnd m k S = k a S' := by
  unfold M.bnd; rw [h]
theorem mD_at {m : M Fv} {S S' : Store} {v : Fv} (h : m S = .ok v S') : mD m S = .ok v.d S' := by
  unfold mD; rw [bnd_at h]; rfl
theorem Ev.d {e : E} {v : Fv} (h : Ev cf ρ e v) (S : Store) : mD (evE cf e ρ) S = .ok v.d S := mD_at (h S)
theorem ev_var {i : Nat} {d : D} (h : ρ[i]? = some (some d)) : Ev cf ρ (.var i) (.fz d) := .of fun S => by simp only [evE, h]; rfl
theorem ev_cst {d : D} : Ev cf ρ (.cst d) (.fz d) := .of fun S => by simp only [evE]; rfl
theorem ev_op2 {o : O2} {a b : E} {x y r : Fv} (ha : Ev cf ρ a x) (hb : Ev cf ρ b y) (hx : x.d.noRef = true) (hy : y.d.noRef = true) (h : op2 o x.d y.d = some r) : Ev cf ρ (.op2 o a b) r := .of fun S => by
  simp only [evE]
  rw [bnd_at (ha.d S), bnd_at (hb.d S)]
  show M.opt (op2S S o x.d y.d) S = _
  rw [op2S_of (by rw [see_noRef hx, see_noRef hy]; exact h)]; rfl
theorem ev_op1 {o : O1} {a : E} {x r : Fv} (ha : Ev cf ρ a x) (hx : x.d.noRef = true) (h : op1 o x.d = some r) : Ev cf ρ (.op1 o a) r := .of fun S => by
  simp only [evE]
  rw [bnd_at (ha.d S), see_noRef hx, h]; rfl
theorem ev_and {a b : E} {x r : Fv} {t : Bool} (ha : Ev cf ρ a x) (hx : x.d.noRef = true) (ht : truthy x.d = some t) (h1 : t = true → Ev cf ρ b r) (h2 : t = false → r = .fz x.d) : Ev cf ρ (.and a b) r := .of fun S => by
  simp only [evE]
  rw [bnd_at (ha.d S), see_noRef hx, ht]
  cases t with
  | true => exact h1 rfl S
  | false => rw [h2 rfl]; rfl
theorem ev_or {a b : E} {x r : Fv} {t : Bool} (ha : Ev cf ρ a x) (hx : x.d.noRef = true) (ht : truthy x.d = some t) (h1 : t = false → Ev cf ρ b r) (h2 : t = true → r = .fz x.d) : Ev cf ρ (.or a b) r := .of fun S => by
  simp only [evE]
  rw [bnd_at (ha.d S), see_noRef hx, ht]
  cases t with
  | false => exact h1 rfl S
  | true => rw [h2 rfl]; rfl
theorem ev_ite {c a b : E} {x r : Fv} {t : Bool} (hc : Ev cf ρ c x) (hx : x.d.noRef = true) (ht : truthy x.d = some t) (h1 : t = true → Ev cf ρ a r) (h2 : t = false → Ev cf ρ b r) : Ev cf ρ (.ite c a b) r := .of fun S => by
  simp only [evE]
  rw [bnd_at (hc.d S), see_noRef hx, ht]
  cases t with
  | false => exact h2 rfl S
  | true => exact h1 rfl S
theorem ev_ch2 {o p : O2} {a b c : E} {x y z r : Fv} {t : Bool} (ha : Ev cf ρ a x) (hb : Ev cf ρ b y) (hx : x.d.noRef = true) (hy : y.d.noRef = true) (h : op2 o x.d y.d = some (.fz (.bl t)))
    (h1 : t = true → Ev cf ρ c z ∧ z.d.noRef = true ∧ op2 p y.d z.d = some r) (h2 : t = false → r = .fz (.bl false)) : Ev cf ρ (.ch2 o p a b c) r := .of fun S => by
  simp only [evE]
  rw [bnd_at (ha.d S), bnd_at (hb.d S), see_noRef hx, see_noRef hy, h]
  cases t with
  | false => rw [h2 rfl]; rfl
  | true =>
    obtain ⟨k1, k2, k3⟩ := h1 rfl
    show M.bnd (mD (evE cf c ρ)) _ S = _
    rw [bnd_at (k1.d S), see_noRef hy, see_noRef k2, k3]; rfl
theorem ev_call {f : Str} {es : Es} {ds : List D} {v : Fv} (h : EvEs cf ρ es ds) (hc : Cl cf f ds v) : Ev cf ρ (.call f es) v := .of fun S => by
  simp only [evE]
  rw [bnd_at (h S)]; exact hc S
theorem ev_blt {f : Bf} {es : Es} {ds : List D} {v : Fv} (h : EvEs cf ρ es ds) (hn : ds.all D.noRef = true) (hc : bfO f ds = some v) : Ev cf ρ (.blt f es) v := .of fun S => by
  simp only [evE]
  have e : ds.map S.see = ds := by
    rw [List.map_congr_left (g := id) fun d hd => see_noRef (List.all_eq_true.mp hn d hd) S, List.map_id]
  rw [bnd_at (h S), e, hc]; rfl
theorem ev_tup {es : Es} {ds : List D} (h : EvEs cf ρ es ds) (hl : ds.length ≤ sizeMax) : Ev cf ρ (.tup es) (.fz (.tup ds)) := .of fun S => by
  simp only [evE]
  rw [bnd_at (h S), if_pos hl]; rfl
theorem ev_lst {es : Es} {ds : List D} (h : EvEs cf ρ es ds) (hl : ds.length ≤ sizeMax) : Ev cf ρ (.lst es) (.nw ds) := .of fun S => by
  simp only [evE]
  rw [bnd_at (h S), if_pos hl]; rfl
theorem ev_isi {a : E} {t : Ty} {x : Fv} {b : Bool} (ha : Ev cf ρ a x) (hx : x.d.noRef = true) (h : isiO x.d t = some b) : Ev cf ρ (.isi a t) (.fz (.bl b)) := .of fun S => by
  simp only [evE]
  rw [bnd_at (ha.d S), see_noRef hx, h]; rfl
theorem ev_mix {a b : E} {x y r : Fv} {xs : List D} (ha : Ev cf ρ a x) (hx : x.d = .lst xs) (hb : Ev cf ρ b y) (hy : y.d.noRef = true) (h : bfO .index [.lst xs, y.d] = some r) : Ev cf ρ (.mix a b) r := .of fun S => by
  simp only [evE]
  rw [bnd_at (ha.d S), hx]
  show M.bnd (mD (evE cf b ρ)) _ S = _
  rw [bnd_at (hb.d S), see_noRef hy, h]; rfl
theorem ev_ssr {a : E} {x : Fv} {ds : List D} (ha : Ev cf ρ a x) (hx : x.d.noRef = true) (h : ssrO x.d = some ds) : Ev cf ρ (.ssr a) (.nw ds) := .of fun S => by
  simp only [evE]
  rw [bnd_at (ha.d S), see_noRef hx, h]; rfl
theorem ev_rev {a : E} {x r : Fv} (ha : Ev cf ρ a x) (hx : x.d.noRef = true) (h : revO x.d = some r) : Ev cf ρ (.rev a) r := .of fun S => by
  simp only [evE]
  rw [bnd_at (ha.d S), see_noRef hx, h]; rfl
theorem ev_slc {a : E} {lo hi : Oe} {l h : Option Int} {x r : Fv} (ha : Ev cf ρ a x) (hl : EvO cf ρ lo l) (hh : EvO cf ρ hi h) (hx : x.d.noRef = true) (hr : cutO x.d l h = some r) : Ev cf ρ (.slc a lo hi) r := .of fun S => by
  simp only [evE]
  rw [bnd_at (ha.d S), bnd_at (hl S), bnd_at (hh S), see_noRef hx, hr]; rfl
theorem eo_no : EvO cf ρ .no none := .of fun S => by simp only [evO]; rfl
theorem eo_so {e : E} {i : Int} (h : Ev cf ρ e (.fz (.int i))) : EvO cf ρ (.so e) (some i) := .of fun S => by
  simp only [evO]
  rw [bnd_at (h.d S)]; rfl
theorem es_nil : EvEs cf ρ .nil [] := .of fun S => by simp only [evEs]; rfl
theorem es_cons {e : E} {es : Es} {v : Fv} {ds : List D} (h : Ev cf ρ e v) (hs : EvEs cf ρ es ds) : EvEs cf ρ (.cons false e es) (v.d :: ds) := .of fun S => by
  simp only [evEs]
  rw [bnd_at (h.d S), bnd_at (hs S)]; rfl
theorem es_star {e : E} {es : Es} {v : Fv} {xs ds : List D} (h : Ev cf ρ e v) (hx : v.d = .lst xs ∨ v.d = .tup xs) (hs : EvEs cf ρ es ds) : EvEs cf ρ (.cons true e es) (xs ++ ds) := .of fun S => by
  simp only [evEs]
  rw [bnd_at (h.d S)]
  rcases hx with hx | hx <;> rw [hx] <;> (show M.bnd (evEs cf es ρ) _ S = _) <;> rw [bnd_at (hs S)] <;> rfl
theorem ec_no : EvC cf ρ .no true := .of fun S => by simp only [evC]; rfl
theorem ec_so {e : E} {v : Fv} {b : Bool} (h : Ev cf ρ e v) (hx : v.d.noRef = true) (ht : truthy v.d = some b) : EvC cf ρ (.so e) b := .of fun S => by
  simp only [evC]
  rw [bnd_at (h.d S), see_noRef hx, ht]; rfl
theorem ei_seq {e : E} {v : Fv} {xs : List D} (h : Ev cf ρ e v) (hx : seqO v.d = some xs) : EvI cf ρ (.seq e) xs := .of fun S => by
  simp only [evI]
  rw [bnd_at (h.d S), hx]; rfl
theorem ei_r1 {e : E} {i : Int} {xs : List D} (h : Ev cf ρ e (.fz (.int i))) (hx : rngO 0 i = some xs) : EvI cf ρ (.r1 e) xs := .of fun S => by
  simp only [evI]
  rw [bnd_at (h.d S)]
  show M.opt (rngO 0 i) S = _
  rw [hx]; rfl
theorem ei_enm {e : E} {v : Fv} {xs : List D} (h : Ev cf ρ e v) (hx : enmO v.d = some xs) : EvI cf ρ (.enm e) xs := .of fun S => by
  simp only [evI]
  rw [bnd_at (h.d S), hx]; rfl
/-- turns that change nothing: what each adds -/
theorem turns_ev {t : T} {body : En → List D → M (List D)} {f : D → List D} : ∀ {xs acc : List D} {S : Store}, (∀ x ∈ xs, ∀ acc : List D, acc.length + (f x).length ≤ sizeMax → ∃ ρ', bindT t x ρ = some ρ' ∧ body ρ' acc S = .ok (acc ++ f x) S) → acc.length + (xs.flatMap f).length ≤ sizeMax →
    turns t body ρ xs acc S = .ok (acc ++ xs.flatMap f) S
  | [], acc, S, _, _ => by simp only [turns, List.flatMap_nil, List.append_nil]; rfl
  | x :: r, acc, S, h, hl => by
    rw [List.flatMap_cons, List.length_append] at hl
    obtain ⟨ρ', h1, h2⟩ := h x List.mem_cons_self acc (by omega)
    simp only [turns]
    rw [h1]
    show M.bnd (body ρ' acc) _ S = _
    rw [bnd_at h2, turns_ev (acc := acc ++ f x) (fun y hy => h y (List.mem_cons_of_mem _ hy)) (by rw [List.length_append]; omega), List.flatMap_cons, List.append_assoc]
theorem filter_flat {xs : List D} {p : D → Bool} {g : D → D} : (xs.filter p).map g = xs.flatMap fun x => if p x = true then [g x] else [] := by
  induction xs with
  | nil => rfl
  | cons x r ih =>
    rw [List.filter_cons, List.flatMap_cons]
    cases p x with
    | true => simp [ih]
    | false => simp [ih]
theorem flat_len {xs : List D} {p : D → Bool} {g : D → D} : (xs.flatMap fun x => if p x = true then [g x] else []).length ≤ xs.length := by
  rw [← filter_flat, List.length_map]
  exact List.length_filter_le _ _
/-- [e for t in it if c] -/
theorem ev_lc1 {own : List Nat} {it : It} {t : T} {c : Oe} {e : E} {xs : List D} {p : D → Bool} {g : D → D} (hi : EvI cf ρ it xs)
    (hb : ∀ x ∈ xs, ∃ ρ', bindT t x (wipe ρ own) = some ρ' ∧ EvC cf ρ' c (p x) ∧ (p x = true → ∃ v, Ev cf ρ' e v ∧ v.d = g x)) (hl : xs.length ≤ sizeMax) : Ev cf ρ (.lc own (.last it t c) e) (.nw ((xs.filter p).map g)) := .of fun S => by
  simp only [evE, evI_cell (hi S), pick]
  have q : evG cf (.last it t c) (fun ρ => mD (evE cf e ρ)) ρ (wipe ρ own) [] S = .ok ((xs.filter p).map g) S := by
    simp only [evG]
    rw [bnd_at (hi S), filter_flat]
    refine (turns_ev (f := fun x => if p x = true then [g x] else []) (fun x hx acc ha => ?_) (by
      have := flat_len (xs := xs) (p := p) (g := g)
      simp only [List.length_nil]; omega)).trans (by rw [List.nil_append])
    obtain ⟨ρ', h1, h2, h3⟩ := hb x hx
    refine ⟨ρ', h1, ?_⟩
    rw [bnd_at (h2 S)]
    cases hp : p x with
    | false =>
      simp only [Bool.false_eq_true, if_false, List.append_nil]; rfl
    | true =>
      obtain ⟨v, hv, he⟩ := h3 hp
      simp only [hp, if_true, List.length_singleton] at ha ⊢
      rw [bnd_at (hv.d S), he, if_pos (show acc.length < sizeMax by omega)]; rfl
  have q2 : bareM (evG cf (.last it t c) (fun ρ => mD (evE cf e ρ)) ρ (wipe ρ own) []) S = .ok ((xs.filter p).map g) S := by
    unfold bareM
    rw [q]
  rw [bnd_at q2]; rfl
theorem turns_evT {α : Type} {enc : α → D} {t : T} {body : En → List D → M (List D)} {f : α → List D} : ∀ {xs : List α} {acc : List D} {S : Store}, (∀ x ∈ xs, ∀ acc : List D, acc.length + (f x).length ≤ sizeMax → ∃ ρ', bindT t (enc x) ρ = some ρ' ∧ body ρ' acc S = .ok (acc ++ f x) S) → acc.length + (xs.flatMap f).length ≤ sizeMax →
    turns t body ρ (xs.map enc) acc S = .ok (acc ++ xs.flatMap f) S
  | [], acc, S, _, _ => by simp only [List.map_nil, turns, List.flatMap_nil, List.append_nil]; rfl
  | x :: r, acc, S, h, hl => by
    rw [List.flatMap_cons, List.length_append] at hl
    obtain ⟨ρ', h1, h2⟩ := h x List.mem_cons_self acc (by omega)
    simp only [List.map_cons, turns]
    rw [h1]
    show M.bnd (body ρ' acc) _ S = _
    rw [bnd_at h2, turns_evT (acc := acc ++ f x) (fun y hy => h y (List.mem_cons_of_mem _ hy)) (by rw [List.length_append]; omega), List.flatMap_cons, List.append_assoc]
theorem filter_flatT {α : Type} {xs : List α} {p : α → Bool} {g : α → D} : (xs.filter p).map g = xs.flatMap fun x => if p x = true then [g x] else [] := by
  induction xs with
  | nil => rfl
  | cons x r ih =>
    rw [List.filter_cons, List.flatMap_cons]
    cases p x with
    | true => simp [ih]
    | false => simp [ih]
theorem ev_lcT {α : Type} {enc : α → D} {own : List Nat} {it : It} {t : T} {c : Oe} {e : E} {xs : List α} {p : α → Bool} {g : α → D} (hi : EvI cf ρ it (xs.map enc))
    (hb : ∀ x ∈ xs, ∃ ρ', bindT t (enc x) (wipe ρ own) = some ρ' ∧ EvC cf ρ' c (p x) ∧ (p x = true → ∃ v, Ev cf ρ' e v ∧ v.d = g x)) (hl : xs.length ≤ sizeMax) : Ev cf ρ (.lc own (.last it t c) e) (.nw ((xs.filter p).map g)) := .of fun S => by
  simp only [evE, evI_cell (hi S), pick]
  have hlen : (xs.flatMap fun x => if p x = true then [g x] else []).length ≤ xs.length := by
    rw [← filter_flatT, List.length_map]
    exact List.length_filter_le _ _
  have q : evG cf (.last it t c) (fun ρ => mD (evE cf e ρ)) ρ (wipe ρ own) [] S = .ok ((xs.filter p).map g) S := by
    simp only [evG]
    rw [bnd_at (hi S), filter_flatT]
    refine (turns_evT (f := fun x => if p x = true then [g x] else []) (fun x hx acc ha => ?_) (by simp only [List.length_nil]; omega)).trans (by rw [List.nil_append])
    obtain ⟨ρ', h1, h2, h3⟩ := hb x hx
    refine ⟨ρ', h1, ?_⟩
    rw [bnd_at (h2 S)]
    cases hp : p x with
    | false =>
      simp only [Bool.false_eq_true, if_false, List.append_nil]; rfl
    | true =>
      obtain ⟨v, hv, he⟩ := h3 hp
      simp only [hp, if_true, List.length_singleton] at ha ⊢
      rw [bnd_at (hv.d S), he, if_pos (show acc.length < sizeMax by omega)]; rfl
  have q2 : bareM (evG cf (.last it t c) (fun ρ => mD (evE cf e ρ)) ρ (wipe ρ own) []) S = .ok ((xs.filter p).map g) S := by
    unfold bareM
    rw [q]
  rw [bnd_at q2]; rfl
theorem pures_map {α : Type} {enc : α → D} {xs : List α} (h : ∀ x ∈ xs, (enc x).pure = true) : D.pures (xs.map enc) = true := by
  induction xs with
  | nil => rfl
  | cons x r ih => simp only [List.map_cons, D.pures, h x List.mem_cons_self, ih fun y hy => h y (List.mem_cons_of_mem _ hy), Bool.and_self]
theorem go_nil : Go cf ρ .nil .nx ρ := .of fun S => by simp only [evSs]; rfl
theorem go_nx {s : S} {r : Ss} {f : Fl} {ρ1 ρ2 : En} (h : Go1 cf ρ s .nx ρ1) (hr : Go cf ρ1 r f ρ2) : Go cf ρ (.cons s r) f ρ2 := .of fun S => by
  simp only [evSs]
  rw [bnd_at (h S)]; exact hr S
theorem go_rt {s : S} {r : Ss} {v : Fv} {ρ1 : En} (h : Go1 cf ρ s (.rt v) ρ1) : Go cf ρ (.cons s r) (.rt v) ρ1 := .of fun S => by
  simp only [evSs]
  rw [bnd_at (h S)]; rfl
theorem g_asg {i : Nat} {e : E} {v : Fv} (h : Ev cf ρ e v) : Go1 cf ρ (.asg i e) .nx (ρ.set i (some v.d)) := .of fun S => by
  simp only [evS]
  rw [bnd_at (h.d S)]; rfl
theorem g_ret {e : E} {v : Fv} (h : Ev cf ρ e v) : Go1 cf ρ (.ret e) (.rt v) ρ := .of fun S => by
  simp only [evS]
  rw [bnd_at (h S)]; rfl
theorem g_exp {e : E} {v : Fv} (h : Ev cf ρ e v) : Go1 cf ρ (.exp e) .nx ρ := .of fun S => by
  simp only [evS]
  rw [bnd_at (h S)]; rfl
theorem g_pas : Go1 cf ρ .pas .nx ρ := .of fun S => by simp only [evS]; rfl
theorem g_iff {c : E} {a b : Ss} {x : Fv} {t : Bool} {f : Fl} {ρ' : En} (hc : Ev cf ρ c x) (hx : x.d.noRef = true) (ht : truthy x.d = some t) (h1 : t = true → Go cf ρ a f ρ') (h2 : t = false → Go cf ρ b f ρ') : Go1 cf ρ (.iff c a b) f ρ' := .of fun S => by
  simp only [evS]
  rw [bnd_at (hc.d S), see_noRef hx, ht]
  cases t with
  | true => exact h1 rfl S
  | false => exact h2 rfl S
theorem g_par {ts : List Nat} {es : Es} {ds : List D} {ρ' : En} (h : EvEs cf ρ es ds) (hb : bindAll ts ds ρ = some ρ') : Go1 cf ρ (.par ts es) .nx ρ' := .of fun S => by
  simp only [evS]
  rw [bnd_at (h S), hb]; rfl
theorem g_asu {ts : List Nat} {e : E} {v : Fv} {ds : List D} {ρ' : En} (h : Ev cf ρ e v) (hx : v.d = .tup ds ∨ v.d = .lst ds) (hb : bindAll ts ds ρ = some ρ') : Go1 cf ρ (.asu ts e) .nx ρ' := .of fun S => by
  simp only [evS]
  rw [bnd_at (h.d S)]
  rcases hx with hx | hx <;> rw [hx] <;> (show M.bnd (M.opt (bindAll ts ds ρ)) _ S = _) <;> rw [hb] <;> rfl
/-- a for loop by what each turn does -/
theorem g_fr {t : T} {it : It} {b : Ss} {xs : List D} {f : Fl} {ρ' : En} (hi : EvI cf ρ it xs) (h : ∀ S, loopF t (evSs cf b) xs ρ S = .ok (f, ρ') S) : Go1 cf ρ (.fr t it b) f ρ' := .of fun S => by
  simp only [evS, evI_cell (hi S), pick]
  rw [bnd_at (hi S)]; exact h S
/-- a pure call -/
theorem cl_of {P : Prog} {k : Nat} {f : Str} {d : Def} {ds : List D} {v : Fv} {ρ' : En} (hP : P f = some d) (hr : d.raw = false) (hl : ds.length = d.np) (hp : D.pures ds = true) (hv : v.d.pure = true) (h : Go (evCall P k) (startE d.nn ds) d.body (.rt v) ρ') : Cl (evCall P (k + 1)) f ds v := .of fun S => by
  simp only [evCall, hP, hl, if_true, hr, hp, Bool.not_false, Bool.and_self]
  unfold pureB
  have e : runB (evCall P k) d ds .mt = .ok v .mt := by
    unfold runB
    rw [bnd_at (h .mt)]; rfl
  rw [e]
  simp only [hv, if_true]
theorem cl_nx {P : Prog} {k : Nat} {f : Str} {d : Def} {ds : List D} {ρ' : En} (hP : P f = some d) (hr : d.raw = false) (hl : ds.length = d.np) (hp : D.pures ds = true) (h : Go (evCall P k) (startE d.nn ds) d.body .nx ρ') : Cl (evCall P (k + 1)) f ds (.fz .non) := .of fun S => by
  simp only [evCall, hP, hl, if_true, hr, hp, Bool.not_false, Bool.and_self]
  unfold pureB
  have e : runB (evCall P k) d ds .mt = .ok (.fz .non) .mt := by
    unfold runB
    rw [bnd_at (h .mt)]; rfl
  rw [e]
  rfl
/-- a loop that goes on to its end: what it holds goes by a fold -/
theorem loop_fold {α β : Type} {enc : α → D} {t : T} {body : En → M (Fl × En)} {step : β → α → β} {I : β → En → Prop} : ∀ {xs : List α} {s : β} {ρ : En},
    (∀ s x ρ, x ∈ xs → I s ρ → ∃ ρ1 ρ2, bindT t (enc x) ρ = some ρ1 ∧ (∀ S, body ρ1 S = .ok (.nx, ρ2) S) ∧ I (step s x) ρ2) → I s ρ → ∃ ρ', I (xs.foldl step s) ρ' ∧ ∀ S, loopF t body (xs.map enc) ρ S = .ok (.nx, ρ') S
  | [], s, ρ, _, h => ⟨ρ, h, fun S => by simp only [List.map_nil, loopF]; rfl⟩
  | x :: r, s, ρ, hs, h => by
    obtain ⟨ρ1, ρ2, h1, h2, h3⟩ := hs s x ρ List.mem_cons_self h
    obtain ⟨ρ', h4, h5⟩ := loop_fold (xs := r) (fun s y ρ hy hi => hs s y ρ (List.mem_cons_of_mem _ hy) hi) h3
    refine ⟨ρ', h4, fun S => ?_⟩
    simp only [List.map_cons, loopF]
    rw [h1]
    show M.bnd (body ρ1) _ S = _
    rw [bnd_at (h2 S)]
    exact h5 S
end
end Pe
set_option Elab.async false
set_option linter.all false
set_option maxRecDepth 100000
set_option maxHeartbeats 1000000
namespace Pe
open PySem
/-- from fuel d on a call gives v, and changes nothing -/
def Fn (P : Prog) (d : Nat) (f : Str) (ds : List D) (v : Fv) : Prop := ∀ k, d ≤ k → Cl (evCall P k) f ds v
theorem Fn.up {P : Prog} {d d' : Nat} {f : Str} {ds : List D} {v : Fv} (h : Fn P d f ds v) (hd : d ≤ d') : Fn P d' f ds v := fun k hk => h k (Nat.le_trans hd hk)
theorem Fn.at {P : Prog} {d k : Nat} {f : Str} {ds : List D} {v : Fv} (h : Fn P d f ds v) (hk : d ≤ k) : Cl (evCall P k) f ds v := h k hk
/-- a block ends in f -/
def GoR (cf : Str → List D → M Fv) (ρ : En) (s : Ss) (f : Fl) : Prop := ∃ ρ', Go cf ρ s f ρ'
section
variable {cf : Str → List D → M Fv} {ρ : En}
theorem gr_nil : GoR cf ρ .nil .nx := ⟨ρ, go_nil⟩
theorem gr_nx {s : S} {r : Ss} {f : Fl} {ρ1 : En} (h : Go1 cf ρ s .nx ρ1) (hr : GoR cf ρ1 r f) : GoR cf ρ (.cons s r) f := by
  obtain ⟨ρ', hr⟩ := hr
  exact ⟨ρ', go_nx h hr⟩
theorem gr_rt {s : S} {r : Ss} {v : Fv} {ρ1 : En} (h : Go1 cf ρ s (.rt v) ρ1) : GoR cf ρ (.cons s r) (.rt v) := ⟨ρ1, go_rt h⟩
theorem gr_asg {i : Nat} {e : E} {v : Fv} {r : Ss} {f : Fl} (h : Ev cf ρ e v) (hr : GoR cf (ρ.set i (some v.d)) r f) : GoR cf ρ (.cons (.asg i e) r) f := gr_nx (g_asg h) hr
theorem gr_exp {e : E} {v : Fv} {r : Ss} {f : Fl} (h : Ev cf ρ e v) (hr : GoR cf ρ r f) : GoR cf ρ (.cons (.exp e) r) f := gr_nx (g_exp h) hr
theorem gr_ret {e : E} {v : Fv} {r : Ss} (h : Ev cf ρ e v) : GoR cf ρ (.cons (.ret e) r) (.rt v) := gr_rt (g_ret h)
theorem gr_iffF {c : E} {a r : Ss} {p : Bool} {f : Fl} (hc : Ev cf ρ c (.fz (.bl p))) (hp : p = false) (h : GoR cf ρ r f) : GoR cf ρ (.cons (.iff c a .nil) r) f :=
  gr_nx (g_iff (t := p) hc rfl rfl (fun q => by rw [hp] at q; cases q) fun _ => go_nil) h
theorem gr_iffT {c : E} {a b r : Ss} {p : Bool} {v : Fv} (hc : Ev cf ρ c (.fz (.bl p))) (hp : p = true) (h : GoR cf ρ a (.rt v)) : GoR cf ρ (.cons (.iff c a b) r) (.rt v) := by
  obtain ⟨ρ', h⟩ := h
  exact gr_rt (g_iff (t := p) hc rfl rfl (fun _ => h) fun q => by rw [hp] at q; cases q)
theorem gr_asu {ts : List Nat} {e : E} {v : Fv} {ds : List D} {ρ' : En} {r : Ss} {f : Fl} (h : Ev cf ρ e v) (hx : v.d = .tup ds ∨ v.d = .lst ds) (hb : bindAll ts ds ρ = some ρ') (hr : GoR cf ρ' r f) : GoR cf ρ (.cons (.asu ts e) r) f := gr_nx (g_asu h hx hb) hr
theorem gr_par {ts : List Nat} {es : Es} {ds : List D} {ρ' : En} {r : Ss} {f : Fl} (h : EvEs cf ρ es ds) (hb : bindAll ts ds ρ = some ρ') (hr : GoR cf ρ' r f) : GoR cf ρ (.cons (.par ts es) r) f := gr_nx (g_par h hb) hr
end
theorem fn_of {P : Prog} {m : Nat} {f : Str} {d : Def} {ds : List D} {v : Fv} (hP : P f = some d) (hr : d.raw = false) (hl : ds.length = d.np) (hp : D.pures ds = true) (hv : v.d.pure = true)
    (h : ∀ k, m ≤ k → GoR (evCall P k) (startE d.nn ds) d.body (.rt v)) : Fn P (m + 1) f ds v := fun k hk => by
  obtain ⟨j, rfl⟩ : ∃ j, k = j + 1 := ⟨k - 1, by omega⟩
  obtain ⟨ρ', hg⟩ := h j (by omega)
  exact cl_of hP hr hl hp hv hg
theorem fn_nx {P : Prog} {m : Nat} {f : Str} {d : Def} {ds : List D} (hP : P f = some d) (hr : d.raw = false) (hl : ds.length = d.np) (hp : D.pures ds = true)
    (h : ∀ k, m ≤ k → GoR (evCall P k) (startE d.nn ds) d.body .nx) : Fn P (m + 1) f ds (.fz .non) := fun k hk => by
  obtain ⟨j, rfl⟩ : ∃ j, k = j + 1 := ⟨k - 1, by omega⟩
  obtain ⟨ρ', hg⟩ := h j (by omega)
  exact cl_nx hP hr hl hp hg
section
variable {cf : Str → List D → M Fv} {ρ : En}
theorem evd_of {e : E} {v : Fv} {d : D} (h : Ev cf ρ e v) (hd : v.d = d) : ∃ v, Ev cf ρ e v ∧ v.d = d := ⟨v, h, hd⟩
theorem ev_andB {a b : E} {p q : Bool} (ha : Ev cf ρ a (.fz (.bl p))) (hb : p = true → Ev cf ρ b (.fz (.bl q))) : Ev cf ρ (.and a b) (.fz (.bl (p && q))) := by
  refine ev_and (t := p) ha rfl rfl (fun h => ?_) fun h => ?_
  · have := hb h; rw [h]; exact this
  · rw [h]; rfl
theorem ev_orB {a b : E} {p q : Bool} (ha : Ev cf ρ a (.fz (.bl p))) (hb : p = false → Ev cf ρ b (.fz (.bl q))) : Ev cf ρ (.or a b) (.fz (.bl (p || q))) := by
  refine ev_or (t := p) ha rfl rfl (fun h => ?_) fun h => ?_
  · have := hb h; rw [h]; exact this
  · rw [h]; rfl
theorem ev_andC {a b : E} {p q : Bool} (ha : Ev cf ρ a (.fz (.bl p))) (hb : Ev cf ρ b (.fz (.bl q))) : Ev cf ρ (.and a b) (.fz (.bl (p && q))) := ev_andB ha fun _ => hb
theorem ev_orC {a b : E} {p q : Bool} (ha : Ev cf ρ a (.fz (.bl p))) (hb : Ev cf ρ b (.fz (.bl q))) : Ev cf ρ (.or a b) (.fz (.bl (p || q))) := ev_orB ha fun _ => hb
theorem ev_notB {a : E} {p : Bool} (ha : Ev cf ρ a (.fz (.bl p))) : Ev cf ρ (.op1 .not a) (.fz (.bl (!p))) := ev_op1 ha rfl rfl
theorem ev_iteB {c a b : E} {p : Bool} {x y : Fv} (hc : Ev cf ρ c (.fz (.bl p))) (ha : p = true → Ev cf ρ a x) (hb : p = false → Ev cf ρ b y) : Ev cf ρ (.ite c a b) (if p = true then x else y) := by
  refine ev_ite (t := p) hc rfl rfl (fun h => ?_) fun h => ?_
  · rw [if_pos h]; exact ha h
  · rw [if_neg (by rw [h]; exact Bool.false_ne_true)]; exact hb h
theorem ev_ch2B {o p : O2} {a b c : E} {x y z : Fv} {t u : Bool} (ha : Ev cf ρ a x) (hb : Ev cf ρ b y) (hc : Ev cf ρ c z) (hx : x.d.noRef = true) (hy : y.d.noRef = true) (hz : z.d.noRef = true)
    (h1 : op2 o x.d y.d = some (.fz (.bl t))) (h2 : op2 p y.d z.d = some (.fz (.bl u))) : Ev cf ρ (.ch2 o p a b c) (.fz (.bl (t && u))) := by
  refine ev_ch2 (t := t) ha hb hx hy h1 (fun h => ⟨hc, hz, ?_⟩) fun h => ?_
  · rw [h2, h]; rfl
  · rw [h]; rfl
theorem g_iffT {c : E} {a b : Ss} {p : Bool} {f : Fl} {ρ' : En} (hc : Ev cf ρ c (.fz (.bl p))) (hp : p = true) (h : Go cf ρ a f ρ') : Go1 cf ρ (.iff c a b) f ρ' := g_iff (t := p) hc rfl rfl (fun _ => h) fun q => by rw [hp] at q; cases q
theorem g_iffF {c : E} {a b : Ss} {p : Bool} {f : Fl} {ρ' : En} (hc : Ev cf ρ c (.fz (.bl p))) (hp : p = false) (h : Go cf ρ b f ρ') : Go1 cf ρ (.iff c a b) f ρ' := g_iff (t := p) hc rfl rfl (fun q => by rw [hp] at q; cases q) fun _ => h
/-- join -/
theorem ev_join {a : E} {es : Es} {z : Str} {ds : List D} {r : Fv} (ha : Ev cf ρ a (.fz (.str z))) (hs : EvEs cf ρ es ds) (hn : ds.all D.noRef = true) (h : bfO .join (.str z :: ds) = some r) : Ev cf ρ (.ms .join a es) r := .of fun S => by
  simp only [evE]
  rw [bnd_at (ha.d S)]
  show M.bnd (evEs cf es ρ) _ S = _
  have e : ds.map S.see = ds := by
    rw [List.map_congr_left (g := id) fun d hd => see_noRef (List.all_eq_true.mp hn d hd) S, List.map_id]
  rw [bnd_at (hs S), e, h]; rfl
theorem ei_r2 {a b : E} {i j : Int} {xs : List D} (ha : Ev cf ρ a (.fz (.int i))) (hb : Ev cf ρ b (.fz (.int j))) (hx : rngO i j = some xs) : EvI cf ρ (.r2 a b) xs := .of fun S => by
  simp only [evI]
  rw [bnd_at (ha.d S), bnd_at (hb.d S)]
  show M.opt (rngO i j) S = _
  rw [hx]; rfl
theorem ei_zip {a b : E} {x y : Fv} {xs : List D} (ha : Ev cf ρ a x) (hb : Ev cf ρ b y) (hx : zipO x.d y.d = some xs) : EvI cf ρ (.zip a b) xs := .of fun S => by
  simp only [evI]
  rw [bnd_at (ha.d S), bnd_at (hb.d S), hx]; rfl
/-- [e for t in it] -/
theorem ev_lcM {α : Type} {enc : α → D} {own : List Nat} {it : It} {t : T} {e : E} {xs : List α} {g : α → D} (hi : EvI cf ρ it (xs.map enc))
    (hb : ∀ x ∈ xs, ∃ ρ', bindT t (enc x) (wipe ρ own) = some ρ' ∧ ∃ v, Ev cf ρ' e v ∧ v.d = g x) (hl : xs.length ≤ sizeMax) : Ev cf ρ (.lc own (.last it t .no) e) (.nw (xs.map g)) := by
  have q := ev_lcT (cf := cf) (ρ := ρ) (enc := enc) (own := own) (it := it) (t := t) (c := .no) (e := e) (xs := xs) (p := fun _ => true) (g := g) hi (fun x hx => by
    obtain ⟨ρ', h1, v, h2, h3⟩ := hb x hx
    exact ⟨ρ', h1, ec_no, fun _ => ⟨v, h2, h3⟩⟩) hl
  rw [List.filter_eq_self.mpr (by simp)] at q
  exact q
/-- [e for t in it if c for u in it' if c'] -/
theorem ev_lc2 {α β : Type} {enc : α → D} {enc' : β → D} {own : List Nat} {it it' : It} {t t' : T} {c c' : Oe} {e : E} {xs : List α} {ys : α → List β} {p : α → Bool} {q : α → β → Bool} {g : α → β → D} (hi : EvI cf ρ it (xs.map enc))
    (hb : ∀ x ∈ xs, ∃ ρ', bindT t (enc x) (wipe ρ own) = some ρ' ∧ EvC cf ρ' c (p x) ∧ (p x = true → EvI cf ρ' it' ((ys x).map enc') ∧ ∀ y ∈ ys x, ∃ ρ2, bindT t' (enc' y) (wipe ρ' t'.ns) = some ρ2 ∧ EvC cf ρ2 c' (q x y) ∧ (q x y = true → ∃ v, Ev cf ρ2 e v ∧ v.d = g x y)))
    (hl : ((xs.filter p).flatMap ys).length ≤ sizeMax) : Ev cf ρ (.lc own (.more it t c (.last it' t' c')) e) (.nw ((xs.filter p).flatMap fun x => ((ys x).filter (q x)).map (g x))) := .of fun S => by
  have flat : ∀ xs : List α, ((xs.filter p).flatMap fun x => ((ys x).filter (q x)).map (g x)) = xs.flatMap fun x => if p x = true then ((ys x).filter (q x)).map (g x) else [] := fun xs => by
    induction xs with
    | nil => rfl
    | cons x r ih =>
      rw [List.filter_cons, List.flatMap_cons]
      cases p x with
      | true => simp [ih]
      | false => simp [ih]
  have flen : ∀ xs : List α, (xs.flatMap fun x => if p x = true then ((ys x).filter (q x)).map (g x) else []).length ≤ ((xs.filter p).flatMap ys).length := fun xs => by
    induction xs with
    | nil => exact Nat.le_refl _
    | cons x r ih =>
      rw [List.filter_cons, List.flatMap_cons, List.length_append]
      cases p x with
      | true =>
        simp only [if_true, List.flatMap_cons, List.length_append, List.length_map]
        have := List.length_filter_le (q x) (ys x)
        omega
      | false => simp only [Bool.false_eq_true, if_false, List.length_nil]; omega
  simp only [evE]
  have r1 : evG cf (.more it t c (.last it' t' c')) (fun ρ => mD (evE cf e ρ)) ρ (wipe ρ own) [] S = .ok ((xs.filter p).flatMap fun x => ((ys x).filter (q x)).map (g x)) S := by
    simp only [evG]
    rw [bnd_at (hi S), flat]
    refine (turns_evT (f := fun x => if p x = true then ((ys x).filter (q x)).map (g x) else []) (fun x hx acc ha => ?_) (by
      have := flen xs
      simp only [List.length_nil]; omega)).trans (by rw [List.nil_append])
    obtain ⟨ρ', h1, h2, h3⟩ := hb x hx
    refine ⟨ρ', h1, ?_⟩
    rw [bnd_at (h2 S)]
    cases hp : p x with
    | false =>
      simp only [Bool.false_eq_true, if_false, List.append_nil]; rfl
    | true =>
      obtain ⟨k1, k2⟩ := h3 hp
      simp only [hp, if_true] at ha ⊢
      show M.bnd (evI cf it' ρ') _ S = _
      rw [bnd_at (k1 S)]
      rw [filter_flatT] at ha ⊢
      refine turns_evT (f := fun y => if q x y = true then [g x y] else []) (fun y hy acc2 ha2 => ?_) ha
      obtain ⟨ρ2, j1, j2, j3⟩ := k2 y hy
      refine ⟨ρ2, j1, ?_⟩
      rw [bnd_at (j2 S)]
      cases hq : q x y with
      | false =>
        simp only [Bool.false_eq_true, if_false, List.append_nil]; rfl
      | true =>
        obtain ⟨v, hv, he⟩ := j3 hq
        simp only [hq, if_true, List.length_singleton] at ha2 ⊢
        rw [bnd_at (hv.d S), he, if_pos (show acc2.length < sizeMax by omega)]; rfl
  have q2 : bareM (evG cf (.more it t c (.last it' t' c')) (fun ρ => mD (evE cf e ρ)) ρ (wipe ρ own) []) S = .ok ((xs.filter p).flatMap fun x => ((ys x).filter (q x)).map (g x)) S := by
    unfold bareM
    rw [r1]
  rw [bnd_at q2]; rfl
end
def wp {α : Type} (m : M α) (S : Store) (Q : α → Store → Prop) : Prop := ∃ a S', m S = .ok a S' ∧ Q a S'
section
variable {α β : Type} {S : Store} {Q : α → Store → Prop}
theorem wp_bnd {m : M β} {k : β → M α} (h : wp m S fun a S' => wp (k a) S' Q) : wp (M.bnd m k) S Q := by
  obtain ⟨a, S', h1, b, S2, h2, q⟩ := h
  exact ⟨b, S2, by rw [bnd_at h1]; exact h2, q⟩
theorem wp_ret {a : α} (h : Q a S) : wp (M.ret a) S Q := ⟨a, S, rfl, h⟩
theorem wp_opt {o : Option α} {a : α} (h : o = some a) (q : Q a S) : wp (M.opt o) S Q := by subst h; exact ⟨a, S, rfl, q⟩
theorem wp_mono {m : M α} {Q' : α → Store → Prop} (h : wp m S Q') (hq : ∀ a S', Q' a S' → Q a S') : wp m S Q := by
  obtain ⟨a, S', h1, h2⟩ := h
  exact ⟨a, S', h1, hq _ _ h2⟩
theorem wp_mD {m : M Fv} {Q : D → Store → Prop} (h : wp m S fun v S' => Q v.d S') : wp (mD m) S Q := wp_bnd (wp_mono h fun _ _ q => wp_ret q)
theorem wp_at {m : M α} {a : α} {S' : Store} (h : m S = .ok a S') (q : Q a S') : wp m S Q := ⟨a, S', h, q⟩
end
section
variable {cf : Str → List D → M Fv} {ρ : En} {S : Store}
theorem w_ev {e : E} {v : Fv} {Q : Fv → Store → Prop} (h : Ev cf ρ e v) (q : Q v S) : wp (evE cf e ρ) S Q := ⟨v, S, h S, q⟩
theorem w_es {es : Es} {ds : List D} {Q : List D → Store → Prop} (h : EvEs cf ρ es ds) (q : Q ds S) : wp (evEs cf es ρ) S Q := ⟨ds, S, h S, q⟩
theorem w_it {it : It} {ds : List D} {Q : List D → Store → Prop} (h : EvI cf ρ it ds) (q : Q ds S) : wp (evI cf it ρ) S Q := ⟨ds, S, h S, q⟩
theorem w_cl {f : Str} {ds : List D} {v : Fv} {Q : Fv → Store → Prop} (h : Cl cf f ds v) (q : Q v S) : wp (cf f ds) S Q := ⟨v, S, h S, q⟩
theorem w_mk {e : E} {Q : Fv → Store → Prop} (h : wp (evE cf e ρ) S fun v S1 => match v with
    | .fz d => Q (.fz d) S1
    | .nw xs => Q (.fz (.ref S1.nx)) (S1.new (.lst xs))) : wp (evE cf (.mk e) ρ) S Q := by
  simp only [evE]
  refine wp_bnd (wp_mono h fun v S1 q => ?_)
  cases v with
  | fz d => exact ⟨_, _, rfl, q⟩
  | nw xs => exact ⟨_, _, rfl, q⟩
theorem w_mkN {e : E} {xs : List D} {Q : Fv → Store → Prop} (h : Ev cf ρ e (.nw xs)) (q : Q (.fz (.ref S.nx)) (S.new (.lst xs))) : wp (evE cf (.mk e) ρ) S Q := w_mk (w_ev h q)
theorem w_frz {i n : Nat} {xs : List D} {Q : Fv → Store → Prop} (h : ρ[i]? = some (some (.ref n))) (hg : S.get n = some (.lst xs)) (q : Q (.nw xs) (S.del n)) : wp (evE cf (.frz i) ρ) S Q := by
  refine ⟨_, _, ?_, q⟩
  simp only [evE, h, hg]
theorem w_op2 {o : O2} {a b : E} {Q : Fv → Store → Prop} (h : wp (evE cf a ρ) S fun x S1 => wp (evE cf b ρ) S1 fun y S2 => ∃ r, op2 o (S2.see x.d) (S2.see y.d) = some r ∧ Q r S2) : wp (evE cf (.op2 o a b) ρ) S Q := by
  simp only [evE]
  refine wp_bnd (wp_mD (wp_mono h fun x S1 h1 => wp_bnd (wp_mD (wp_mono h1 fun y S2 h2 => ?_))))
  obtain ⟨r, e, q⟩ := h2
  refine wp_at ?_ q
  show M.opt (op2S S2 o x.d y.d) S2 = _
  rw [op2S_of e]; rfl
theorem w_op2S {o : O2} {a b : E} {Q : Fv → Store → Prop} (h : wp (evE cf a ρ) S fun x S1 => wp (evE cf b ρ) S1 fun y S2 => ∃ r, op2S S2 o x.d y.d = some r ∧ Q r S2) : wp (evE cf (.op2 o a b) ρ) S Q := by
  simp only [evE]
  refine wp_bnd (wp_mD (wp_mono h fun x S1 h1 => wp_bnd (wp_mD (wp_mono h1 fun y S2 h2 => ?_))))
  obtain ⟨r, e, q⟩ := h2
  refine wp_at ?_ q
  show M.opt (op2S S2 o x.d y.d) S2 = _
  rw [e]; rfl
/-- where an operation is done on all that lies below -/
theorem op2S_deep {S : Store} {o : O2} {x y : D} {r : D} (h1 : op2 o (S.see x) (S.see y) = none) (h2 : (S.deep 6 x).pure = true) (h3 : (S.deep 6 y).pure = true) (h4 : op2 o (S.deep 6 x) (S.deep 6 y) = some (.fz r)) (h5 : r.flat = true) : op2S S o x y = some (.fz r) := by
  unfold op2S
  rw [h1]
  have hp : D.pures [S.deep 6 x, S.deep 6 y] = true := by
    show ((S.deep 6 x).pure && ((S.deep 6 y).pure && true)) = true
    rw [h2, h3]; rfl
  simp only [hp, if_true, h4, h5]
theorem w_op1 {o : O1} {a : E} {Q : Fv → Store → Prop} (h : wp (evE cf a ρ) S fun x S1 => ∃ r, op1 o (S1.see x.d) = some r ∧ Q r S1) : wp (evE cf (.op1 o a) ρ) S Q := by
  simp only [evE]
  refine wp_bnd (wp_mD (wp_mono h fun x S1 h1 => ?_))
  obtain ⟨r, e, q⟩ := h1
  exact wp_at (by rw [e]; rfl) q
theorem w_and {a b : E} {Q : Fv → Store → Prop} (h : wp (evE cf a ρ) S fun x S1 => ∃ t, truthy (S1.see x.d) = some t ∧ (t = true → wp (evE cf b ρ) S1 Q) ∧ (t = false → Q (.fz x.d) S1)) : wp (evE cf (.and a b) ρ) S Q := by
  simp only [evE]
  refine wp_bnd (wp_mD (wp_mono h fun x S1 h1 => ?_))
  obtain ⟨t, e, q1, q2⟩ := h1
  show wp (M.bnd (M.opt (truthy (S1.see x.d))) _) S1 Q
  refine wp_bnd (wp_opt e ?_)
  cases t with
  | true => exact q1 rfl
  | false => exact wp_ret (q2 rfl)
theorem w_or {a b : E} {Q : Fv → Store → Prop} (h : wp (evE cf a ρ) S fun x S1 => ∃ t, truthy (S1.see x.d) = some t ∧ (t = false → wp (evE cf b ρ) S1 Q) ∧ (t = true → Q (.fz x.d) S1)) : wp (evE cf (.or a b) ρ) S Q := by
  simp only [evE]
  refine wp_bnd (wp_mD (wp_mono h fun x S1 h1 => ?_))
  obtain ⟨t, e, q1, q2⟩ := h1
  show wp (M.bnd (M.opt (truthy (S1.see x.d))) _) S1 Q
  refine wp_bnd (wp_opt e ?_)
  cases t with
  | false => exact q1 rfl
  | true => exact wp_ret (q2 rfl)
theorem w_ite {c a b : E} {Q : Fv → Store → Prop} (h : wp (evE cf c ρ) S fun x S1 => ∃ t, truthy (S1.see x.d) = some t ∧ (t = true → wp (evE cf a ρ) S1 Q) ∧ (t = false → wp (evE cf b ρ) S1 Q)) : wp (evE cf (.ite c a b) ρ) S Q := by
  simp only [evE]
  refine wp_bnd (wp_mD (wp_mono h fun x S1 h1 => ?_))
  obtain ⟨t, e, q1, q2⟩ := h1
  show wp (M.bnd (M.opt (truthy (S1.see x.d))) _) S1 Q
  refine wp_bnd (wp_opt e ?_)
  cases t with
  | true => exact q1 rfl
  | false => exact q2 rfl
theorem w_call {f : Str} {es : Es} {Q : Fv → Store → Prop} (h : wp (evEs cf es ρ) S fun ds S1 => wp (cf f ds) S1 Q) : wp (evE cf (.call f es) ρ) S Q := by
  simp only [evE]
  exact wp_bnd h
theorem w_blt {f : Bf} {es : Es} {Q : Fv → Store → Prop} (h : wp (evEs cf es ρ) S fun ds S1 => ∃ r, bfO f (ds.map S1.see) = some r ∧ Q r S1) : wp (evE cf (.blt f es) ρ) S Q := by
  simp only [evE]
  refine wp_bnd (wp_mono h fun ds S1 h1 => ?_)
  obtain ⟨r, e, q⟩ := h1
  exact wp_at (by rw [e]; rfl) q
theorem w_ms {f : Bf} {a : E} {es : Es} {Q : Fv → Store → Prop} (h : wp (evE cf a ρ) S fun x S1 => ∃ z, x.d = .str z ∧ wp (evEs cf es ρ) S1 fun ds S2 => ∃ r, bfO f (.str z :: ds.map S2.see) = some r ∧ Q r S2) : wp (evE cf (.ms f a es) ρ) S Q := by
  simp only [evE]
  refine wp_bnd (wp_mD (wp_mono h fun x S1 h1 => ?_))
  obtain ⟨z, e, h2⟩ := h1
  rw [e]
  show wp (M.bnd (evEs cf es ρ) _) S1 Q
  refine wp_bnd (wp_mono h2 fun ds S2 h3 => ?_)
  obtain ⟨r, e, q⟩ := h3
  exact wp_at (by rw [e]; rfl) q
theorem w_slc {a : E} {lo hi : Oe} {l h : Option Int} {Q : Fv → Store → Prop} (hl : EvO cf ρ lo l) (hh : EvO cf ρ hi h) (ha : wp (evE cf a ρ) S fun x S1 => ∃ r, cutO (S1.see x.d) l h = some r ∧ Q r S1) : wp (evE cf (.slc a lo hi) ρ) S Q := by
  simp only [evE]
  refine wp_bnd (wp_mD (wp_mono ha fun x S1 h1 => ?_))
  obtain ⟨r, e, q⟩ := h1
  refine wp_at ?_ q
  rw [bnd_at (hl S1), bnd_at (hh S1), e]; rfl
theorem w_rev {a : E} {Q : Fv → Store → Prop} (ha : wp (evE cf a ρ) S fun x S1 => ∃ r, revO (S1.see x.d) = some r ∧ Q r S1) : wp (evE cf (.rev a) ρ) S Q := by
  simp only [evE]
  refine wp_bnd (wp_mD (wp_mono ha fun x S1 h1 => ?_))
  obtain ⟨r, e, q⟩ := h1
  exact wp_at (by rw [e]; rfl) q
theorem w_nil {Q : List D → Store → Prop} (q : Q [] S) : wp (evEs cf .nil ρ) S Q := by
  simp only [evEs]; exact wp_ret q
theorem w_cons {e : E} {es : Es} {Q : List D → Store → Prop} (h : wp (evE cf e ρ) S fun v S1 => wp (evEs cf es ρ) S1 fun ds S2 => Q (v.d :: ds) S2) : wp (evEs cf (.cons false e es) ρ) S Q := by
  simp only [evEs]
  exact wp_bnd (wp_mD (wp_mono h fun v S1 h1 => wp_bnd (wp_mono h1 fun ds S2 q => wp_ret q)))
theorem w_star {e : E} {es : Es} {Q : List D → Store → Prop} (h : wp (evE cf e ρ) S fun v S1 => ∃ xs, (S1.see v.d = .lst xs ∨ S1.see v.d = .tup xs) ∧ wp (evEs cf es ρ) S1 fun ds S2 => Q (xs ++ ds) S2) : wp (evEs cf (.cons true e es) ρ) S Q := by
  simp only [evEs]
  refine wp_bnd (wp_mD (wp_mono h fun v S1 h1 => ?_))
  obtain ⟨xs, hx, h2⟩ := h1
  rcases hx with hx | hx <;> (refine wp_bnd (wp_opt (a := xs) (by rw [hx]) (wp_bnd (wp_mono h2 fun ds S2 q => wp_ret q))))
theorem w_tup {es : Es} {Q : Fv → Store → Prop} (h : wp (evEs cf es ρ) S fun ds S1 => ds.length ≤ sizeMax ∧ Q (.fz (.tup ds)) S1) : wp (evE cf (.tup es) ρ) S Q := by
  simp only [evE]
  refine wp_bnd (wp_mono h fun ds S1 h1 => ?_)
  rw [if_pos h1.1]
  exact wp_ret h1.2
theorem w_lst {es : Es} {Q : Fv → Store → Prop} (h : wp (evEs cf es ρ) S fun ds S1 => ds.length ≤ sizeMax ∧ Q (.nw ds) S1) : wp (evE cf (.lst es) ρ) S Q := by
  simp only [evE]
  refine wp_bnd (wp_mono h fun ds S1 h1 => ?_)
  rw [if_pos h1.1]
  exact wp_ret h1.2
theorem wc_no {Q : Bool → Store → Prop} (q : Q true S) : wp (evC cf .no ρ) S Q := by
  simp only [evC]; exact wp_ret q
theorem wc_so {e : E} {Q : Bool → Store → Prop} (h : wp (evE cf e ρ) S fun v S1 => ∃ b, truthy (S1.see v.d) = some b ∧ Q b S1) : wp (evC cf (.so e) ρ) S Q := by
  simp only [evC]
  refine wp_bnd (wp_mD (wp_mono h fun v S1 h1 => ?_))
  obtain ⟨r, e, q⟩ := h1
  exact wp_at (by rw [e]; rfl) q
theorem wi_seq {e : E} {Q : List D → Store → Prop} (h : wp (evE cf e ρ) S fun v S1 => ∃ xs, seqO v.d = some xs ∧ Q xs S1) : wp (evI cf (.seq e) ρ) S Q := by
  simp only [evI]
  refine wp_bnd (wp_mD (wp_mono h fun v S1 h1 => ?_))
  obtain ⟨xs, e, q⟩ := h1
  exact wp_opt e q
theorem wi_r1 {e : E} {Q : List D → Store → Prop} (h : wp (evE cf e ρ) S fun v S1 => ∃ i xs, v.d = .int i ∧ rngO 0 i = some xs ∧ Q xs S1) : wp (evI cf (.r1 e) ρ) S Q := by
  simp only [evI]
  refine wp_bnd (wp_mD (wp_mono h fun v S1 h1 => ?_))
  obtain ⟨i, xs, e, e2, q⟩ := h1
  rw [e]
  exact wp_opt e2 q
theorem wi_enm {e : E} {Q : List D → Store → Prop} (h : wp (evE cf e ρ) S fun v S1 => ∃ xs, enmO v.d = some xs ∧ Q xs S1) : wp (evI cf (.enm e) ρ) S Q := by
  simp only [evI]
  refine wp_bnd (wp_mD (wp_mono h fun v S1 h1 => ?_))
  obtain ⟨xs, e, q⟩ := h1
  exact wp_opt e q
/-- the turns of a comprehension, by what holds of those left, of what was made, of the store -/
theorem w_lc {α : Type} {enc : α → D} {own : List Nat} {it : It} {t : T} {c : Oe} {e : E} {Q : Fv → Store → Prop} (I : List α → List D → Store → Prop)
    (hi : wp (evI cf it ρ) S fun xs S1 => ∃ ys : List α, xs = ys.map enc ∧ I ys [] S1)
    (hs : ∀ y r acc S, I (y :: r) acc S → ∃ ρ', bindT t (enc y) (wipe ρ own) = some ρ' ∧ wp (evC cf c ρ') S fun b S1 => (b = true → wp (evE cf e ρ') S1 fun v S2 => acc.length < sizeMax ∧ I r (acc ++ [v.d]) S2) ∧ (b = false → I r acc S1))
    (he : ∀ acc S, I [] acc S → Q (.nw acc) S) : wp (evE cf (.lc own (.last it t c) e) ρ) S Q := by
  have key : ∀ (ys : List α) acc S, I ys acc S → wp (turns t (fun ρ' acc => M.bnd (evC cf c ρ') fun b => if b = true then M.bnd (mD (evE cf e ρ')) fun d => if acc.length < sizeMax then M.ret (acc ++ [d]) else M.no else M.ret acc) (wipe ρ own) (ys.map enc) acc) S fun acc S => I [] acc S := by
    intro ys
    induction ys with
    | nil => intro acc S h; simp only [List.map_nil, turns]; exact wp_ret h
    | cons y r ih =>
      intro acc S h
      obtain ⟨ρ', h1, h2⟩ := hs y r acc S h
      simp only [List.map_cons, turns]
      refine wp_bnd (wp_opt h1 (wp_bnd (wp_bnd (wp_mono h2 fun b S1 h3 => ?_))))
      cases b with
      | true =>
        simp only [if_true]
        refine wp_bnd (wp_mD (wp_mono (h3.1 rfl) fun v S2 h4 => ?_))
        rw [if_pos h4.1]
        exact wp_ret (ih _ _ h4.2)
      | false =>
        simp only [Bool.false_eq_true, if_false]
        exact wp_ret (ih _ _ (h3.2 rfl))
  obtain ⟨xs, S1, e1, ys, rfl, h1⟩ := hi
  simp only [evE, evI_cell e1, pick]
  refine wp_bnd ?_
  obtain ⟨acc, S2, e2, h2⟩ := key ys [] S1 h1
  refine ⟨acc, S2, ?_, wp_ret (he _ _ h2)⟩
  unfold bareM
  simp only [evG]
  rw [bnd_at e1, e2]
/-- the same over a list that may change; it stays while it is walked -/
theorem w_lcC {α : Type} {enc : α → D} {own : List Nat} {i n : Nat} {t : T} {c : Oe} {e : E} {xs : List α} {Q : Fv → Store → Prop} (I : List α → List D → Store → Prop)
    (hv : ρ[i]? = some (some (.ref n))) (hg : ∀ ys acc S, I ys acc S → S.get n = some (.lst (xs.map enc))) (h0 : I xs [] S)
    (hs : ∀ y r acc S, I (y :: r) acc S → ∃ ρ', bindT t (enc y) (wipe ρ own) = some ρ' ∧ wp (evC cf c ρ') S fun b S1 => (b = true → wp (evE cf e ρ') S1 fun v S2 => acc.length < sizeMax ∧ I r (acc ++ [v.d]) S2) ∧ (b = false → I r acc S1))
    (he : ∀ acc S, I [] acc S → Q (.nw acc) S) : wp (evE cf (.lc own (.last (.seq (.var i)) t c) e) ρ) S Q := by
  have st : ∀ {S : Store} {Q : Unit → Store → Prop}, S.get n = some (.lst (xs.map enc)) → Q () S → wp (still n (xs.map enc)) S Q := fun {S Q} h q => by
    refine ⟨(), S, ?_, q⟩
    have sm : ∀ xs : List D, D.sms xs xs = true := sms_refl
    simp only [still, h, sm, if_true]
  have key : ∀ (ys : List α) acc S, I ys acc S → wp (turnsC n (xs.map enc) t (fun ρ' acc => M.bnd (evC cf c ρ') fun b => if b = true then M.bnd (mD (evE cf e ρ')) fun d => if acc.length < sizeMax then M.ret (acc ++ [d]) else M.no else M.ret acc) (wipe ρ own) (ys.map enc) acc) S fun acc S => I [] acc S := by
    intro ys
    induction ys with
    | nil => intro acc S h; simp only [List.map_nil, turnsC]; exact wp_bnd (st (hg _ _ _ h) (wp_ret h))
    | cons y r ih =>
      intro acc S h
      obtain ⟨ρ', h1, h2⟩ := hs y r acc S h
      simp only [List.map_cons, turnsC]
      refine wp_bnd (st (hg _ _ _ h) (wp_bnd (wp_opt h1 (wp_bnd (wp_bnd (wp_mono h2 fun b S1 h3 => ?_))))))
      cases b with
      | true =>
        simp only [if_true]
        refine wp_bnd (wp_mD (wp_mono (h3.1 rfl) fun v S2 h4 => ?_))
        rw [if_pos h4.1]
        exact wp_ret (ih _ _ h4.2)
      | false =>
        simp only [Bool.false_eq_true, if_false]
        exact wp_ret (ih _ _ (h3.2 rfl))
  have hc : cellI (.seq (.var i)) ρ = some n := by simp only [cellI, hv]
  simp only [evE, hc, pick]
  obtain ⟨acc, S2, e2, h2⟩ := key xs [] S h0
  refine wp_bnd ⟨acc, S2, ?_, wp_ret (he _ _ h2)⟩
  unfold bareM
  have e1 : readC n S = .ok (xs.map enc) S := by simp only [readC, hg _ _ _ h0]
  rw [bnd_at e1, e2]
theorem s_nil {Q : Fl × En → Store → Prop} (q : Q (.nx, ρ) S) : wp (evSs cf .nil ρ) S Q := by
  simp only [evSs]; exact wp_ret q
/-- what follows a statement -/
def Nx (cf : Str → List D → M Fv) (r : Ss) (Q : Fl × En → Store → Prop) (p : Fl × En) (S : Store) : Prop := match p.1 with
  | .nx => wp (evSs cf r p.2) S Q
  | .rt v => Q (.rt v, p.2) S
theorem s_cons {s : Pe.S} {r : Ss} {Q : Fl × En → Store → Prop} (h : wp (evS cf s ρ) S (Nx cf r Q)) : wp (evSs cf (.cons s r) ρ) S Q := by
  simp only [evSs]
  refine wp_bnd (wp_mono h fun p S1 h1 => ?_)
  obtain ⟨f, ρ1⟩ := p
  cases f with
  | nx => exact h1
  | rt v => exact wp_ret h1
theorem s_go {s : Pe.S} {r : Ss} {Q : Fl × En → Store → Prop} {ρ' : En} (h : Go1 cf ρ s .nx ρ') (q : wp (evSs cf r ρ') S Q) : wp (evSs cf (.cons s r) ρ) S Q := s_cons ⟨_, _, h S, q⟩
theorem s_goR {s : Pe.S} {r : Ss} {Q : Fl × En → Store → Prop} {ρ' : En} {v : Fv} (h : Go1 cf ρ s (.rt v) ρ') (q : Q (.rt v, ρ') S) : wp (evSs cf (.cons s r) ρ) S Q := s_cons ⟨_, _, h S, q⟩
theorem s_asg {i : Nat} {e : E} {r : Ss} {Q : Fl × En → Store → Prop} (h : wp (evE cf e ρ) S fun v S1 => wp (evSs cf r (ρ.set i (some v.d))) S1 Q) : wp (evSs cf (.cons (.asg i e) r) ρ) S Q := by
  refine s_cons ?_
  simp only [evS]
  exact wp_bnd (wp_mD (wp_mono h fun v S1 h1 => wp_ret h1))
theorem s_exp {e : E} {r : Ss} {Q : Fl × En → Store → Prop} (h : wp (evE cf e ρ) S fun v S1 => wp (evSs cf r ρ) S1 Q) : wp (evSs cf (.cons (.exp e) r) ρ) S Q := by
  refine s_cons ?_
  simp only [evS]
  exact wp_bnd (wp_mono h fun v S1 h1 => wp_ret h1)
theorem s_ret {e : E} {r : Ss} {Q : Fl × En → Store → Prop} (h : wp (evE cf e ρ) S fun v S1 => Q (.rt v, ρ) S1) : wp (evSs cf (.cons (.ret e) r) ρ) S Q := by
  refine s_cons ?_
  simp only [evS]
  exact wp_bnd (wp_mono h fun v S1 h1 => wp_ret h1)
theorem s_asu {ts : List Nat} {e : E} {r : Ss} {Q : Fl × En → Store → Prop} (h : wp (evE cf e ρ) S fun v S1 => ∃ xs ρ', (S1.see v.d = .tup xs ∨ S1.see v.d = .lst xs) ∧ bindAll ts xs ρ = some ρ' ∧ wp (evSs cf r ρ') S1 Q) : wp (evSs cf (.cons (.asu ts e) r) ρ) S Q := by
  refine s_cons ?_
  simp only [evS]
  refine wp_bnd (wp_mD (wp_mono h fun v S1 h1 => ?_))
  obtain ⟨xs, ρ', hx, hb, q⟩ := h1
  rcases hx with hx | hx <;> exact wp_bnd (wp_opt (a := ρ') (by rw [hx]; exact hb) (wp_ret q))
theorem s_par {ts : List Nat} {es : Es} {r : Ss} {Q : Fl × En → Store → Prop} (h : wp (evEs cf es ρ) S fun ds S1 => ∃ ρ', bindAll ts ds ρ = some ρ' ∧ wp (evSs cf r ρ') S1 Q) : wp (evSs cf (.cons (.par ts es) r) ρ) S Q := by
  refine s_cons ?_
  simp only [evS]
  refine wp_bnd (wp_mono h fun ds S1 h1 => ?_)
  obtain ⟨ρ', hb, q⟩ := h1
  exact wp_bnd (wp_opt hb (wp_ret q))
theorem s_sti {o i e : E} {r : Ss} {Q : Fl × En → Store → Prop} (h : wp (evE cf e ρ) S fun v S1 => wp (evE cf o ρ) S1 fun x S2 => wp (evE cf i ρ) S2 fun y S3 => ∃ n xs k j, x.d = .ref n ∧ y.d = .int k ∧ S3.get n = some (.lst xs) ∧ L2.ixN xs.length k = some j ∧ wp (evSs cf r ρ) (S3.put n (.lst (xs.set j v.d))) Q) :
    wp (evSs cf (.cons (.sti o i e) r) ρ) S Q := by
  refine s_cons ?_
  simp only [evS]
  refine wp_bnd (wp_mD (wp_mono h fun v S1 h1 => wp_bnd (wp_mD (wp_mono h1 fun x S2 h2 => wp_bnd (wp_mD (wp_mono h2 fun y S3 h3 => ?_))))))
  obtain ⟨n, xs, k, j, e1, e2, e3, e4, q⟩ := h3
  refine wp_bnd ⟨(), S3.put n (.lst (xs.set j v.d)), ?_, wp_ret q⟩
  rw [e1, e2]
  simp only [stI, e3, e4]
theorem s_app {o e : E} {r : Ss} {n : Nat} {xs : List D} {Q : Fl × En → Store → Prop} (ho : Ev cf ρ o (.fz (.ref n))) (hg : S.get n = some (.lst xs))
    (h : wp (evE cf e ρ) S fun v S1 => ∃ ys, S1.get n = some (.lst ys) ∧ ys.length < sizeMax ∧ wp (evSs cf r ρ) (S1.put n (.lst (ys ++ [v.d]))) Q) :
    wp (evSs cf (.cons (.app o e) r) ρ) S Q := by
  refine s_cons ?_
  simp only [evS]
  refine wp_bnd (wp_mD (wp_at (ho S) (wp_bnd ⟨(), S, ?_, wp_bnd (wp_mD (wp_mono h fun v S1 h1 => ?_))⟩)))
  · simp only [Fv.d, isCell, hg]
  · obtain ⟨ys, e1, e2, q⟩ := h1
    refine wp_bnd ⟨(), S1.put n (.lst (ys ++ [v.d])), ?_, wp_ret q⟩
    simp only [Fv.d, appO, e1, if_pos e2]
theorem s_appW {o e : E} {r : Ss} {Q : Fl × En → Store → Prop}
    (h : wp (evE cf o ρ) S fun x S1 => ∃ n xs, x.d = .ref n ∧ S1.get n = some (.lst xs) ∧ wp (evE cf e ρ) S1 fun v S2 => ∃ ys, S2.get n = some (.lst ys) ∧ ys.length < sizeMax ∧ wp (evSs cf r ρ) (S2.put n (.lst (ys ++ [v.d]))) Q) :
    wp (evSs cf (.cons (.app o e) r) ρ) S Q := by
  refine s_cons ?_
  simp only [evS]
  refine wp_bnd (wp_mD (wp_mono h fun x S1 h1 => ?_))
  obtain ⟨n, xs, ex, hg, h1⟩ := h1
  refine wp_bnd ⟨(), S1, ?_, wp_bnd (wp_mD (wp_mono h1 fun v S2 h2 => ?_))⟩
  · rw [ex]; simp only [isCell, hg]
  · obtain ⟨ys, e1, e2, q⟩ := h2
    refine wp_bnd ⟨(), S2.put n (.lst (ys ++ [v.d])), ?_, wp_ret q⟩
    rw [ex]
    simp only [appO, e1, if_pos e2]
theorem s_stl {i n : Nat} {xs : List D} {r : Ss} {Q : Fl × En → Store → Prop} (h : ρ[i]? = some (some (.ref n))) (hg : S.get n = some (.lst xs)) (q : wp (evSs cf r (ρ.set i (some (.lst xs)))) (S.del n) Q) : wp (evSs cf (.cons (.stl i) r) ρ) S Q := by
  refine s_cons ⟨(.nx, ρ.set i (some (.lst xs))), S.del n, ?_, q⟩
  simp only [evS, stlO, h, hg]
theorem s_iff {c : E} {a b r : Ss} {Q : Fl × En → Store → Prop} (h : wp (evE cf c ρ) S fun v S1 => ∃ t, truthy (S1.see v.d) = some t ∧ (t = true → wp (evSs cf a ρ) S1 (Nx cf r Q)) ∧ (t = false → wp (evSs cf b ρ) S1 (Nx cf r Q))) : wp (evSs cf (.cons (.iff c a b) r) ρ) S Q := by
  refine s_cons ?_
  simp only [evS]
  refine wp_bnd (wp_mD (wp_mono h fun v S1 h1 => ?_))
  obtain ⟨t, e, q1, q2⟩ := h1
  show wp (M.bnd (M.opt (truthy (S1.see v.d))) _) S1 _
  refine wp_bnd (wp_opt e ?_)
  cases t with
  | true => exact q1 rfl
  | false => exact q2 rfl
theorem w_still {n : Nat} {xs : List D} {Q : Unit → Store → Prop} (h : S.get n = some (.lst xs)) (q : Q () S) : wp (still n xs) S Q := by
  refine ⟨(), S, ?_, q⟩
  have sm : ∀ xs : List D, D.sms xs xs = true := sms_refl
  simp only [still, h, sm, if_true]
/-- a for over a list that may change, by what holds of those left; it stays while it is walked -/
theorem s_frC {α : Type} {enc : α → D} {t : T} {i n : Nat} {b r : Ss} {xs : List α} {Q : Fl × En → Store → Prop} (I : List α → En → Store → Prop) (hv : ρ[i]? = some (some (.ref n))) (hg : ∀ ys ρ S, I ys ρ S → S.get n = some (.lst (xs.map enc))) (h0 : I xs ρ S)
    (hs : ∀ y ys ρ S, I (y :: ys) ρ S → ∃ ρ1, bindT t (enc y) ρ = some ρ1 ∧ wp (evSs cf b ρ1) S fun p S' => match p.1 with
      | .nx => I ys p.2 S'
      | .rt v => Q (.rt v, p.2) S')
    (he : ∀ ρ S, I [] ρ S → wp (evSs cf r ρ) S Q) : wp (evSs cf (.cons (.fr t (.seq (.var i)) b) r) ρ) S Q := by
  refine s_cons ?_
  have hc : cellI (.seq (.var i)) ρ = some n := by simp only [cellI, hv]
  simp only [evS, hc, pick]
  refine wp_bnd ⟨xs.map enc, S, by simp only [readC, hg _ _ _ h0], ?_⟩
  have key : ∀ (ys : List α) ρ S, I ys ρ S → wp (loopC n (xs.map enc) t (evSs cf b) (ys.map enc) ρ) S (Nx cf r Q) := by
    intro ys
    induction ys with
    | nil => intro ρ S h; simp only [List.map_nil, loopC]; exact wp_bnd (w_still (hg _ _ _ h) (wp_ret (he _ _ h)))
    | cons y ys ih =>
      intro ρ S h
      obtain ⟨ρ1, h1, h2⟩ := hs y ys ρ S h
      simp only [List.map_cons, loopC]
      refine wp_bnd (w_still (hg _ _ _ h) (wp_bnd (wp_opt h1 (wp_bnd (wp_mono h2 fun p S' h3 => ?_)))))
      obtain ⟨f, ρ2⟩ := p
      cases f with
      | nx => exact ih _ _ h3
      | rt v => exact wp_ret h3
  exact key xs ρ S h0
theorem s_fr {t : T} {it : It} {b r : Ss} {Q : Fl × En → Store → Prop} (h : wp (evI cf it ρ) S fun xs S1 => wp (loopF t (evSs cf b) xs ρ) S1 (Nx cf r Q)) : wp (evSs cf (.cons (.fr t it b) r) ρ) S Q := by
  refine s_cons ?_
  obtain ⟨xs, S1, e1, h1⟩ := h
  simp only [evS, evI_cell e1, pick]
  exact wp_bnd ⟨xs, S1, e1, h1⟩
/-- a for loop by what holds of those left -/
theorem w_loop {α : Type} {enc : α → D} {t : T} {body : En → M (Fl × En)} {Q : Fl × En → Store → Prop} (I : List α → En → Store → Prop)
    (hs : ∀ y r ρ S, I (y :: r) ρ S → ∃ ρ1, bindT t (enc y) ρ = some ρ1 ∧ wp (body ρ1) S fun p S' => match p.1 with
      | .nx => I r p.2 S'
      | .rt v => Q (.rt v, p.2) S')
    (he : ∀ ρ S, I [] ρ S → Q (.nx, ρ) S) : ∀ {ys : List α} {ρ : En} {S : Store}, I ys ρ S → wp (loopF t body (ys.map enc) ρ) S Q
  | [], ρ, S, h => by simp only [List.map_nil, loopF]; exact wp_ret (he _ _ h)
  | y :: r, ρ, S, h => by
    obtain ⟨ρ1, h1, h2⟩ := hs y r ρ S h
    simp only [List.map_cons, loopF]
    refine wp_bnd (wp_opt h1 (wp_bnd (wp_mono h2 fun p S' h3 => ?_)))
    obtain ⟨f, ρ2⟩ := p
    cases f with
    | nx => exact w_loop I hs he h3
    | rt v => exact wp_ret h3
/-- a while loop by what falls -/
theorem w_while {c : E} {b : Ss} {Q : Fl × En → Store → Prop} (I : Nat → En → Store → Prop)
    (hs : ∀ m ρ S, I m ρ S → wp (evE cf c ρ) S fun v S1 => ∃ t, truthy (S1.see v.d) = some t ∧ (t = true → wp (evSs cf b ρ) S1 fun p S' => match p.1 with
      | .nx => ∃ m', m' < m ∧ I m' p.2 S'
      | .rt v => Q (.rt v, p.2) S') ∧ (t = false → Q (.nx, ρ) S1)) :
    ∀ {n m : Nat} {ρ : En} {S : Store}, m < n → I m ρ S → wp (loopW (fun ρ => M.bnd (mD (evE cf c ρ)) fun x => fun s => M.opt (truthy (s.see x)) s) (evSs cf b) n ρ) S Q
  | 0, _, _, _, h, _ => absurd h (Nat.not_lt_zero _)
  | n + 1, m, ρ, S, hm, h => by
    simp only [loopW]
    refine wp_bnd (wp_bnd (wp_mD (wp_mono (hs m ρ S h) fun v S1 h1 => ?_)))
    obtain ⟨t, e, q1, q2⟩ := h1
    refine wp_at (a := t) (S' := S1) (by rw [e]; rfl) ?_
    cases t with
    | false =>
      simp only [Bool.false_eq_true, if_false]
      exact wp_ret (q2 rfl)
    | true =>
      simp only [if_true]
      refine wp_bnd (wp_mono (q1 rfl) fun p S' h3 => ?_)
      obtain ⟨f, ρ2⟩ := p
      cases f with
      | nx =>
        obtain ⟨m', hm', h4⟩ := h3
        exact w_while I hs (by omega) h4
      | rt v => exact wp_ret h3
theorem s_whl {c : E} {b r : Ss} {Q : Fl × En → Store → Prop} (I : Nat → En → Store → Prop) {m : Nat} (hm : m < whMax) (h0 : I m ρ S)
    (hs : ∀ m ρ S, I m ρ S → wp (evE cf c ρ) S fun v S1 => ∃ t, truthy (S1.see v.d) = some t ∧ (t = true → wp (evSs cf b ρ) S1 fun p S' => match p.1 with
      | .nx => ∃ m', m' < m ∧ I m' p.2 S'
      | .rt v => Q (.rt v, p.2) S') ∧ (t = false → wp (evSs cf r ρ) S1 Q)) : wp (evSs cf (.cons (.whl c b) r) ρ) S Q := by
  refine s_cons ?_
  simp only [evS]
  exact w_while (Q := Nx cf r Q) I hs hm h0
end
section
variable {cf : Str → List D → M Fv} {ρ : En} {S : Store} {Q : Fl × En → Store → Prop}
theorem sp_asg {i : Nat} {e : E} {v : Fv} {r : Ss} (h : Ev cf ρ e v) (hr : wp (evSs cf r (ρ.set i (some v.d))) S Q) : wp (evSs cf (.cons (.asg i e) r) ρ) S Q := s_go (g_asg h) hr
theorem sp_exp {e : E} {v : Fv} {r : Ss} (h : Ev cf ρ e v) (hr : wp (evSs cf r ρ) S Q) : wp (evSs cf (.cons (.exp e) r) ρ) S Q := s_go (g_exp h) hr
theorem sp_ret {e : E} {v : Fv} {r : Ss} (h : Ev cf ρ e v) (q : Q (.rt v, ρ) S) : wp (evSs cf (.cons (.ret e) r) ρ) S Q := s_goR (g_ret h) q
theorem sp_par {ts : List Nat} {es : Es} {ds : List D} {ρ' : En} {r : Ss} (h : EvEs cf ρ es ds) (hb : bindAll ts ds ρ = some ρ') (hr : wp (evSs cf r ρ') S Q) : wp (evSs cf (.cons (.par ts es) r) ρ) S Q := s_go (g_par h hb) hr
theorem sp_asu {ts : List Nat} {e : E} {v : Fv} {ds : List D} {ρ' : En} {r : Ss} (h : Ev cf ρ e v) (hx : v.d = .tup ds ∨ v.d = .lst ds) (hb : bindAll ts ds ρ = some ρ') (hr : wp (evSs cf r ρ') S Q) : wp (evSs cf (.cons (.asu ts e) r) ρ) S Q := s_go (g_asu h hx hb) hr
theorem sp_iff {c : E} {a b r : Ss} {p : Bool} (hc : Ev cf ρ c (.fz (.bl p))) (hT : p = true → wp (evSs cf a ρ) S (Nx cf r Q)) (hF : p = false → wp (evSs cf b ρ) S (Nx cf r Q)) : wp (evSs cf (.cons (.iff c a b) r) ρ) S Q :=
  s_iff (w_ev hc ⟨p, rfl, hT, hF⟩)
theorem sp_iffT {c : E} {a b r : Ss} {p : Bool} (hc : Ev cf ρ c (.fz (.bl p))) (hp : p = true) (hT : wp (evSs cf a ρ) S (Nx cf r Q)) : wp (evSs cf (.cons (.iff c a b) r) ρ) S Q :=
  sp_iff hc (fun _ => hT) fun h => by rw [hp] at h; cases h
theorem sp_iffF {c : E} {a r : Ss} {p : Bool} (hc : Ev cf ρ c (.fz (.bl p))) (hp : p = false) (hF : wp (evSs cf r ρ) S Q) : wp (evSs cf (.cons (.iff c a .nil) r) ρ) S Q :=
  sp_iff hc (fun h => by rw [hp] at h; cases h) fun _ => s_nil hF
/-- a for over items of one make; I: what holds of those left -/
theorem sp_for {α : Type} {enc : α → D} {t : T} {it : It} {b r : Ss} {xs : List α} (I : List α → En → Store → Prop) (hi : EvI cf ρ it (xs.map enc)) (h0 : I xs ρ S)
    (hs : ∀ y ys ρ S, I (y :: ys) ρ S → ∃ ρ1, bindT t (enc y) ρ = some ρ1 ∧ wp (evSs cf b ρ1) S fun p S' => match p.1 with
      | .nx => I ys p.2 S'
      | .rt v => Q (.rt v, p.2) S')
    (he : ∀ ρ S, I [] ρ S → wp (evSs cf r ρ) S Q) : wp (evSs cf (.cons (.fr t it b) r) ρ) S Q :=
  s_fr (w_it hi (w_loop (Q := Nx cf r Q) I hs he h0))
end
section
variable {cf : Str → List D → M Fv} {ρ : En} {S : Store} {Q : Fl × En → Store → Prop}
/-- a for over the places below n, by place -/
theorem sp_range {t : T} {it : It} {b r : Ss} {n : Nat} (I : Nat → En → Store → Prop) (hi : EvI cf ρ it ((List.range n).map fun k : Nat => .int (k : Int))) (h0 : I 0 ρ S)
    (hs : ∀ j, j < n → ∀ ρ S, I j ρ S → ∃ ρ1, bindT t (.int (j : Int)) ρ = some ρ1 ∧ wp (evSs cf b ρ1) S fun p S' => match p.1 with
      | .nx => I (j + 1) p.2 S'
      | .rt v => Q (.rt v, p.2) S')
    (he : ∀ ρ S, I n ρ S → wp (evSs cf r ρ) S Q) : wp (evSs cf (.cons (.fr t it b) r) ρ) S Q := by
  refine sp_for (enc := fun k : Nat => .int (k : Int)) (xs := List.range n) (fun ys ρ S => ∃ j, j ≤ n ∧ ys = (List.range n).drop j ∧ I j ρ S) hi ⟨0, by omega, by simp, h0⟩ ?_ ?_
  · rintro y ys ρ S ⟨j, hj, e, h⟩
    have hj' : j < n := by
      by_cases q : j < n
      · exact q
      · rw [List.drop_of_length_le (by simp; omega)] at e; cases e
    rw [List.drop_eq_getElem_cons (by simpa using hj')] at e
    simp only [List.cons.injEq, List.getElem_range] at e
    obtain ⟨rfl, rfl⟩ := e
    obtain ⟨ρ1, h1, h2⟩ := hs y hj' ρ S h
    refine ⟨ρ1, h1, wp_mono h2 fun p S' h3 => ?_⟩
    obtain ⟨f, ρ2⟩ := p
    cases f with
    | nx => exact ⟨y + 1, by omega, rfl, h3⟩
    | rt v => exact h3
  · rintro ρ S ⟨j, hj, e, h⟩
    have : j = n := by
      by_cases q : j < n
      · rw [List.drop_eq_getElem_cons (by simpa using q)] at e; cases e
      · omega
    subst this
    exact he ρ S h
end
/-- a call of a def that gives out cells -/
theorem w_runR {P : Prog} {k : Nat} {f : Str} {d : Def} {ds : List D} {S : Store} {Q : Fv → Store → Prop} (hP : P f = some d) (hl : ds.length = d.np) (hr : d.raw = true)
    (h : wp (evSs (evCall P k) d.body (startE d.nn ds)) S fun p S' => match p.1 with
      | .nx => Q (.fz .non) S'
      | .rt v => Q v S') : wp (evCall P (k + 1) f ds) S Q := by
  obtain ⟨⟨f, ρ'⟩, S', e, q⟩ := h
  refine wp_at (m := evCall P (k + 1) _ ds) (a := match f with | .nx => .fz .non | .rt v => v) (S' := S') ?_ ?_
  · simp only [evCall, hP, hl, if_true, hr, Bool.not_true, Bool.false_and, Bool.false_eq_true, if_false, viewB]
    unfold runB
    rw [bnd_at e]
    cases f <;> rfl
  · cases f <;> exact q
/-- a pure call that uses cells of its own -/
theorem fn_wp {P : Prog} {m : Nat} {f : Str} {d : Def} {ds : List D} {v : Fv} (hP : P f = some d) (hr : d.raw = false) (hl : ds.length = d.np) (hp : D.pures ds = true) (hv : v.d.pure = true)
    (h : ∀ k, m ≤ k → wp (evSs (evCall P k) d.body (startE d.nn ds)) .mt fun p _ => p.1 = .rt v) : Fn P (m + 1) f ds v := fun k hk => .of fun S => by
  obtain ⟨j, rfl⟩ : ∃ j, k = j + 1 := ⟨k - 1, by omega⟩
  obtain ⟨⟨f, ρ'⟩, S', e, q⟩ := h j (by omega)
  simp only at q
  subst q
  simp only [evCall, hP, hl, if_true, hr, hp, Bool.not_false, Bool.and_self]
  unfold pureB
  have e2 : runB (evCall P j) d ds .mt = .ok v S' := by
    unfold runB
    rw [bnd_at e]; rfl
  rw [e2]
  simp only [hv, if_true]
/-- a call with cells among what it is given -/
theorem w_run {P : Prog} {k : Nat} {f : Str} {d : Def} {ds : List D} {S : Store} {Q : Fv → Store → Prop} (hP : P f = some d) (hl : ds.length = d.np) (hp : D.pures ds = false) (hv : D.pures (ds.map S.see) = false)
    (h : wp (evSs (evCall P k) d.body (startE d.nn ds)) S fun p S' => match p.1 with
      | .nx => Q (.fz .non) S'
      | .rt v => Q v S') : wp (evCall P (k + 1) f ds) S Q := by
  obtain ⟨⟨f, ρ'⟩, S', e, q⟩ := h
  refine wp_at (m := evCall P (k + 1) _ ds) (a := match f with | .nx => .fz .non | .rt v => v) (S' := S') ?_ ?_
  · simp only [evCall, hP, hl, if_true, hp, Bool.and_false, Bool.false_eq_true, if_false, viewB, hv]
    unfold runB
    rw [bnd_at e]
    cases f <;> rfl
  · cases f <;> exact q
/-- a call to which cells are only shown -/
theorem w_view {P : Prog} {m k : Nat} {f : Str} {d0 : Def} {ds ds' : List D} {v : Fv} {S : Store} {Q : Fv → Store → Prop} (hP0 : P f = some d0) (hr0 : d0.raw = false) (h : Fn P m f ds' v) (hk : m ≤ k) (e : ds.map S.see = ds') (hn : D.pures ds = false) (hp : D.pures ds' = true) (hf : v.d.flat = true) (q : Q v S) : wp (evCall P k f ds) S Q := by
  subst e
  refine ⟨v, S, ?_, q⟩
  have c := (h k hk).at_ .mt
  cases k with
  | zero => cases c
  | succ k =>
    have hl : (ds.map S.see).length = ds.length := List.length_map ..
    simp only [evCall] at c ⊢
    cases hP : P f with
    | none => rw [hP] at c; cases c
    | some d =>
      rw [hP] at c
      simp only [hl] at c ⊢
      by_cases hnp : ds.length = d.np
      · simp only [hnp, if_true, hp, hn, Bool.and_true, Bool.and_false, Bool.false_eq_true, if_false] at c ⊢
        have hr : d.raw = false := by rw [hP] at hP0; cases hP0; exact hr0
        simp only [hr, Bool.not_false, if_true] at c
        unfold pureB at c
        unfold viewB
        simp only [hr, hp, Bool.not_false, Bool.and_self, if_true]
        cases e : runB (evCall P k) d (ds.map S.see) .mt with
        | ok u S2 =>
          rw [e] at c
          simp only at c
          split at c
          · cases c
            simp only [hf, if_true]
          · cases c
        | exc x S2 =>
          rw [e] at c
          simp only at c
          split at c <;> cases c
        | bad => rw [e] at c; cases c
      · simp only [hnp, if_false] at c
        cases c
end Pe
set_option Elab.async false
set_option linter.all false
set_option maxRecDepth 100000
set_option maxHeartbeats 1000000
namespace Pe
open PySem
mutual
/-- no bool, no reference in it -/
def D.pl : D → Bool
  | .non => true
  | .int _ => true
  | .str _ => true
  | .tup xs => D.pls xs
  | .lst xs => D.pls xs
  | _ => false
def D.pls : List D → Bool
  | [] => true
  | d :: ds => d.pl && D.pls ds
end
theorem and2 {a b : Bool} (h : (a && b) = true) : a = true ∧ b = true := by simpa using h
mutual
theorem eqv_iff : ∀ {a b : D}, a.pl = true → b.pl = true → (PyData.eqv a.py b.py = true ↔ a = b)
  | .non, b, _, hb => by cases b <;> simp [D.py, PyData.eqv] <;> cases hb
  | .int i, b, _, hb => by cases b <;> simp [D.py, PyData.eqv] <;> cases hb
  | .str x, b, _, hb => by cases b <;> simp [D.py, PyData.eqv] <;> cases hb
  | .tup xs, b, ha, hb => by
    cases b with
    | tup ys =>
      simp only [D.py, PyData.eqv, D.tup.injEq]
      exact eqvs_iff (by simpa [D.pl] using ha) (by simpa [D.pl] using hb)
    | bl _ => cases hb
    | ref _ => cases hb
    | scr _ => cases hb
    | _ => simp [D.py, PyData.eqv]
  | .lst xs, b, ha, hb => by
    cases b with
    | lst ys =>
      simp only [D.py, PyData.eqv, D.lst.injEq]
      exact eqvs_iff (by simpa [D.pl] using ha) (by simpa [D.pl] using hb)
    | bl _ => cases hb
    | ref _ => cases hb
    | scr _ => cases hb
    | _ => simp [D.py, PyData.eqv]
  | .bl _, _, ha, _ => by cases ha
  | .ref _, _, ha, _ => by cases ha
  | .scr _, _, ha, _ => by cases ha
  | .dct0, _, ha, _ => by cases ha
  | .exn _ _ _, _, ha, _ => by cases ha
theorem eqvs_iff : ∀ {a b : List D}, D.pls a = true → D.pls b = true → (PyData.eqvAll (D.pys a) (D.pys b) = true ↔ a = b)
  | [], [], _, _ => by simp [D.pys, PyData.eqvAll]
  | [], _ :: _, _, _ => by simp [D.pys, PyData.eqvAll]
  | _ :: _, [], _, _ => by simp [D.pys, PyData.eqvAll]
  | x :: xs, y :: ys, ha, hb => by
    have h1 := and2 (show (D.pl _ && D.pls _) = true from ha)
    have h2 := and2 (show (D.pl _ && D.pls _) = true from hb)
    simp only [D.pys, PyData.eqvAll, Bool.and_eq_true, List.cons.injEq]
    rw [eqv_iff h1.1 h2.1, eqvs_iff h1.2 h2.2]
end
mutual
theorem ok_up : ∀ {n m : Nat} {d : D}, d.ok n = true → n ≤ m → d.ok m = true
  | n, m, .non, _, _ => by cases m <;> rfl
  | n, m, .bl _, _, _ => by cases m <;> rfl
  | n, m, .int _, _, _ => by cases m <;> rfl
  | n, m, .str _, _, _ => by cases m <;> rfl
  | 0, _, .tup _, h, _ => by cases h
  | 0, _, .lst _, h, _ => by cases h
  | n + 1, 0, .tup _, _, h => absurd h (by omega)
  | n + 1, 0, .lst _, _, h => absurd h (by omega)
  | n + 1, m + 1, .tup xs, h, hm => oks_up (n := n) (m := m) (ds := xs) h (by omega)
  | n + 1, m + 1, .lst xs, h, hm => oks_up (n := n) (m := m) (ds := xs) h (by omega)
  | n, _, .ref _, h, _ => by cases n <;> cases h
  | n, _, .scr _, h, _ => by cases n <;> cases h
  | n, _, .dct0, h, _ => by cases n <;> cases h
  | n, _, .exn _ _ _, h, _ => by cases n <;> cases h
theorem oks_up : ∀ {n m : Nat} {ds : List D}, D.oks n ds = true → n ≤ m → D.oks m ds = true
  | _, _, [], _, _ => rfl
  | n, m, d :: ds, h, hm => by
    have h1 := and2 (show (D.ok n d && D.oks n ds) = true from h)
    show (D.ok m d && D.oks m ds) = true
    rw [ok_up h1.1 hm, oks_up h1.2 hm]; rfl
end
/-- data of one make, at most n deep -/
structure Good {α : Type} (enc : α → D) (n : Nat) : Prop where
  inj : ∀ a b, enc a = enc b → a = b
  pl : ∀ a, (enc a).pl = true
  ok : ∀ a, (enc a).ok n = true
section
variable {α : Type} {enc : α → D} {n : Nat}
theorem pls_map (h : ∀ a, (enc a).pl = true) : ∀ xs : List α, D.pls (xs.map enc) = true
  | [] => rfl
  | x :: r => by
    show (D.pl _ && D.pls _) = true
    rw [h x, pls_map h r]; rfl
theorem oks_map (h : ∀ a, (enc a).ok n = true) : ∀ xs : List α, D.oks n (xs.map enc) = true
  | [] => rfl
  | x :: r => by
    show (D.ok n _ && D.oks n _) = true
    rw [h x, oks_map h r]; rfl
theorem map_inj' (h : ∀ a b, enc a = enc b → a = b) : ∀ {xs ys : List α}, xs.map enc = ys.map enc → xs = ys
  | [], [], _ => rfl
  | [], _ :: _, e => by cases e
  | _ :: _, [], e => by cases e
  | x :: xs, y :: ys, e => by
    simp only [List.map_cons, List.cons.injEq] at e
    rw [h _ _ e.1, map_inj' h e.2]
theorem Good.lst (g : Good enc n) : Good (fun xs : List α => .lst (xs.map enc)) (n + 1) where
  inj := fun a b h => map_inj' g.inj (by simpa using h)
  pl := fun a => pls_map g.pl a
  ok := fun a => oks_map g.ok a
theorem Good.tup (g : Good enc n) : Good (fun xs : List α => .tup (xs.map enc)) (n + 1) where
  inj := fun a b h => map_inj' g.inj (by simpa using h)
  pl := fun a => pls_map g.pl a
  ok := fun a => oks_map g.ok a
theorem Good.pair {β : Type} {enc' : β → D} (g : Good enc n) (g' : Good enc' n) : Good (fun p : α × β => .tup [enc p.1, enc' p.2]) (n + 1) where
  inj := fun a b h => by
    simp only [D.tup.injEq, List.cons.injEq, and_true] at h
    exact Prod.ext (g.inj _ _ h.1) (g'.inj _ _ h.2)
  pl := fun a => by
    show (D.pl _ && (D.pl _ && true)) = true
    rw [g.pl, g'.pl]; rfl
  ok := fun a => by
    show (D.ok n _ && (D.ok n _ && true)) = true
    rw [g.ok, g'.ok]; rfl
theorem good_int : Good (fun i : Int => .int i) 0 := ⟨fun a b h => by simpa using h, fun _ => rfl, fun _ => rfl⟩
theorem good_nat : Good (fun i : Nat => .int (i : Int)) 0 := ⟨fun a b h => by
  have : (a : Int) = b := by simpa using h
  omega, fun _ => rfl, fun _ => rfl⟩
theorem good_str : Good (fun i : Str => .str i) 0 := ⟨fun a b h => by simpa using h, fun _ => rfl, fun _ => rfl⟩
theorem Good.fine (g : Good enc n) (hn : n ≤ 20) (a : α) : (enc a).fine = true := ok_up (g.ok a) hn
theorem eqD_enc (g : Good enc n) (hn : n ≤ 20) (a b : α) {inst : Decidable (a = b)} : eqD (enc a) (enc b) = some (decide (a = b)) := by
  unfold eqD
  rw [g.fine hn, g.fine hn]
  simp only [Bool.and_self, if_true]
  congr 1
  rw [Bool.eq_iff_iff, eqv_iff (g.pl a) (g.pl b), decide_eq_true_iff]
  exact ⟨g.inj a b, fun h => by rw [h]⟩
theorem eq_enc (g : Good enc n) (hn : n ≤ 20) (a b : α) {inst : Decidable (a = b)} : op2 .eq (enc a) (enc b) = some (.fz (.bl (decide (a = b)))) := by
  simp only [op2, eqD_enc g hn, Option.map_some]
theorem ne_enc (g : Good enc n) (hn : n ≤ 20) (a b : α) {inst : Decidable (a = b)} : op2 .ne (enc a) (enc b) = some (.fz (.bl (!decide (a = b)))) := by
  simp only [op2, neD, eqD_enc g hn, Option.map_some]
theorem any_enc (g : Good enc n) (a : α) (bs : List α) {inst : Decidable (a ∈ bs)} : ((bs.map enc).any fun y => PyData.eqv y.py (enc a).py) = decide (a ∈ bs) := by
  rw [Bool.eq_iff_iff, decide_eq_true_iff, List.any_eq_true]
  constructor
  · rintro ⟨y, hy, e⟩
    obtain ⟨b, hb, rfl⟩ := List.mem_map.mp hy
    have := g.inj _ _ ((eqv_iff (g.pl b) (g.pl a)).mp e)
    rw [← this]; exact hb
  · intro h
    exact ⟨_, List.mem_map_of_mem h, (eqv_iff (g.pl a) (g.pl a)).mpr rfl⟩
theorem in_lst (g : Good enc n) (hn : n + 1 ≤ 20) (a : α) (bs : List α) {inst : Decidable (a ∈ bs)} : op2 .in_ (enc a) (.lst (bs.map enc)) = some (.fz (.bl (decide (a ∈ bs)))) := by
  have e : (D.lst (bs.map enc)).fine = true := g.lst.fine hn bs
  have e2 := g.fine (by omega) a
  have q := any_enc g a bs (inst := inst)
  cases h : enc a with
  | ref _ => rw [h] at e2; cases e2
  | scr _ => rw [h] at e2; cases e2
  | dct0 => rw [h] at e2; cases e2
  | exn _ _ _ => rw [h] at e2; cases e2
  | str z =>
    rw [h] at e2 q
    show (if (_ && _) = true then some (Fv.fz (D.bl _)) else none) = _
    rw [e2, e]
    simp only [Bool.and_self, if_true]
    rw [q]
  | _ =>
    rw [h] at e2 q
    show (if (_ && _) = true then some (Fv.fz (D.bl _)) else none) = _
    rw [e2, e]
    simp only [Bool.and_self, if_true]
    rw [q]
theorem in_tup (g : Good enc n) (hn : n + 1 ≤ 20) (a : α) (bs : List α) {inst : Decidable (a ∈ bs)} : op2 .in_ (enc a) (.tup (bs.map enc)) = some (.fz (.bl (decide (a ∈ bs)))) := by
  have e : (D.lst (bs.map enc)).fine = true := g.lst.fine hn bs
  have e2 := g.fine (by omega) a
  have q := any_enc g a bs (inst := inst)
  cases h : enc a with
  | ref _ => rw [h] at e2; cases e2
  | scr _ => rw [h] at e2; cases e2
  | dct0 => rw [h] at e2; cases e2
  | exn _ _ _ => rw [h] at e2; cases e2
  | str z =>
    rw [h] at e2 q
    show (if (_ && _) = true then some (Fv.fz (D.bl _)) else none) = _
    rw [e2, e]
    simp only [Bool.and_self, if_true]
    rw [q]
  | _ =>
    rw [h] at e2 q
    show (if (_ && _) = true then some (Fv.fz (D.bl _)) else none) = _
    rw [e2, e]
    simp only [Bool.and_self, if_true]
    rw [q]
theorem nin_lst (g : Good enc n) (hn : n + 1 ≤ 20) (a : α) (bs : List α) {inst : Decidable (a ∈ bs)} : op2 .nin (enc a) (.lst (bs.map enc)) = some (.fz (.bl (!decide (a ∈ bs)))) := by
  have e : (D.lst (bs.map enc)).fine = true := g.lst.fine hn bs
  have e2 := g.fine (by omega) a
  have q := any_enc g a bs (inst := inst)
  cases h : enc a with
  | ref _ => rw [h] at e2; cases e2
  | scr _ => rw [h] at e2; cases e2
  | dct0 => rw [h] at e2; cases e2
  | exn _ _ _ => rw [h] at e2; cases e2
  | str z =>
    rw [h] at e2 q
    show (if (_ && _) = true then some (Fv.fz (D.bl _)) else none) = _
    rw [e2, e]
    simp only [Bool.and_self, if_true]
    rw [q]
  | _ =>
    rw [h] at e2 q
    show (if (_ && _) = true then some (Fv.fz (D.bl _)) else none) = _
    rw [e2, e]
    simp only [Bool.and_self, if_true]
    rw [q]
/-- sorted(..) of data of one make -/
theorem srt_enc (g : Good enc n) (hn : n + 1 ≤ 20) {le : α → α → Bool} (hle : ∀ a b, le a b = leD (enc a) (enc b)) (ha : ∀ a b, W.alike (enc a).py (enc b).py = true)
    (ht : (∀ a, isTup1 (enc a) = true) ∨ (∀ a, noTup (enc a) = true)) {xs : List α} (hl : xs.length ≤ sizeMax) : srt (xs.map enc) = some ((xs.mergeSort le).map enc) := by
  rw [srt_eq]
  have e : (D.lst (xs.map enc)).fine = true := g.lst.fine hn xs
  have e2 : allAlike (xs.map enc) = true := by
    unfold allAlike
    simp only [List.all_map, List.all_eq_true, Function.comp]
    exact fun a _ b _ => ha a b
  have e3 : sortable (xs.map enc) = true := by
    unfold sortable
    simp only [List.all_map, Bool.or_eq_true, List.all_eq_true, Function.comp]
    rcases ht with ht | ht
    · exact .inl fun a _ => ht a
    · exact .inr fun a _ => ht a
  rw [e, e2, e3, List.length_map, List.map_mergeSort fun a _ b _ => hle a b]
  simp [hl]
end
theorem eqI (i j : Int) : op2 .eq (.int i) (.int j) = some (.fz (.bl (decide (i = j)))) := eq_enc good_int (by decide) i j
theorem neI (i j : Int) : op2 .ne (.int i) (.int j) = some (.fz (.bl (!decide (i = j)))) := ne_enc good_int (by decide) i j
theorem leI' (i j : Int) : op2 .le (.int i) (.int j) = some (.fz (.bl (decide (i ≤ j)))) := rfl
theorem geI' (i j : Int) : op2 .ge (.int i) (.int j) = some (.fz (.bl (decide (j ≤ i)))) := rfl
theorem ltI' (i j : Int) : op2 .lt (.int i) (.int j) = some (.fz (.bl (decide (i < j)))) := rfl
theorem gtI' (i j : Int) : op2 .gt (.int i) (.int j) = some (.fz (.bl (decide (j < i)))) := rfl
theorem rng_nat {n : Nat} (h : n < 2 ^ 62) : rngO 0 (n : Int) = some ((List.range n).map fun k : Nat => .int (k : Int)) := by
  unfold rngO
  have h1 : decide (-(2 ^ 62 : Int) ≤ 0 ∧ (0 : Int) < 2 ^ 62) = true := by decide
  have h2 : decide (-(2 ^ 62 : Int) ≤ (n : Int) ∧ (n : Int) < 2 ^ 62) = true := by
    rw [decide_eq_true_iff]
    have : ((2 ^ 62 : Nat) : Int) = 2 ^ 62 := by decide
    omega
  rw [h1, h2]
  simp
theorem enm_lst {α : Type} {enc : α → D} (xs : List α) : enmO (.lst (xs.map enc)) = some (xs.zipIdx.map fun p => .tup [.int (p.2 : Int), enc p.1]) := by
  show some (((xs.map enc).zipIdx).map _) = _
  congr 1
  rw [List.zipIdx_map, List.map_map]
  rfl
theorem enm_tup {α : Type} {enc : α → D} (xs : List α) : enmO (.tup (xs.map enc)) = some (xs.zipIdx.map fun p => .tup [.int (p.2 : Int), enc p.1]) := enm_lst xs
theorem add_lst {α : Type} {enc : α → D} {xs ys : List α} (h : xs.length + ys.length ≤ sizeMax) : op2 .add (.lst (xs.map enc)) (.lst (ys.map enc)) = some (.nw ((xs ++ ys).map enc)) := by
  show (if _ then _ else _) = _
  rw [List.length_map, List.length_map, if_pos h, List.map_append]
theorem len_lst {α : Type} {enc : α → D} (xs : List α) : bfO .len [.lst (xs.map enc)] = some (.fz (.int (xs.length : Int))) := by
  show some (Fv.fz (D.int _)) = _
  rw [List.length_map]
theorem len_tup {α : Type} {enc : α → D} (xs : List α) : bfO .len [.tup (xs.map enc)] = some (.fz (.int (xs.length : Int))) := by
  show some (Fv.fz (D.int _)) = _
  rw [List.length_map]
theorem ixT {ds : List D} {n : Nat} {d : D} (h : ds[n]? = some d) : op2 .ix (.tup ds) (.int (n : Nat)) = some (.fz d) := by
  show (L2.atI ds (n : Int)).map Fv.fz = _
  rw [L2.atI_nat h]; rfl
theorem ixL {ds : List D} {n : Nat} {d : D} (h : ds[n]? = some d) : op2 .ix (.lst ds) (.int (n : Nat)) = some (.fz d) := by
  show (L2.atI ds (n : Int)).map Fv.fz = _
  rw [L2.atI_nat h]; rfl
theorem ixLm {α : Type} {enc : α → D} {xs : List α} {n : Nat} {a : α} (h : xs[n]? = some a) : op2 .ix (.lst (xs.map enc)) (.int (n : Nat)) = some (.fz (enc a)) := ixL (by rw [List.getElem?_map, h]; rfl)
theorem ixTm {α : Type} {enc : α → D} {xs : List α} {n : Nat} {a : α} (h : xs[n]? = some a) : op2 .ix (.tup (xs.map enc)) (.int (n : Nat)) = some (.fz (enc a)) := ixT (by rw [List.getElem?_map, h]; rfl)
/-- xs[k:] -/
theorem cut_from {α : Type} {enc : α → D} {xs : List α} {k : Nat} : cutO (.lst (xs.map enc)) (some (k : Int)) none = some (.nw ((xs.drop k).map enc)) := by
  show some (Fv.nw (cutA _ _ _)) = _
  congr 2
  unfold cutA HT.sIx
  simp only [List.length_map]
  have h1 : ¬ ((k : Int) < 0) := by omega
  by_cases h : k ≤ xs.length
  · have h2 : ¬ ((xs.length : Int) < k) := by omega
    simp [h1, h2, List.map_drop]
    rw [Nat.min_eq_left h, ← List.map_drop, List.take_of_length_le (by simp)]
  · simp [h1, List.map_drop]
    rw [Nat.min_eq_right (by omega), List.drop_of_length_le (by simp : ((xs.map enc).length ≤ xs.length)), List.drop_of_length_le (by simp; omega)]
    simp
/-- xs[:k] -/
theorem cut_to {α : Type} {enc : α → D} {xs : List α} {k : Nat} : cutO (.lst (xs.map enc)) none (some (k : Int)) = some (.nw ((xs.take k).map enc)) := by
  show some (Fv.nw (cutA _ _ _)) = _
  congr 2
  unfold cutA HT.sIx
  simp only [List.length_map]
  have h1 : ¬ ((k : Int) < 0) := by omega
  simp [h1]
end Pe
set_option Elab.async false
set_option linter.all false
set_option maxRecDepth 100000
set_option maxHeartbeats 4000000
namespace Pe
open PySem PySem.Spec PyProof.Rows L2
theorem asc_unique {α : Type} (f : α → Int) : ∀ {xs ys : List α}, xs.Pairwise (fun a b => f a < f b) → ys.Pairwise (fun a b => f a < f b) → (∀ a, a ∈ xs ↔ a ∈ ys) → xs = ys
  | [], [], _, _, _ => rfl
  | [], y :: ys, _, _, h => by have := (h y).mpr List.mem_cons_self; simp at this
  | x :: xs, [], _, _, h => by have := (h x).mp List.mem_cons_self; simp at this
  | x :: xs, y :: ys, p, q, h => by
    have p' := List.pairwise_cons.mp p
    have q' := List.pairwise_cons.mp q
    have e : x = y := by
      rcases List.mem_cons.mp ((h x).mp List.mem_cons_self) with e | e
      · exact e
      · rcases List.mem_cons.mp ((h y).mpr List.mem_cons_self) with e' | e'
        · exact e'.symm
        · have h1 := q'.1 x e
          have h2 := p'.1 y e'
          omega
    subst e
    rw [asc_unique f p'.2 q'.2 fun a => ?_]
    constructor
    · intro ha
      have h1 := p'.1 a ha
      rcases List.mem_cons.mp ((h a).mp (List.mem_cons_of_mem _ ha)) with e | e
      · subst e; omega
      · exact e
    · intro ha
      have h1 := q'.1 a ha
      rcases List.mem_cons.mp ((h a).mpr (List.mem_cons_of_mem _ ha)) with e | e
      · subst e; omega
      · exact e
theorem insI_mem {x a : Int} : ∀ {xs : List Int}, a ∈ insI x xs ↔ a = x ∨ a ∈ xs
  | [] => by simp [insI]
  | y :: r => by
    unfold insI
    split
    · simp
    · split
      · rename_i h; subst h; simp
      · simp only [List.mem_cons, insI_mem (xs := r)]
        constructor
        · rintro (h | h | h)
          · exact .inr (.inl h)
          · exact .inl h
          · exact .inr (.inr h)
        · rintro (h | h | h)
          · exact .inr (.inl h)
          · exact .inl h
          · exact .inr (.inr h)
theorem insI_asc {x : Int} : ∀ {xs : List Int}, xs.Pairwise (· < ·) → (insI x xs).Pairwise (· < ·)
  | [], _ => by simp [insI]
  | y :: r, h => by
    have h' := List.pairwise_cons.mp h
    unfold insI
    split
    · rename_i hx
      refine List.pairwise_cons.mpr ⟨fun a ha => ?_, h⟩
      rcases List.mem_cons.mp ha with e | e
      · subst e; exact hx
      · have := h'.1 a e; omega
    · split
      · exact h
      · rename_i h1 h2
        refine List.pairwise_cons.mpr ⟨fun a ha => ?_, insI_asc h'.2⟩
        rcases insI_mem.mp ha with e | e
        · subst e; omega
        · exact h'.1 a e
theorem ssI_mem {a : Int} : ∀ {xs : List Int}, a ∈ ssI xs ↔ a ∈ xs
  | [] => by simp [ssI]
  | x :: r => by simp [ssI, insI_mem, ssI_mem (xs := r)]
theorem ssI_asc : ∀ xs : List Int, (ssI xs).Pairwise (· < ·)
  | [] => .nil
  | _ :: r => insI_asc (ssI_asc r)
theorem code_eq : ∀ t : List Int, TS.code 64 t = code64 t
  | [] => rfl
  | d :: r => by unfold TS.code code64; rw [code_eq r]
theorem code_lt64 : ∀ {t : List Int}, bd64 t = true → 0 ≤ code64 t ∧ code64 t < 64 ^ t.length
  | [], _ => by simp [code64]
  | d :: r, h => by
    unfold bd64 at h
    simp only [List.all_cons, Bool.and_eq_true, decide_eq_true_eq] at h
    obtain ⟨h1, h2⟩ := code_lt64 (t := r) (by unfold bd64; exact h.2)
    unfold code64
    rw [List.length_cons, Int.pow_succ]
    have hp : (0 : Int) < 64 ^ r.length := Int.pow_pos (by decide)
    have h3 := Int.mul_le_mul_of_nonneg_right (show d ≤ 63 by omega) (Int.le_of_lt hp)
    have h4 := Int.mul_nonneg h.1.1 (Int.le_of_lt hp)
    omega
theorem code_inj64 : ∀ {t u : List Int}, bd64 t = true → bd64 u = true → t.length = u.length → code64 t = code64 u → t = u
  | [], [], _, _, _, _ => rfl
  | [], _ :: _, _, _, h, _ => by simp at h
  | _ :: _, [], _, _, h, _ => by simp at h
  | d :: r, e :: s, h1, h2, hl, hc => by
    unfold bd64 at h1 h2
    simp only [List.all_cons, Bool.and_eq_true, decide_eq_true_eq] at h1 h2
    have hl' : r.length = s.length := by simpa using hl
    obtain ⟨a1, a2⟩ := code_lt64 (t := r) (by unfold bd64; exact h1.2)
    obtain ⟨b1, b2⟩ := code_lt64 (t := s) (by unfold bd64; exact h2.2)
    unfold code64 at hc
    rw [hl'] at hc a2
    have hp : (0 : Int) < 64 ^ s.length := Int.pow_pos (by decide)
    have hd : d = e := by
      rcases Int.lt_trichotomy d e with q | q | q
      · have := Int.mul_le_mul_of_nonneg_right (show d + 1 ≤ e by omega) (Int.le_of_lt hp)
        rw [Int.add_mul] at this
        omega
      · exact q
      · have := Int.mul_le_mul_of_nonneg_right (show e + 1 ≤ d by omega) (Int.le_of_lt hp)
        rw [Int.add_mul] at this
        omega
    subst hd
    rw [code_inj64 (by unfold bd64; exact h1.2) (by unfold bd64; exact h2.2) hl' (by omega)]
theorem insT_mem {x a : List Int} : ∀ {xs : List (List Int)}, a ∈ insT x xs ↔ a = x ∨ a ∈ xs
  | [] => by simp [insT]
  | y :: r => by
    unfold insT
    split
    · simp
    · split
      · rename_i h; subst h; simp
      · simp only [List.mem_cons, insT_mem (xs := r)]
        constructor
        · rintro (h | h | h)
          · exact .inr (.inl h)
          · exact .inl h
          · exact .inr (.inr h)
        · rintro (h | h | h)
          · exact .inr (.inl h)
          · exact .inl h
          · exact .inr (.inr h)
theorem ssT_mem {a : List Int} : ∀ {xs : List (List Int)}, a ∈ ssT xs ↔ a ∈ xs
  | [] => by simp [ssT]
  | x :: r => by simp [ssT, insT_mem, ssT_mem (xs := r)]
def Even (d : Nat) (t : List Int) : Prop := bd64 t = true ∧ t.length = d
theorem insT_asc {d : Nat} {x : List Int} (hx : Even d x) : ∀ {xs : List (List Int)}, (∀ t ∈ xs, Even d t) → xs.Pairwise (fun a b => code64 a < code64 b) → (insT x xs).Pairwise (fun a b => code64 a < code64 b)
  | [], _, _ => by simp [insT]
  | y :: r, he, h => by
    have h' := List.pairwise_cons.mp h
    unfold insT
    split
    · rename_i hx
      refine List.pairwise_cons.mpr ⟨fun a ha => ?_, h⟩
      rcases List.mem_cons.mp ha with e | e
      · subst e; exact hx
      · have := h'.1 a e; omega
    · split
      · exact h
      · rename_i h1 h2
        refine List.pairwise_cons.mpr ⟨fun a ha => ?_, insT_asc hx (fun t ht => he t (List.mem_cons_of_mem _ ht)) h'.2⟩
        rcases insT_mem.mp ha with e | e
        · subst e
          have hy := he y List.mem_cons_self
          have : code64 y ≠ code64 a := fun z => h2 (code_inj64 hy.1 hx.1 (hy.2.trans hx.2.symm) z).symm
          omega
        · exact h'.1 a e
theorem ssT_asc {d : Nat} : ∀ {xs : List (List Int)}, (∀ t ∈ xs, Even d t) → (ssT xs).Pairwise (fun a b => code64 a < code64 b)
  | [], _ => .nil
  | x :: r, h => insT_asc (h x List.mem_cons_self) (fun t ht => h t (List.mem_cons_of_mem _ (ssT_mem.mp ht))) (ssT_asc fun t ht => h t (List.mem_cons_of_mem _ ht))
section
variable {X : Cx} {cn : Cn} {cf : Cf} {W : L2.WX} {σ : L2.St} {H : Hp}
def rSetAny (K : PySem.W.Frag) (P : Program) (w : World) : List V → Hp → VK → Prop := fun xs H Q => rSetOfI K w xs H Q ∨ rSetOfT K P w xs H Q ∨ NS.rSetN K w xs H Q
def rSortAny (K : PySem.W.Frag) (P : Program) (w : World) : List V → Hp → VK → Prop := fun xs H Q => rSortedSet w xs H Q ∨ rSortedT K P w xs H Q ∨ NS.rSortN K w xs H Q
theorem cr_setAny (hc : X.calm = true) (hu : X.A.units + 64 < cLine) : CallR X (.type "set") (rSetAny X.K X.prog X.w) := fun pins s σ H xs us Q I r h => h.elim (cr_setOfI hc pins s σ H xs us Q I r) fun h => h.elim (cr_setOfT hc hu pins s σ H xs us Q I r) (NS.cr_setN hc hu pins s σ H xs us Q I r)
theorem cr_sortAny (hc : X.calm = true) (hu : X.A.units + 64 < cLine) : CallR X (.builtin "sorted") (rSortAny X.K X.prog X.w) := fun pins s σ H xs us Q I r h => h.elim (cr_sortedSet hc pins s σ H xs us Q I r) fun h => h.elim (cr_sortedT hc pins s σ H xs us Q I r) (NS.cr_sortN hc hu pins s σ H xs us Q I r)
mutual
theorem nk_pl : ∀ {n : Nat} {d : D}, d.nk n = true → d.pl = true
  | n, .non, _ => rfl
  | n, .int _, _ => rfl
  | 0, .tup _, h => by cases h
  | n + 1, .tup xs, h => nks_pl (n := n) (ds := xs) h
  | n, .bl _, h => by cases n <;> cases h
  | n, .str _, h => by cases n <;> cases h
  | n, .lst _, h => by cases n <;> cases h
  | n, .ref _, h => by cases n <;> cases h
  | n, .scr _, h => by cases n <;> cases h
  | n, .dct0, h => by cases n <;> cases h
  | n, .exn _ _ _, h => by cases n <;> cases h
theorem nks_pl : ∀ {n : Nat} {ds : List D}, D.nks n ds = true → D.pls ds = true
  | _, [], _ => rfl
  | n, d :: ds, h => by
    have h : d.nk n = true ∧ D.nks n ds = true := by simpa [D.nks] using h
    show (D.pl d && D.pls ds) = true
    rw [nk_pl h.1, nks_pl h.2]; rfl
end
theorem any_eqv {x : D} {xs : List D} (hx : x.pl = true) (h : ∀ d ∈ xs, d.pl = true) : (xs.any fun y => PyData.eqv y.py x.py) = true ↔ x ∈ xs := by
  rw [List.any_eq_true]
  constructor
  · rintro ⟨y, hy, e⟩
    rw [← (eqv_iff (h y hy) hx).mp e]; exact hy
  · exact fun z => ⟨x, z, (eqv_iff hx hx).mpr rfl⟩
theorem dedup_mem {a : D} : ∀ {xs : List D}, (∀ d ∈ xs, d.pl = true) → (a ∈ dedup xs ↔ a ∈ xs)
  | [], _ => Iff.rfl
  | x :: xs, h => by
    have hx := h x List.mem_cons_self
    have hr := fun d z => h d (List.mem_cons_of_mem x z)
    unfold dedup
    by_cases c : (xs.any fun y => PyData.eqv y.py x.py) = true
    · rw [if_pos c, dedup_mem hr, List.mem_cons]
      exact ⟨.inr, fun z => z.elim (fun e => by rw [e]; exact (any_eqv hx hr).mp c) id⟩
    · rw [if_neg c, List.mem_cons, List.mem_cons, dedup_mem hr]
theorem dedup_nodup : ∀ {xs : List D}, (∀ d ∈ xs, d.pl = true) → (dedup xs).Nodup
  | [], _ => List.nodup_nil
  | x :: xs, h => by
    have hx := h x List.mem_cons_self
    have hr := fun d z => h d (List.mem_cons_of_mem x z)
    unfold dedup
    by_cases c : (xs.any fun y => PyData.eqv y.py x.py) = true
    · rw [if_pos c]; exact dedup_nodup hr
    · rw [if_neg c]
      exact List.nodup_cons.mpr ⟨fun z => c ((any_eqv hx hr).mpr ((dedup_mem hr).mp z)), dedup_nodup hr⟩
theorem reps_pl {K : PySem.W.Frag} {G : Hp} {μ : Mu} : ∀ {ds : List D} {vs : List V}, (∀ d ∈ ds, isTup1 d = true) → Reps K G μ vs ds → ∃ ks : List NS.Pl, vs = ks.map (fun p => V.ref p.2) ∧ ks.map (·.1) = ds ∧ ∀ p ∈ ks, Rep K G μ (V.ref p.2) p.1
  | [], _, _, .nil => ⟨[], rfl, rfl, by simp⟩
  | d :: r, _, h, .cons a b => by
    obtain ⟨ks, e1, e2, e3⟩ := reps_pl (fun d z => h d (List.mem_cons_of_mem _ z)) b
    have h0 := h d List.mem_cons_self
    cases a with
    | @tup t ws _ hs rs =>
      exact ⟨(_, t) :: ks, by rw [e1]; rfl, by rw [← e2]; rfl, fun p hp => by
        rcases List.mem_cons.mp hp with e | e
        · subst e; exact .tup hs rs
        · exact e3 p e⟩
    | _ => cases h0
theorem pl_reps {K : PySem.W.Frag} {G : Hp} {μ : Mu} : ∀ {ks : List NS.Pl}, (∀ p ∈ ks, Rep K G μ (V.ref p.2) p.1) → Reps K G μ (ks.map fun p => V.ref p.2) (ks.map (·.1))
  | [], _ => .nil
  | p :: r, h => .cons (h p List.mem_cons_self) (pl_reps fun q hq => h q (List.mem_cons_of_mem _ hq))
/-- the same things in one order -/
theorem sorted_one {L : List D} {xs : List D} {n : Nat} (hx : ∀ d ∈ xs, d.nk n = true) (al : allAlike xs = true) (hs : L.Pairwise fun a b => leD a b = true) (nd : L.Nodup) (hm : ∀ a, a ∈ L ↔ a ∈ xs) : L = (dedup xs).mergeSort leD := by
  have hp : ∀ d ∈ xs, d.pl = true := fun d z => nk_pl (hx d z)
  have pm : L.Perm ((dedup xs).mergeSort leD) := ((List.perm_ext_iff_of_nodup nd (dedup_nodup hp)).mpr fun a => by rw [hm, dedup_mem hp]).trans (List.mergeSort_perm _ _).symm
  refine List.Perm.eq_of_pairwise (le := fun a b => leD a b = true) (fun a b ha hb h1 h2 => ?_) hs (List.pairwise_mergeSort NS.leD_trans NS.leD_total _) pm
  have ma := (hm a).mp ha
  have mb := (dedup_mem hp).mp ((List.mergeSort_perm _ _).subset hb)
  have al2 : W.alike a.py b.py = true := by
    unfold allAlike at al
    rw [List.all_eq_true] at al
    have := al a ma
    rw [List.all_eq_true] at this
    exact this b mb
  exact (eqv_iff (hp a ma) (hp b mb)).mp (NS.leD_eqv al2 h1 h2)
theorem ssN_ok {B G0 G H : Hp} {μ : Mu} {S : Store} {xs ds : List D} {es : List V} {a : Addr} {Q : VK} (w : Wd X.K B G0 G μ S H) (hx : SqL X.K H a es) (rs : Reps X.K G μ es xs) (hl : xs.length < 64) (hds : ssN xs = some ds)
    (fin : ∀ G' H', Le G G' → Wd X.K B G0 G' μ S H' → ∀ z, FvOk X.K B G' μ S H' z (.nw ds) → Q z H') : NS.rSetN X.K X.w [V.ref a] H fun x H2 => rSortAny X.K X.prog X.w [x] H2 Q := by
  rw [ssN_eq] at hds
  split at hds
  · rename_i hc
    cases hds
    simp only [Bool.and_eq_true, List.all_eq_true] at hc
    obtain ⟨hk, al⟩ := hc
    obtain ⟨ks, rfl, e2, e3⟩ := reps_pl (fun d z => (hk d z).2) rs
    have inx : ∀ p ∈ ks, p.1 ∈ xs := fun p hp => by rw [← e2]; exact List.mem_map_of_mem hp
    refine ⟨a, ks, rfl, hx, fun p hp => ⟨dp_le w.gh ((e3 p hp).dp 8 (NS.nk_ok (hk _ (inx p hp)).1)), (hk _ (inx p hp)).1⟩, by rw [← e2, List.length_map] at hl; exact hl, fun b L hb hL1 hL2 nd => ?_⟩
    obtain ⟨w2, l2, g2⟩ := w.newG (o := NS.SetNO X.w b (L.map NS.ent)) hb
    have eL : allAlike (L.map (·.1)) = true := by
      unfold allAlike at al ⊢
      rw [List.all_eq_true] at al ⊢
      intro d hd
      obtain ⟨p, hp, rfl⟩ := List.mem_map.mp hd
      have := al p.1 (inx p (hL1 p hp))
      rw [List.all_eq_true] at this ⊢
      intro d' hd'
      obtain ⟨p', hp', rfl⟩ := List.mem_map.mp hd'
      exact this p'.1 (inx p' (hL1 p' hp'))
    refine .inr (.inr ⟨b, L, rfl, upd_same, fun p hp => ⟨dp_le w2.gh (dp_le l2 ((e3 p (hL1 p hp)).dp 8 (NS.nk_ok (hk _ (inx p (hL1 p hp))).1))), hk _ (inx p (hL1 p hp))⟩, eL, fun L' p pm hs hp => ?_⟩)
    have e : L'.map (·.1) = (dedup xs).mergeSort leD := sorted_one (fun d z => (hk d z).1) al hs ((pm.map (·.1)).nodup_iff.mpr nd) fun d => by
      rw [(pm.map (·.1)).mem_iff]
      constructor
      · intro z
        obtain ⟨q, hq, rfl⟩ := List.mem_map.mp z
        exact inx q (hL1 q hq)
      · intro z
        rw [← e2] at z
        obtain ⟨q, hq, rfl⟩ := List.mem_map.mp z
        exact hL2 q hq
    obtain ⟨w3, f3⟩ := w2.newF hp (pl_reps (ks := L') fun q hq => (e3 q (hL1 q (pm.mem_iff.mp hq))).up l2 fun _ _ e => e)
    rw [e] at f3
    exact fin _ _ l2 w3 _ f3
  · cases hds
theorem repsI {K : PySem.W.Frag} {G : Hp} {μ : Mu} : ∀ {ds : List D} {is : List Int} {vs : List V}, unInts ds = some is → Reps K G μ vs ds → vs = is.map V.int
  | [], is, _, h, .nil => by cases h; rfl
  | d :: r, is, _, h, .cons a b => by
    cases d <;> simp only [unInts, reduceCtorEq, Option.map_eq_some_iff] at h
    obtain ⟨is', h1, rfl⟩ := h
    cases a
    rw [repsI h1 b]; rfl
/-- the tuples where they lie -/
theorem reps_tups {K : PySem.W.Frag} {G : Hp} {μ : Mu} : ∀ {ds : List D} {ts : List (List Int)} {vs : List V}, unTups ds = some ts → Reps K G μ vs ds → ∃ ks : List (Addr × List Int), vs = ks.map (fun p => V.ref p.1) ∧ ks.map (·.2) = ts ∧ ∀ p ∈ ks, SqT K G p.1 (p.2.map V.int)
  | [], ts, _, h, .nil => by cases h; exact ⟨[], rfl, rfl, by simp⟩
  | d :: r, ts, _, h, .cons a b => by
    cases d <;> simp only [unTups, reduceCtorEq, Option.bind_eq_some_iff, Option.map_eq_some_iff] at h
    obtain ⟨is, h1, ts', h2, rfl⟩ := h
    cases a
    rename_i t ws hs rs
    obtain ⟨ks, e1, e2, e3⟩ := reps_tups h2 b
    have hw := repsI h1 rs
    subst hw
    exact ⟨(t, is) :: ks, by rw [e1]; rfl, by rw [← e2]; rfl, fun p hp => by
      rcases List.mem_cons.mp hp with e | e
      · subst e; exact hs
      · exact e3 p e⟩
theorem int_reps {K : PySem.W.Frag} {G : Hp} {μ : Mu} : ∀ is : List Int, Reps K G μ (is.map V.int) (is.map D.int)
  | [] => .nil
  | i :: r => .cons (.int i) (int_reps r)
theorem tup_reps {K : PySem.W.Frag} {G : Hp} {μ : Mu} : ∀ {ks : List (Addr × List Int)}, (∀ p ∈ ks, SqT K G p.1 (p.2.map V.int)) → Reps K G μ (ks.map fun p => V.ref p.1) ((ks.map (·.2)).map fun t => D.tup (t.map D.int))
  | [], _ => .nil
  | p :: r, h => .cons (.tup (h p List.mem_cons_self) (int_reps _)) (tup_reps fun q hq => h q (List.mem_cons_of_mem _ hq))
theorem ssr_ints {xs : List D} {is : List Int} (hl : xs.length < 64) (h : unInts xs = some is) : ssrO (.lst xs) = some ((ssI is).map .int) := by
  simp only [ssrO, hl, if_true, h]
theorem len_ints : ∀ {ds : List D} {is : List Int}, unInts ds = some is → is.length = ds.length
  | [], is, h => by cases h; rfl
  | d :: r, is, h => by
    cases d <;> simp only [unInts, reduceCtorEq, Option.map_eq_some_iff] at h
    obtain ⟨is', h1, rfl⟩ := h
    simp [len_ints h1]
theorem t_ssr {a : E} {Q : VK} (h : tE X.K cn cf W (.ssr a) σ H Q) : tCB (rSortAny X.K X.prog X.w) (tCons (tCB (rSetAny X.K X.prog X.w) (tCons (tE X.K cn cf W a) tNil)) tNil) σ H Q := by
  obtain ⟨B, G0, G, μ, S, ρ, w, er, h⟩ := h
  simp only [evE] at h
  refine tE_use w er h fun d G1 μ1 S1 H1 x l m w1 er1 r1 h1 => ?_
  obtain ⟨ds, hds, k⟩ := After.opt w1 (After.bnd h1)
  have s1 := see_ok w1 r1
  generalize S1.see d = d' at s1 hds
  have fin : ∀ G' H', Le G1 G' → Wd X.K B G0 G' μ1 S1 H' → ∀ z, FvOk X.K B G' μ1 S1 H' z (.nw ds) → Q z H' := fun G' H' l' w' z f => After.now w' (k G' H' l' w') z f
  cases s1 <;> simp only [ssrO, reduceCtorEq] at hds
  case tup =>
    rename_i a es xs hx rs
    split at hds
    · rename_i hlen
      obtain ⟨is, his, rfl⟩ := Option.map_eq_some_iff.mp hds
      have hv := repsI his rs
      subst hv
      have hil := len_ints his
      refine .inl ⟨a, is, rfl, .inr (seqT_le w1.gh hx), by omega, fun b n hn hb => ?_⟩
      obtain ⟨w2, l2, g2⟩ := w1.newG (o := SetO X.w b (fun j => decide (j ∈ is)) n) hb
      refine .inl ⟨b, _, n, rfl, upd_same, by omega, fun ns p hp hm hnl hpn => ?_⟩
      have e : ns = ssI is := asc_unique (f := id) hp (ssI_asc is) fun j => by rw [hm, ssI_mem]; simp
      subst e
      obtain ⟨w3, f3⟩ := w2.newF hpn (int_reps (ssI is))
      exact fin _ _ l2 w3 _ f3
    · cases hds
  rename_i a xs es hx rs
  split at hds
  · rename_i hlen
    split at hds
    · rename_i is his
      cases hds
      have hv := repsI his rs
      subst hv
      have hil := len_ints his
      refine .inl ⟨a, is, rfl, .inl (SqL.of hx), by omega, fun b n hn hb => ?_⟩
      obtain ⟨w2, l2, g2⟩ := w1.newG (o := SetO X.w b (fun j => decide (j ∈ is)) n) hb
      refine .inl ⟨b, _, n, rfl, upd_same, by omega, fun ns p hp hm hnl hpn => ?_⟩
      have e : ns = ssI is := asc_unique (f := id) hp (ssI_asc is) fun j => by rw [hm, ssI_mem]; simp
      subst e
      obtain ⟨w3, f3⟩ := w2.newF hpn (int_reps (ssI is))
      exact fin _ _ l2 w3 _ f3
    · split at hds
      · rename_i ts hts
        split at hds
        · rename_i hev
          cases hds
          obtain ⟨ks, rfl, e2, e3⟩ := reps_tups hts rs
          have hkl : ks.length < 64 := by
            have := rs.len
            simp only [List.length_map] at this
            omega
          have ev : ∃ d, 1 ≤ d ∧ ∀ t ∈ ts, Even d t := by
            unfold evenT at hev
            split at hev
            · cases hev
            · rename_i t r
              simp only [Bool.and_eq_true, List.all_eq_true, beq_iff_eq] at hev
              refine ⟨t.length, ?_, fun u hu => ⟨(hev.2 u hu).2, (hev.2 u hu).1⟩⟩
              have := hev.1
              cases t with
              | nil => simp at this
              | cons _ _ => simp
          obtain ⟨dd, hd1, hev⟩ := ev
          refine .inr (.inl ⟨a, ks, rfl, SqL.of hx, fun p hp => seqT_le w1.gh (e3 p hp), hkl, fun b L hb hL1 hL2 => ?_⟩)
          obtain ⟨w2, l2, g2⟩ := w1.newG (o := SetTO X.prog X.w b L) hb
          have hmem : ∀ p ∈ ks, p.2 ∈ ts := fun p hp => by rw [← e2]; exact List.mem_map_of_mem hp
          refine .inr (.inl ⟨b, L, dd, 64, rfl, upd_same, fun p hp => seqT_le (fun a o q => w2.gh _ _ (l2 _ _ q)) (e3 p (hL1 p hp)), hd1, fun p hp => ⟨(hev _ (hmem p (hL1 p hp))).2, ?_⟩, fun L' p hperm hnd hlen' hpw hpn => ?_⟩)
          · have hb64 := (hev _ (hmem p (hL1 p hp))).1
            unfold bd64 at hb64
            intro j hj
            have := List.all_eq_true.mp hb64 j hj
            simpa using this
          · have hL' : ∀ q ∈ L', q ∈ ks := fun q hq => hL1 q (hperm.mem_iff.mp hq)
            have hstrict : (L'.map (·.2)).Pairwise (fun a b => code64 a < code64 b) := by
              rw [List.pairwise_map]
              have hnd' : L'.Pairwise (fun a b => a.2 ≠ b.2) := by
                have := hnd
                unfold List.Nodup at this
                rwa [List.pairwise_map] at this
              have hall : L'.Pairwise (fun a b => Even dd a.2 ∧ Even dd b.2) := by
                rw [List.pairwise_iff_forall_sublist]
                intro a b hs
                exact ⟨hev _ (hmem _ (hL' a (hs.subset (by simp)))), hev _ (hmem _ (hL' b (hs.subset (by simp))))⟩
              refine ((hpw.and hnd').and hall).imp fun {a b} ⟨⟨h1, h2⟩, h3, h4⟩ => ?_
              rw [code_eq, code_eq] at h1
              have : code64 a.2 ≠ code64 b.2 := fun z => h2 (code_inj64 h3.1 h4.1 (h3.2.trans h4.2.symm) z)
              omega
            have e : L'.map (·.2) = ssT ts := asc_unique code64 hstrict (ssT_asc hev) fun t => by
              rw [ssT_mem]
              constructor
              · intro ht
                obtain ⟨q, hq, rfl⟩ := List.mem_map.mp ht
                exact hmem q (hL' q hq)
              · intro ht
                rw [← e2] at ht
                obtain ⟨q, hq, rfl⟩ := List.mem_map.mp ht
                obtain ⟨q2, hq2, e4⟩ := List.mem_map.mp (hL2 q hq)
                exact List.mem_map.mpr ⟨q2, hperm.mem_iff.mpr hq2, e4⟩
            obtain ⟨w3, f3⟩ := w2.newF hpn (tup_reps (ks := L') fun q hq => seqT_le l2 (e3 q (hL' q hq)))
            rw [e] at f3
            exact fin _ _ l2 w3 _ f3
        · exact .inr (.inr (ssN_ok w1 (SqL.of hx) rs hlen hds fin))
      · exact .inr (.inr (ssN_ok w1 (SqL.of hx) rs hlen hds fin))
  · cases hds
end
end Pe
set_option Elab.async false
set_option linter.all false
set_option maxRecDepth 100000
set_option maxHeartbeats 4000000
namespace Pe
open PySem PySem.Spec PyProof.Rows L2
/-- what is told of the classes -/
structure Kt where
  new : Str → Option (Str × Nat)
  mth : Str → Option (Str × Str × Nat)
  prp : Str → Option (Str × Str)
  exc : Str → Option (List Str)
  sub : Str → Option (List Str × List Str)
  att : Str → Option (List Str × List Str)
def Kt.no : Kt := ⟨fun _ => none, fun _ => none, fun _ => none, fun _ => none, fun _ => none, fun _ => none⟩
structure Cc where
  N : List Str
  tab : Tab
  cs : Str → Option D
  kt : Kt := Kt.no
def slot : List Str → Str → Option Nat
  | [], _ => none
  | y :: r, x => if y = x then some 0 else (slot r x).map (· + 1)
theorem slot_ok : ∀ {N : List Str} {x : Str} {i : Nat}, slot N x = some i → N[i]? = some x
  | [], _, _, h => by simp [slot] at h
  | y :: r, x, i, h => by
    unfold slot at h
    split at h
    · rename_i e
      cases h
      simp [e]
    · cases e : slot r x with
      | none => rw [e] at h; cases h
      | some j =>
        rw [e] at h
        simp only [Option.map_some, Option.some.injEq] at h
        subst h
        simpa using slot_ok e
def visB (sc : Scope) (x : Str) : Bool := match sc.names.lookup x with
  | some .local => true
  | some .cell => true
  | some .free => true
  | _ => false
theorem visB_ok {sc : Scope} {x : Str} (h : visB sc x = true) : Vis sc x := by
  unfold visB at h
  split at h
  · exact .inl (by assumption)
  · exact .inr (.inl (by assumption))
  · exact .inr (.inr (by assumption))
  · cases h
def locB (sc : Scope) (x : Str) : Bool := match sc.names.lookup x with
  | some .local => true
  | some .cell => true
  | _ => false
theorem locB_ok {sc : Scope} {x : Str} (h : locB sc x = true) : Loc sc x := by
  unfold locB at h
  split at h
  · exact .inl (by assumption)
  · exact .inr (by assumption)
  · cases h
def glB (sc : Scope) (x : Str) : Bool := (match sc.names.lookup x with
  | some .globalImplicit => true
  | _ => false) && !(x == (⟨#[95,95,100,101,98,117,103,95,95]⟩ : Str)) && !(x == (⟨#[95,95,110,97,109,101,95,95]⟩ : Str))
theorem glB_ok {sc : Scope} {x : Str} (h : glB sc x = true) : sc.names.lookup x = some .globalImplicit ∧ (x == ("__debug__" : Str)) = false ∧ x ≠ "__name__" := by
  unfold glB at h
  simp only [Bool.and_eq_true, Bool.not_eq_true'] at h
  obtain ⟨⟨h1, h2⟩, h3⟩ := h
  have e1 : ("__debug__" : Str) = ⟨#[95,95,100,101,98,117,103,95,95]⟩ := by decide +kernel
  have e2 : ("__name__" : Str) = ⟨#[95,95,110,97,109,101,95,95]⟩ := by decide +kernel
  refine ⟨?_, by rw [e1]; exact h2, fun z => ?_⟩
  · split at h1
    · assumption
    · cases h1
  · rw [e2] at z
    rw [z] at h3
    simp at h3
def cName (c : Cc) (sc : Scope) (x : Str) : E :=
  if x == (⟨#[95,95,100,101,98,117,103,95,95]⟩ : Str) || x == (⟨#[95,95,99,108,97,115,115,100,105,99,116,95,95]⟩ : Str) then .no
  else if visB sc x then (match slot c.N x with | some i => .var i | none => .no)
  else if glB sc x then (match c.cs x with | some d => .cst d | none => .no)
  else .no
def bop : Operator → Option O2
  | .Add => some .add
  | .Sub => some .sub
  | .Mult => some .mul
  | .Mod => some .mod
  | .FloorDiv => some .fdv
  | .Pow => some .pow
  | .BitOr => some .bor
  | .BitXor => some .bxr
  | _ => none
def cop : CmpOp → O2
  | .Eq => .eq
  | .NotEq => .ne
  | .Lt => .lt
  | .LtE => .le
  | .Gt => .gt
  | .GtE => .ge
  | .Is => .is_
  | .IsNot => .isn
  | .In => .in_
  | .NotIn => .nin
def isStar : Expr → Bool
  | .Starred _ _ => true
  | _ => false
def nost (es : List Expr) : Bool := es.all fun e => !isStar e
def cEs (f : Expr → E) : List Expr → Es
  | [] => .nil
  | .Starred e _ :: r => .cons true (f e) (cEs f r)
  | e :: r => .cons false (f e) (cEs f r)
def cBool (o : BoolOp) : List E → E
  | [] => .no
  | [x] => x
  | x :: r => match o with
    | .And => .and x (cBool o r)
    | .Or => .or x (cBool o r)
def bfOf (x : Str) (n : Nat) : Option Bf :=
  if x = ⟨#[108,101,110]⟩ then some .len
  else if x = ⟨#[105,110,116]⟩ then some .int
  else if x = ⟨#[97,98,115]⟩ then some .abs
  else if x = ⟨#[97,108,108]⟩ then some .all
  else if x = ⟨#[97,110,121]⟩ then some .any
  else if x = ⟨#[116,117,112,108,101]⟩ then some .tup
  else if x = ⟨#[115,111,114,116,101,100]⟩ then some .srt
  else if x = ⟨#[108,105,115,116]⟩ then some .lst
  else if x = ⟨#[115,116,114]⟩ then some .str
  else if x = ⟨#[115,117,109]⟩ then some .sum
  else if x = ⟨#[109,97,120]⟩ then (if n = 2 then some .max2 else some .max)
  else if x = ⟨#[109,105,110]⟩ then (if n = 2 then some .min2 else some .min)
  else none
def tyOf (x : Str) : Option Ty :=
  if x = ⟨#[115,116,114]⟩ then some .str
  else if x = ⟨#[116,117,112,108,101]⟩ then some .tup
  else if x = ⟨#[108,105,115,116]⟩ then some .lst
  else if x = ⟨#[105,110,116]⟩ then some .int
  else if x = ⟨#[98,111,111,108]⟩ then some .bool
  else none
/-- a name that no def and no constant of the program has -/
def freeB (c : Cc) (sc : Scope) (x : Str) : Bool := glB sc x && btNames.contains x && (match c.tab x with | none => true | _ => false) && (match c.cs x with | none => true | _ => false)
def sIsi : Str := ⟨#[105,115,105,110,115,116,97,110,99,101]⟩
def sRng : Str := ⟨#[114,97,110,103,101]⟩
def sEnm : Str := ⟨#[101,110,117,109,101,114,97,116,101]⟩
def sJoin : Str := ⟨#[106,111,105,110]⟩
def sIndex : Str := ⟨#[105,110,100,101,120]⟩
def sSplit : Str := ⟨#[115, 112, 108, 105, 116]⟩
def sSet : Str := ⟨#[115,101,116]⟩
def sSorted : Str := ⟨#[115,111,114,116,101,100]⟩
/-- sorted(set(b)) -/
def setArg (c : Cc) (sc : Scope) (f : Str) : List Expr → Option Expr
  | [.Call (.Name g _) [b] [] _] => if decide (f = sSorted) && decide (g = sSet) && freeB c sc f && freeB c sc g && !isStar b then some b else none
  | _ => none
def cCall (r : Expr → E) (c : Cc) (sc : Scope) (f : Str) (args : List Expr) : E := match setArg c sc f args with
  | some b => .ssr (r b)
  | none =>
  if nost args && !args.isEmpty && glB sc f then
    (match c.tab f with
      | some np => if args.length = np then .call f (cEs r args) else .no
      | none => if freeB c sc f then
          (match bfOf f args.length with
            | some b => .blt b (cEs r args)
            | none => match args with
              | [a, .Name t _] => if f = sIsi && freeB c sc t then (match tyOf t with | some ty => .isi (r a) ty | none => .no) else .no
              | _ => .no)
        else .no)
  else .no
/-- not a call of super() without an argument -/
def noSup : Expr → Bool
  | .Call (.Name _ _) [] [] _ => false
  | _ => true
def cMeth (r : Expr → E) (o : Expr) (m : Str) (ap cp : Pos) (args : List Expr) : E :=
  if noSup o && (ap.endLine == cp.line) then
    (match args with
      | [a] => if isStar a then .no else if m = sJoin then .ms .join (r o) (.cons false (r a) .nil) else if m = sIndex then .mix (r o) (r a) else if m = sSplit then .ms .split (r o) (.cons false (r a) .nil) else .no
      | _ => .no)
  else .no
def sCount : Str := ⟨#[99, 111, 117, 110, 116]⟩
def sVE : Str := ⟨#[86, 97, 108, 117, 101, 69, 114, 114, 111, 114]⟩
/-- calls that ask for classes, or have no argument -/
def cCls (r : Expr → E) (c : Cc) (sc : Scope) (f : Str) (args : List Expr) : Option E :=
  match c.kt.new f with
  | some (k, np) => if glB sc f && nost args then (if args.length = np then some (.new f k (cEs r args)) else some .no) else some .no
  | none => match c.kt.exc f with
  | some ns => if glB sc f && nost args && decide (args.length ≤ 900) && (ns.isEmpty || decide (args.length = ns.length)) then some (.xmk f ns (cEs r args)) else some .no
  | none => match c.tab f with
    | some np => if np = 0 && args.isEmpty && glB sc f then some (.call f .nil) else none
    | none => match args with
      | [a, .Name t _] => (match c.kt.sub t with
        | some (cs, ds) => if decide (f = sIsi) && freeB c sc f && !isStar a && glB sc t && (c.cs t).isNone then some (.isx (r a) cs ds) else some .no
        | none => none)
      | _ => none
/-- methods of objects -/
def cMth (r : Expr → E) (c : Cc) (o : Expr) (m : Str) (ap cp : Pos) (args : List Expr) : Option E :=
  match c.kt.mth m with
  | some (C, k, np) => if noSup o && (ap.endLine == cp.line) && nost args && decide (args.length = np) && decide (np < 20) then some (.mth C m k (r o) (cEs r args)) else some .no
  | none => if decide (m = sCount) then (match args with
      | [a] => if noSup o && (ap.endLine == cp.line) && !isStar a then some (.mct (r o) (r a)) else some .no
      | _ => some .no)
    else none
def cAtt (r : Expr → E) (c : Cc) (o : Expr) (f : Str) : E := if noSup o then
    (match c.kt.prp f with
    | some (C, k) => .prp C k (r o)
    | none => match c.kt.att f with
      | some (cs, es) => .att (r o) f cs es
      | none => .no)
  else .no
def tgNames (N : List Str) (so : Scope) : List Expr → Option (List Nat)
  | [] => some []
  | .Name x _ :: r => if locB so x then (match slot N x, tgNames N so r with | some i, some is => some (i :: is) | _, _ => none) else none
  | _ :: _ => none
def cTg (N : List Str) (so : Scope) : Expr → Option T
  | .Name x _ => if locB so x then (slot N x).map T.nm else none
  | .Tuple es _ _ => (tgNames N so es).map T.tp
  | _ => none
def isTupE : Expr → Bool
  | .Tuple _ _ _ => true
  | _ => false
def notSet : Expr → Bool
  | .Set _ _ _ => false
  | _ => true
def sZip : Str := ⟨#[122, 105, 112]⟩
def sStrict : Str := ⟨#[115, 116, 114, 105, 99, 116]⟩
/-- what a for walks -/
def cIt (r : Expr → E) (c : Cc) (sc : Scope) (tg : Expr) (e : Expr) : It := match e with
  | .Call (.Name f _) [a] [] _ =>
    if !isStar a && freeB c sc f && decide (f = sRng) then .r1 (r a)
    else if !isStar a && freeB c sc f && decide (f = sEnm) && isTupE tg then .enm (r a)
    else .seq (r e)
  | .Call (.Name f _) [a, b] [] _ => if !isStar a && !isStar b && freeB c sc f && decide (f = sRng) then .r2 (r a) (r b) else .seq (r e)
  | .Call (.Name f _) [a, b] [⟨some k, .Constant (.bool true) _ _, _⟩] _ => if !isStar a && !isStar b && freeB c sc f && decide (f = sZip) && decide (k = sStrict) && isTupE tg then .zip (r a) (r b) else .seq (r e)
  | _ => .seq (r e)
def cIfs (r : Expr → E) : List Expr → Oe
  | [] => .no
  | [e] => .so (r e)
  | _ => .so .no
def ownOf (N : List Str) (scope : Scope) : List (Str × Nat) := scope.names.filterMap fun (y, k) => match k with
  | .local => (slot N y).map (y, ·)
  | .cell => (slot N y).map (y, ·)
  | _ => none
def allIn (xs ys : List Nat) : Bool := xs.all fun x => ys.contains x
/-- r in the block, q outside -/
def cLc (q r : Expr → E) (c : Cc) (sc : Scope) (elt : Expr) (gs : List Comprehension) (scope : Scope) : E :=
  let own := ownOf c.N scope
  if blkC c.N sc scope own then
    (match gs with
      | [⟨tg, iter, ifs, 0⟩] => (match cTg c.N scope tg with
        | some t => if allIn t.ns (own.map (·.2)) && notSet iter then .lc (own.map (·.2)) (.last (cIt q c sc tg iter) t (cIfs r ifs)) (r elt) else .no
        | none => .no)
      | [⟨tg, iter, ifs, 0⟩, ⟨tg1, iter1, ifs1, 0⟩] => (match cTg c.N scope tg, cTg c.N scope tg1 with
        | some t, some t1 => if allIn t.ns (own.map (·.2)) && allIn t1.ns (own.map (·.2)) && notSet iter && notSet iter1 then .lc (own.map (·.2)) (.more (cIt q c sc tg iter) t (cIfs r ifs) (.last (cIt r c (relS scope sc) tg1 iter1) t1 (cIfs r ifs1))) (r elt) else .no
        | _, _ => .no)
      | [⟨tg, iter, ifs, 0⟩, ⟨tg1, iter1, ifs1, 0⟩, ⟨tg2, iter2, ifs2, 0⟩] => (match cTg c.N scope tg, cTg c.N scope tg1, cTg c.N scope tg2 with
        | some t, some t1, some t2 => if allIn t.ns (own.map (·.2)) && allIn t1.ns (own.map (·.2)) && allIn t2.ns (own.map (·.2)) && notSet iter && notSet iter1 && notSet iter2 then
            .lc (own.map (·.2)) (.more (cIt q c sc tg iter) t (cIfs r ifs) (.more (cIt r c (relS scope sc) tg1 iter1) t1 (cIfs r ifs1) (.last (cIt r c (relS scope sc) tg2 iter2) t2 (cIfs r ifs2)))) (r elt) else .no
        | _, _, _ => .no)
      | _ => .no)
  else .no
def cPart (r : Expr → E) : Option Expr → Oe
  | none => .no
  | some e => .so (r e)
def isOne : Expr → Bool
  | .UnaryOp .USub (.Constant (.int 1) _ _) _ => true
  | _ => false
def dxKeys : List (Option Expr) → Option (List Str)
  | [] => some []
  | some (.Constant (.str k) _ _) :: r => (dxKeys r).map (k :: ·)
  | _ => none
def dxVals : List Expr → Option (List D)
  | [] => some []
  | .Constant (.str v) _ _ :: r => (dxVals r).map (.str v :: ·)
  | .Constant (.int v) _ _ :: r => (dxVals r).map (.int v :: ·)
  | _ => none
def dCon : D → Bool
  | .str _ => true
  | .int _ => true
  | _ => false
/-- a written dict of texts -/
def dxArg : Expr → Option (List Str × List D)
  | .Dict ks vs _ => (match dxKeys ks, dxVals vs with
    | some k, some v => if decide (k.length = v.length) && decide k.Nodup && !k.isEmpty && decide (k.length ≤ 15) && v.all dCon then some (k, v) else none
    | _, _ => none)
  | _ => none
def cE (c : Cc) : Nat → Scope → Expr → E
  | 0, _, _ => .no
  | n + 1, sc, e => match e with
    | .Constant k _ _ => (match k with
      | .int i => .cst (.int i)
      | .bool b => .cst (.bl b)
      | .none => .cst .non
      | .str x => .cst (.str x)
      | _ => .no)
    | .Name x _ => cName c sc x
    | .BinOp a o b _ => (match bop o with
      | some p => .op2 p (cE c n sc a) (cE c n sc b)
      | none => .no)
    | .UnaryOp o a _ => (match o with
      | .Not => .op1 .not (cE c n sc a)
      | .USub => .op1 .neg (cE c n sc a)
      | _ => .no)
    | .BoolOp o vs _ => cBool o (vs.map (cE c n sc))
    | .IfExp a b d _ => .ite (cE c n sc a) (cE c n sc b) (cE c n sc d)
    | .Compare a ops bs _ => (match ops, bs with
      | [o], [b] => if behindInMarks o b then .no else .op2 (cop o) (cE c n sc a) (cE c n sc b)
      | [o, p], [b, d] => if lastMarks [o, p] [b, d] then .no else .ch2 (cop o) (cop p) (cE c n sc a) (cE c n sc b) (cE c n sc d)
      | _, _ => .no)
    | .Tuple es _ _ => .tup (cEs (cE c n sc) es)
    | .List es _ => .lst (cEs (cE c n sc) es)
    | .Dict ks vs _ => (match ks, vs with
      | [], [] => .dc0
      | _, _ => .no)
    | .Subscript a b _ => (match b with
      | .Slice lo hi st _ => (match st with
        | none => .slc (cE c n sc a) (cPart (cE c n sc) lo) (cPart (cE c n sc) hi)
        | some e => (match lo, hi with
          | none, none => if isOne e then .rev (cE c n sc a) else .no
          | _, _ => .no))
      | b => (match dxArg a with
        | some (ks, vs) => .dix ks vs (cE c n sc b)
        | none => .op2 .ix (cE c n sc a) (cE c n sc b)))
    | .Call f args kws cp => (match kws with
      | [] => (match f with
        | .Name f _ => (match cCls (cE c n sc) c sc f args with
          | some m => m
          | none => cCall (cE c n sc) c sc f args)
        | .Attribute o m ap => (match cMth (cE c n sc) c o m ap cp args with
          | some e => e
          | none => cMeth (cE c n sc) o m ap cp args)
        | _ => .no)
      | _ => .no)
    | .Attribute o f _ => cAtt (cE c n sc) c o f
    | .ListComp elt gs scope _ => cLc (cE c n sc) (cE c n (relS scope sc)) c sc elt gs scope
    | _ => .no
end Pe
set_option Elab.async false
set_option linter.all false
set_option maxRecDepth 100000
set_option maxHeartbeats 4000000
namespace Pe
open PySem PySem.Spec PyProof.Rows L2
section
variable {X : Cx} {pins : List (Addr × Obj)} {σ : L2.St} {H : Hp} {s : Shared}
theorem exK_ok {P : Program} {w : World} {H : Hp} {h : Heap} {a : Addr} {cls : Value} {d : Option Addr} {oe : Obj} {vs : Array Value} (e : h.get? a = some oe) (z : Zc cls d oe) (dt : oe.data = .fields vs) : ObjOk P w H h a (ExK cls d a) :=
  ⟨⟨oe, vs, e, z, dt⟩, ⟨oe, e⟩, fun _ _ ⟨o, v, q, r⟩ k => ⟨o, v, k o q, r⟩⟩
/-- an object that came while the def ran is told of from now on -/
theorem inv_track {a : Addr} {o : HO} (I : Inv X pins σ H s) (n0 : X.s_0.heap.get? a = none) (na : H a = none) (nl : a ≠ X.env.locals) (nc : ∀ x c, X.env.cells.lookup x = some c → c ≠ a) (np : ∀ p ∈ X.pn ++ pins, p.1 ≠ a)
    (ok : ObjOk X.prog X.w (upd H a o) s.heap a o) : Inv X pins σ (upd H a o) s := by
  have ne0 : ∀ b u, X.s_0.heap.get? b = some u → b ≠ a := fun b u e z => by rw [z, n0] at e; cases e
  refine ⟨I.ok, I.os, I.bare, ⟨I.base.keep, I.base.slot, fun b u e n hx => ?_, I.base.there, fun b xs e => ?_, fun b u v e => ?_, fun b ps e => ?_⟩, I.loc, I.cell, ?_, fun x c e => ?_, fun p hp => ?_, fun b u e => ?_, I.len⟩
  · rw [upd_ne (ne0 b u e)]; exact I.base.free b u e n hx
  · have q := I.base.tups b xs e
    rw [upd_ne (ne_of_none q na)]; exact q
  · have q := I.base.frzs b u v e
    rw [upd_ne (ne_of_none q na)]; exact q
  · obtain ⟨m, q⟩ := I.base.tbls b ps e
    exact ⟨m, by rw [upd_ne (ne_of_none q na)]; exact q⟩
  · rw [upd_ne (Ne.symm nl)]; exact I.free
  · rw [upd_ne (nc x c e)]; exact I.freeC x c e
  · obtain ⟨e, n, r⟩ := I.pin p hp
    exact ⟨e, by rw [upd_ne (np p hp)]; exact n, r⟩
  · by_cases hb : b = a
    · subst hb
      rw [upd_same] at e
      cases e
      exact ok
    · rw [upd_ne hb] at e
      exact (I.hok b u e).stay (fun c v _ q => q) (fun c q => by rw [upd_ne (ne_of_none q na)]; exact q) fun c xs q => by rw [upd_ne (ne_of_none q na)]; exact q
end
/-- what is wished behind a try that keeps what it catches -/
def wAsK (K : PySem.W.Frag) (c : Value) (i : Nat) (ts : Addr → Value → Option Addr → TS) (Wout : L2.WX) (D : Ends) : L2.WX := fun cls d σ H =>
  ∃ b, PySem.W.exmOne K cls c = some b ∧ (b = true → ∀ a, H a = none → ts a cls d { nx := fun σ' H' => H' a = none → D.nx (σ'.set i none) (upd H' a (ExK cls d a)), rt := fun v H' => H' a = none → D.rt v (upd H' a (ExK cls d a)), bk := fun σ' H' => H' a = none → D.bk (σ'.set i none) (upd H' a (ExK cls d a)), ct := fun σ' H' => H' a = none → D.ct (σ'.set i none) (upd H' a (ExK cls d a)) } (σ.set i (some (.ref a))) H) ∧
    (b = false → Wout cls d σ H)
section
variable {X : Cx} {x n : Str} {c : Value} {i : Nat} {body suite : List Stmt} {b₀ : Stmt} {np pos pos' : Pos} {tb : L2.WX → TS} {ts : Addr → Value → Option Addr → TS} {Wout : L2.WX}
/-- try: body, except x as n: suite; what was caught is told of behind it -/
theorem ps_try_keep (hex : X.ex = []) (hs : X.stack = X.env :: X.outer) (hf : X.env.frame = some X.env.locals) (hN : X.N.Nodup) (hi : X.N[i]? = some n) (hln : X.env.kindOf n = some .local) (hc : Names X x c) (tk : Takes X Wout)
    (hb : ∀ (W : L2.WX) (pn : List (Addr × Obj)) (xe : Value → Shared → Prop), Takes (X.tr pn xe) W → PassesOwn (model X.prog X.w) X.A X.env xe → PSs (X.tr pn xe) body (tb W))
    (hsu : ∀ (a : Addr) (oe : Obj) (cls : Value) (d : Option Addr) (pn : List (Addr × Obj)), Zc cls d oe → (∃ vs, oe.data = .fields vs) → PSs (X.suite a ((a, oe) :: pn)) (b₀ :: suite) (ts a cls d)) :
    PS X (.Try body [.ExceptHandler (some (.Name x np)) (some n) (b₀ :: suite) pos'] [] [] pos) (fun D σ H => tb (wAsK X.K c i ts Wout D) D σ H) := by
  refine ⟨fun pins s σ H D I h => ?_⟩
  have ok := I.ok
  have hfr : X.A.frames = some (X.env :: X.outer) := by rw [ok.frames, hs]
  have hloc : Loc X.env.scope n := .inl hln
  refine wpAny_Try_except ?_
  refine wpAny_mono ((hb (wAsK X.K c i ts Wout D) (X.pn ++ pins) (fun e s₁ => wpAny (model X.prog X.w) X.A (noteFrame e X.env) (fun _ s₂ => wpAny (model X.prog X.w) X.A (setFlight e none) (fun _ s₃ =>
    wpAny (model X.prog X.w) X.A (handleBy e X.env [.ExceptHandler (some (.Name x np)) (some n) (b₀ :: suite) pos']) (SP X pins D) X.xe s₃) X.xe s₂) X.xe s₁) (fun u s' xx => ?_) PassesOwn.looking).run [] s σ H D (I.toTry _) h) (fun f s1 hsp => ?_) (fun e s1 he => he)
  · obtain ⟨a, B, sI, pins', σ', H', cls, d, rfl, J', nb, up, sky, na, os, ag, b, hb1, hyes, hno⟩ := xx
    have J : Inv X pins σ' H' sI := J'.ofTry ok
    have sky' : Sky B (X.env :: X.outer) a (Zc cls d) X.env.locals s'.heap := by rw [← hs]; exact sky
    show wpAny (model X.prog X.w) X.A (noteFrame (.ref a) X.env) _ _ _
    refine Sky.land Zc.steady hfr hf sky' fun h3 fl3 up3 => ?_
    have J3 : Inv X pins σ' H' { s' with heap := h3 } := J.landed nb fl3.1 (up.trans up3) os ag
    obtain ⟨oe3, vs3, he3, hz3, hd3⟩ := fl3.there
    have notFr : ∀ {h : Heap} {o : Obj} {vs : Array Value}, h.FunFrames B (X.env :: X.outer) → h.get? a = some o → o.data = .fields vs → a ∉ frs (X.env :: X.outer) := fun {h o vs} ff e dd hm => by
      obtain ⟨_, o', e', hnf⟩ := ff.mem hm
      rw [e] at e'; cases e'
      exact hnf _ dd
    have nfr := notFr fl3.2.2.1 he3 hd3
    have nL : a ≠ X.env.locals := fun z => nfr (List.mem_filterMap.mpr ⟨X.env, List.mem_cons_self, by rw [hf, z]⟩)
    have nF : a ∉ X.fs := fun hm => by
      obtain ⟨e, he, q⟩ := List.mem_filterMap.mp hm
      exact nfr (List.mem_filterMap.mpr ⟨e, List.mem_cons_of_mem _ he, q⟩)
    -- it is new
    have nI : sI.heap.get? a = none := by
      cases e : sI.heap.get? a with
      | none => rfl
      | some o =>
        have z := nb a o e (by rw [hs]; exact nfr)
        rw [fl3.2.1] at z; cases z
    have n0 : X.ex = [] → X.s_0.heap.get? a = none := fun hx => by
      cases e : X.s_0.heap.get? a with
      | none => rfl
      | some o =>
        obtain ⟨o', z⟩ := J.base.there a o e (by rw [hx]; exact fun z => nomatch z)
        rw [nI] at z; cases z
    have hp : ∀ p ∈ X.pn ++ pins, p.1 ≠ a := fun p hp z => by
      have q := (J.pin p hp).1
      rw [z, nI] at q; cases q
    have S3 := J3.suite he3 hd3 na nL nF
    refine wpAny_handleBy_cons (codeAny_handlers_test ?_) (by intro q; cases q)
    have LT : PySem.W.Looks (model X.prog X.w) h3 (typeOf (.ref a)) cls := fun A Q E s k q => wpAny_typeOf_ref (k _ _ he3) (by rw [hz3.1]; exact q)
    have LM := PySem.W.exm_one (M := model X.prog X.w) (J3.kIn) LT hb1
    have test : ∀ {Q : Value → Shared → Prop} {E : Value → Shared → Prop}, Q c { s' with heap := h3 } → wpAny (model X.prog X.w) (X.A.mark (some (.ref a))) (eval (.Name x np) X.env) Q E { s' with heap := h3 } := fun {Q E} q => by
      obtain ⟨hg, hdbg, hm | ⟨hm, hv, hnn⟩⟩ := hc
      · exact ld_glob (X := X.suite a ((a, oe3) :: (X.pn ++ pins))) S3 hg hm q hdbg
      · exact ld_blt (X := X.suite a ((a, oe3) :: (X.pn ++ pins))) S3 hg hm hv q hnn hdbg
    refine test (LM.here ?_)
    cases b with
    | true =>
      refine codeAny_handlers_suite_as ?_
      refine HandSPX.lands_againZ fl3 fun h4 fl4 up4 => ?_
      have J4 : Inv X pins σ' H' { s' with heap := h4 } := J.landed nb fl4.1 ((up.trans up3).trans up4) os ag
      obtain ⟨oe4, vs4, he4, hz4, hd4⟩ := fl4.there
      have S4 := J4.suite he4 hd4 na nL nF
      refine store_ok (X := X.suite a ((a, oe4) :: (X.pn ++ pins))) (v := .ref a) S4 hN hi hloc rfl (fun s5 S5 => ?_) (.inr hln)
      refine wpAny_mono ((hsu a oe4 cls d (X.pn ++ pins) hz4 ⟨_, hd4⟩).run [] s5 _ H' _ S5 (hyes rfl a na)) (fun f s6 hsp => ?_) (fun _ _ z => False.elim z)
      have end_ : ∀ {σ6 : L2.St} {H6 : Hp} {Q : Shared → Prop}, Inv (X.suite a ((a, oe4) :: (X.pn ++ pins))) [] σ6 H6 s6 → (∀ s7, H6 a = none → Inv X pins (σ6.set i none) (upd H6 a (ExK cls d a)) s7 → Q s7) →
          wpAny (model X.prog X.w) X.A (do bindName X.env n .none; unbindBehindTheSuite X.env n pos') (fun _ s7 => Q s7) X.xe s6 := fun {σ6 H6 Q} S6 hq => by
        have S6' : Inv X ((a, oe4) :: pins) σ6 H6 s6 := ⟨ok, S6.os, S6.bare, S6.base, S6.loc, S6.cell, S6.free, S6.freeC, fun p hp => S6.pin p (List.mem_append_left _ (by
          rcases List.mem_append.mp hp with q | q
          · exact List.mem_cons_of_mem _ (List.mem_append_left _ q)
          · rcases List.mem_cons.mp q with q | q
            · rw [q]; exact List.mem_cons_self
            · exact List.mem_cons_of_mem _ (List.mem_append_right _ q))), S6.hok, S6.len⟩
        refine gone_ok S6' hN hi hln fun s7 J7 => ?_
        obtain ⟨e7, n7, l7, f7, c7⟩ := J7.pin (a, oe4) (List.mem_append_right _ List.mem_cons_self)
        have J8 : Inv X pins (σ6.set i none) H6 s7 := ⟨ok, J7.os, J7.bare, J7.base, J7.loc, J7.cell, J7.free, J7.freeC, fun p hp => J7.pin p (by
          rcases List.mem_append.mp hp with q | q
          · exact List.mem_append_left _ q
          · exact List.mem_append_right _ (List.mem_cons_of_mem _ q)), J7.hok, J7.len⟩
        refine hq s7 n7 (inv_track J8 (n0 hex) n7 nL (fun y cc ec z => ?_) hp (exK_ok e7 hz4 hd4))
        obtain ⟨v, o, ho, hd⟩ := J8.cell y cc ec
        rw [z, e7] at ho
        cases ho
        exact c7 _ hd
      cases f with
      | next =>
        obtain ⟨σ6, H6, S6, q6⟩ := hsp
        exact end_ S6 fun s7 n7 J7 => ⟨_, _, J7, q6 n7⟩
      | brk =>
        obtain ⟨σ6, H6, S6, q6⟩ := hsp
        exact end_ S6 fun s7 n7 J7 => ⟨_, _, J7, q6 n7⟩
      | cont =>
        obtain ⟨σ6, H6, S6, q6⟩ := hsp
        exact end_ S6 fun s7 n7 J7 => ⟨_, _, J7, q6 n7⟩
      | ret u =>
        obtain ⟨v6, σ6, H6, S6, r6, q6⟩ := hsp
        exact end_ S6 fun s7 n7 J7 => ⟨_, _, _, J7, r6, q6 n7⟩
    | false =>
      show wpAny _ X.A (handleBy (.ref a) X.env []) _ _ _
      refine wpAny_handleBy_nil ?_
      obtain ⟨k1, k2, k3, oe, vs, T, oT, ts', he, hz, hd, h1, hr⟩ := id fl3
      unfold PySem.passOn
      refine wpAny_bind (wpAny_field he hd h1 ?_)
      rw [if_neg (show ¬ ((Value.ref T == Value.none) = true) from by simp)]
      have fin : wpAny (model X.prog X.w) X.A (setFlight (.ref a) X.env.frame) (fun _ s4 => wpAny (model X.prog X.w) X.A (throw (.ref a) : Sem Flow) (SP X pins D) X.xe s4) X.xe { s' with heap := h3 } := by
        rw [hf]
        refine HandSPX.setFlight_upZ fl3 fun h4 hh4 up4 => wpAny_throw (tk _ _ ?_)
        exact ⟨a, B, sI, pins, σ', H', cls, d, rfl, J, nb, (up.trans up3).trans up4, .inr (.inr (by rw [hs]; exact hh4)), na, os, ag, hno rfl⟩
      first
        | exact wpAny_bind (wpAny_pure (wpAny_bind fin))
        | exact wpAny_bind fin
  · cases f with
    | next =>
      obtain ⟨σ', H', J', q⟩ := hsp
      exact wpAny_execs_nil ⟨σ', H', J'.ofTry ok, q⟩
    | brk =>
      obtain ⟨σ', H', J', q⟩ := hsp
      exact ⟨σ', H', J'.ofTry ok, q⟩
    | cont =>
      obtain ⟨σ', H', J', q⟩ := hsp
      exact ⟨σ', H', J'.ofTry ok, q⟩
    | ret u =>
      obtain ⟨v, σ', H', J', r, q⟩ := hsp
      exact ⟨v, σ', H', J'.ofTry ok, r, q⟩
end
end Pe
namespace PySem.W
open PySem PySem.Spec PySem.Calls PyProof.Rows
section
variable {prog : Program} {w : World} {A : Around} {E : Value → Shared → Prop} {s : Shared} {K : Frag} {x D : Addr} {ox : Obj} {od : Option Obj}
theorem kin_classX {Q : Option Value → Shared → Prop} (hga : findIn K (.ref D) "__getattribute__" = some (some (.builtin "BaseException.__getattribute__"))) (hgt : findIn K (.ref D) "__getattr__" = some none) (hsub : subIn K (.ref D) (.type "BaseException") = some true)
    (hdct : hasDictIn K D = true) (ha : findIn K (.ref D) "__class__" = some (some (.builtin "object.__class__")))
    (hn : specialIn K (.builtin "object.__class__") "__get__" = some (some (.builtin "getset_descriptor.__get__"))) (htk : takesIn K (.builtin "object.__class__") = some true) (hm : mroIn K D (.type "object") = some true)
    (X : K.In s.heap) (I : InstAt s.heap x ox D od) (h : Q (some (.ref D)) { s with toks := s.toks + 1 }) : wpAny (model prog w) A (getAttr? (.ref x) "__class__") Q E s := by
  have hci : (clsIn K D).isSome = true := by obtain ⟨cd, hc, _⟩ := any_some hdct; rw [hc]; rfl
  have hf : findObj K D od "__class__" = some (.bind (.builtin "getset_descriptor.__get__") (.builtin "object.__class__")) := by
    cases od with
    | none => exact findObj_dataN hci ha hn htk
    | some o => exact findObj_data hci ha hn htk
  obtain ⟨hp, g, d, t, os⟩ := s
  have L0 := I.type (M := model prog w)
  have L1 := looks_findIn (M := model prog w) X hga
  have L2 := looks_findIn (M := model prog w) X hgt
  have L3 := looks_find (M := model prog w) X I hf
  have sub : Looks (model prog w) hp (isInstance (.ref x) (.type "BaseException")) true := L0.andThen (looks_subIn X hsub)
  have hx0 : (false && onTheHeap (Value.builtin "BaseException.__getattribute__")) = false := rfl
  have hx2 : (Value.builtin "BaseException.__getattribute__" == Value.builtin "object.__getattribute__") = false := by decide +kernel
  have hx1 : (onTheHeap (Value.ref D) && Value.builtin "BaseException.__getattribute__" == Value.builtin "object.__getattribute__") = false := by rw [hx2]; rfl
  unfold getAttr? getAttrBy? getAttrBy
  refine wpAny_bind (wpAny_mkText (wpAny_bind (wpAny_attempt (wpAny_holding (wpAny_bind (L0.at (wpAny_bind (L1.at ?_))))))))
  show wpAny _ _ (if (onTheHeap (Value.ref D) && Value.builtin "BaseException.__getattribute__" == Value.builtin "object.__getattribute__") = true then _ else _) _ _ _
  rw [hx1, if_neg Bool.false_ne_true]
  unfold getAttrByItsOwn hookBefore
  refine wpAny_bind ?_
  rw [if_pos (show onTheHeap (Value.ref D) = true from rfl)]
  refine L2.at ?_
  refine wpAny_bind (wpAny_attempt (wpAny_holding ?_))
  unfold callGetattribute
  rw [hx0, if_neg Bool.false_ne_true]
  unfold boundAndCalled
  rw [PySem.F.excAttr_ValueError.ga.bind (.ref x)]
  refine wpAny_bind (wpAny_pure ?_)
  show wpAny _ _ (call (.builtin "BaseException.__getattribute__") [.ref x, .str "__class__" t]) _ _ _
  refine wpAny_call (codeAny_call_builtin PySem.F.excAttr_ValueError.ga.plain PySem.F.entry_bexc_ga ?_)
  refine @check_slot (model prog w) _ _ ⟨hp, g, d, t + 1, os⟩ "BaseException.__getattribute__" "BaseException" "__getattribute__" (.ref x) [.str "__class__" t] [] _ (by decide +kernel) (by decide +kernel) sub (PySem.F.args_bexc_ga (.ref x) (.str "__class__" t)) ?_
  unfold Builtin.«object.__getattribute__»
  refine wpAny_bind (wpAny_of_eq (a := ((Value.ref x : Value), [Value.str "__class__" t])) (by first | rfl | (simp only [slotArgs]; rfl)) ?_)
  refine wpAny_bind (wpAny_pure (wpAny_bind (L0.at (wpAny_bind (L3.at ?_)))))
  show wpAny _ _ (holding [Value.builtin "object.__class__"] (call (.builtin "getset_descriptor.__get__") [.builtin "object.__class__", .ref x, .ref D]) >>= ret) _ _ _
  refine wpAny_bind (wpAny_holding (wpAny_call (class_get (s := ⟨hp, g, d, t + 1, os⟩) (ox := ox) (od := od) X I hm ?_)))
  refine wpAny_pure ?_
  show wpAny _ _ (handedOut (.ref D)) _ _ _
  rw [handedOut_of (v := .ref D) rfl]
  first
    | exact wpAny_pure (wpAny_pure h)
    | exact wpAny_pure h
    | exact wpAny_pure (wpAny_bind (wpAny_pure (wpAny_pure h)))
theorem kitx_excX (hga : findIn K (.ref D) "__getattribute__" = some (some (.builtin "BaseException.__getattribute__"))) (hgt : findIn K (.ref D) "__getattr__" = some none) (hsub : subIn K (.ref D) (.type "BaseException") = some true) (hdct : hasDictIn K D = true) (ha : findIn K (.ref D) "__class__" = some (some (.builtin "object.__class__")))
    (hn : specialIn K (.builtin "object.__class__") "__get__" = some (some (.builtin "getset_descriptor.__get__"))) (htk : takesIn K (.builtin "object.__class__") = some true) (hm : mroIn K D (.type "object") = some true) :
    KitX K (.ref x) (.ref D) (fun h => InstAt h x ox D od) where
  ty := fun _ _ _ I => I.type
  it := fun _ _ X _ => by
    obtain ⟨cdD, hcD, _⟩ := any_some hdct
    unfold clsIn at hcD
    split at hcD
    · rename_i c' d' cd' sl' ho
      intro A' Q' E' s' k q
      unfold isType loadHead
      exact wpAny_bind (wpAny_loadPart (k _ _ (X _ _ ho)) (wpAny_pure q))
    · cases hcD
  ne := fun h tp dd its n sl X htp => by
    obtain ⟨cdD, hcD, _⟩ := any_some hdct
    refine Bool.eq_false_iff.mpr fun q => ?_
    have e : D = tp := Value.ref.inj (beq_iff_eq.mp q)
    subst e
    unfold clsIn at hcD
    split at hcD
    · rename_i c' d' cd' sl' ho
      have z := (X _ _ ho).symm.trans htp
      cases z
    · cases hcD
  ca := fun X I k => kin_classX hga hgt hsub hdct ha hn htk hm X I k
end
end PySem.W
namespace Pe
open PySem PySem.Spec PyProof.Rows L2
section
variable {X : Cx} {pins : List (Addr × Obj)} {σ : L2.St} {H : Hp} {s : Shared}
/-- a kept exception as an instance -/
theorem exk_inst {a D : Addr} {d : Option Addr} (I : Inv X pins σ H s) (ha : H a = some (ExK (.ref D) d a)) (hd : d = none ∨ ∃ dd fs, d = some dd ∧ H dd = some (.xd fs)) : ∃ ox od, PySem.W.InstAt s.heap a ox D od := by
  obtain ⟨⟨oe, vs, ho, ⟨z1, z2⟩, hv⟩, _, _⟩ := I.hok a _ ha
  rcases hd with rfl | ⟨dd, fs, rfl, hdd⟩
  · exact ⟨oe, none, ho, z1, by unfold PySem.W.notCls; rw [hv] <;> rfl, by rw [z2]; trivial⟩
  · have hx : ObjOk X.prog X.w H s.heap dd (.xd fs) := I.hok dd _ hdd
    obtain ⟨mA, hns, hr⟩ := hx
    obtain ⟨od, ho2, hl⟩ := lookIn_ns hns
    exact ⟨oe, some od, ho, z1, by unfold PySem.W.notCls; rw [hv] <;> rfl, by rw [z2]; exact ho2⟩
/-- isinstance(e, c), e an exception that is kept -/
theorem call_isK {cv : Value} {c : V} (hcv : ∀ u, RelV c u → u = cv) : CallR X (.builtin "isinstance") (fun xs H Q => ∃ (a D : Addr) (d : Option Addr) (b : Bool), xs = [.ref a, c] ∧ ExcC X.K D ∧ H a = some (ExK (.ref D) d a) ∧ (d = none ∨ ∃ dd fs, d = some dd ∧ H dd = some (.xd fs)) ∧ PySem.W.kitOne X.K (.ref D) cv = some b ∧ Q (.bl b) H) := by
  intro pins s σ H xs us Q I r h
  obtain ⟨a, D, d, b, rfl, C, ha, hd, e, q⟩ := h
  cases r with
  | cons rx rr =>
    cases rr with
    | cons rt rr =>
      cases rr
      cases rx
      have ec := hcv _ rt
      subst ec
      obtain ⟨ox, od, J⟩ := exk_inst I ha hd
      exact PySem.W.kia_one (PySem.W.kitx_excX C.hg C.hk C.hs C.hd C.ha C.hn C.ht C.hm) I.kIn J e (fun z => nomatch z) fun tk => ⟨.bl b, H, I.kept (t' := tk) fun _ _ z => z, rfl, q⟩
/-- e.f, e an exception that is kept -/
def tXk (K : PySem.W.Frag) (f : Str) (te : TE) : TE := fun σ H Q => te σ H fun x H1 => ∃ (a D dd : Addr) (fs : List (Str × V)) (v : V), x = .ref a ∧ XfC K D ∧ PySem.W.findIn K (.ref D) f = some none ∧ H1 a = some (ExK (.ref D) (some dd) a) ∧ H1 dd = some (.xd fs) ∧ fs.lookup f = some v ∧ Q v H1
theorem pe_xk {e : Expr} {te : TE} {pos : Pos} {n : Str} (he : PE X e te) (hb : attributeBase e n X.env (eval e X.env) = eval e X.env) : PE X (.Attribute e n pos) (tXk X.K n te) := by
  refine ⟨fun pins s σ H Q I h => ?_⟩
  refine attr_of hb (thn (he.run pins s σ H _ I h) fun u s1 hh => ?_)
  obtain ⟨x, H1, I1, rx, a, D, dd, fs, v, rfl, T, hno, ha, hdd, l, q⟩ := hh
  obtain rfl : u = Value.ref a := rx
  obtain ⟨⟨oe, vs, ho, ⟨z1, z2⟩, hv⟩, _, _⟩ := I1.hok a _ ha
  have hx : ObjOk X.prog X.w H1 s1.heap dd (.xd fs) := I1.hok dd _ hdd
  obtain ⟨mA, hns, hr⟩ := hx
  obtain ⟨od, ho2, hl⟩ := lookIn_ns hns
  obtain ⟨u, hu, ru⟩ := RelO.some_of (v := v) (o := mA n) (by rw [← l]; exact hr n)
  have J : PySem.W.InstAt s1.heap a oe D (some od) := ⟨ho, z1, by unfold PySem.W.notCls; rw [hv] <;> rfl, by rw [z2]; exact ho2⟩
  exact HandSPX.exc_get I1.kIn J T.ga T.gg T.exC (PySem.W.findObj_own T.hdC hno rfl (by rw [hl, hu])) (handed_of ru) ⟨v, H1, I1.tok _, ru, q⟩
/-- raise X(), X an own exception class without own __init__ -/
theorem pmk_own0 {C : Addr} {bmB : List Value} {B newId initId : String} {x : Str} {p pos : Pos} (F : ExcBaseFacts B newId initId bmB) (q : PySem.W.excIn X.K C bmB newId = true) (gC : X.mg x = some (.ref C)) (kC : PySem.W.keepIn X.K (.ref C) = true) (r : Raises X (.ref C)) (hg : Gl X x) (hdb : (x == ("__debug__" : Str)) = false := by decide) :
    PMk X (.Call (.Name x p) [] [] pos) (fun _ H Q => Q (.ref C) none H) := by
  intro pins s σ H Q I h
  refine wpAny_Call_Name_kw (ld_glob I hg gC ?_ hdb)
  refine PySem.W.callWith_K0 I.kIn kC ?_
  obtain ⟨bm, N, nm, qn, bs, hdct, sn, sub, ab, col, dd, k0, k1, k2, k3, k5, mN, hC, hN, hni, T⟩ := exc_obj I.kIn q
  refine wpAny_call_exc_subT F T hC hN hni (fun h' a hm => ?_) (by show 0 ≤ sizeLine; omega)
  exact mk_of I hm r h (I.hok.gone hm.new)
theorem pe_methX {CX : CXT} {pl : Sem Bool} {k : Nat} {f C : Addr} {fd : FuncData} {ps : List Str} {sp : Sp} {E : L2.St → XK} {o e : Expr} {es : List Expr} {m : Str} {apos pos : Pos} {ta : TE} {t : TA} (he : PE X o ta) (c : Cls X.K C) (hm : Meth X.K C m f) (F : FnOk X.prog X.w X.K X.mg X.base CX k f fd ps sp) (hr : Room k X.A) (hb : Binds X.K fd ps []) (hx : ∀ σ, PassesAt CX X σ (E σ)) (ha : PA X (e :: es) t)
    (hst : starEach (e :: es) X.env = (false, eval e X.env) :: starEach es X.env) (hpl : (backTo pos (starEach es X.env)).any (·.1) = false)
    (ht : eval (.Call (.Attribute o m apos) (e :: es) [] pos) X.env = (do
      let ov ← eval o X.env
      standAt apos.atName
      let (f, first) ← holding [ov] (getMethod ov m pl)
      callWith pos f first (backTo pos (starEach (e :: es) X.env)) (backToKw pos (keywordEach [] X.env)))) :
    PE X (.Call (.Attribute o m apos) (e :: es) [] pos) (fun σ H Q => tMeth C m sp [] (E σ) ta t σ H Q) := by
  refine ⟨fun pins s σ H Q I h => ?_⟩
  refine PySem.W.methodCall_KW (pl := pl) (thn (he.run pins s σ H _ I h) fun u s1 ⟨x, H1, I1, rx, a, dx, fs, ex, ea, l, q⟩ => ?_) ht
  subst ex
  obtain rfl : u = Value.ref a := rx
  refine getmeth_ok I1 ea c hm l ?_
  refine PySem.W.callWith_K (first := [.ref a]) (h₀ := X.base) I.ok.mod.kin hm.kp (thn (ha.run pos pins s1 σ H1 _ I1 q) fun us s2 ⟨vs, H2, I2, r, q2⟩ => ⟨I2.kIn, ?_⟩) hst hpl
  have q2 : sp (V.ref a :: (vs ++ [])) H2 Q (E σ) := q2
  rw [List.append_nil] at q2
  exact run_fnS (us := .ref a :: us) (vs := .ref a :: vs) F hr hb (hx σ) I2 (.cons rfl r) q2
theorem pe_methX0 {CX : CXT} {pl : Sem Bool} {k : Nat} {f C : Addr} {fd : FuncData} {ps : List Str} {sp : Sp} {E : L2.St → XK} {o : Expr} {m : Str} {apos pos : Pos} {ta : TE} (he : PE X o ta) (c : Cls X.K C) (hm : Meth X.K C m f) (F : FnOk X.prog X.w X.K X.mg X.base CX k f fd ps sp) (hr : Room k X.A) (hb : Binds X.K fd ps []) (hx : ∀ σ, PassesAt CX X σ (E σ))
    (ht : eval (.Call (.Attribute o m apos) [] [] pos) X.env = (do
      let ov ← eval o X.env
      standAt apos.atName
      let (f, first) ← holding [ov] (getMethod ov m pl)
      callWith pos f first (backTo pos (starEach [] X.env)) (backToKw pos (keywordEach [] X.env)))) :
    PE X (.Call (.Attribute o m apos) [] [] pos) (fun σ H Q => tMeth C m sp [] (E σ) ta tNil σ H Q) := by
  refine ⟨fun pins s σ H Q I h => ?_⟩
  refine PySem.W.methodCall_KW (pl := pl) (thn (he.run pins s σ H _ I h) fun u s1 ⟨x, H1, I1, rx, a, dx, fs, ex, ea, l, q⟩ => ?_) ht
  subst ex
  obtain rfl : u = Value.ref a := rx
  refine getmeth_ok I1 ea c hm l ?_
  refine PySem.W.callWith_K0 (first := [.ref a]) I1.kIn hm.kp ?_
  exact run_fnS (us := [.ref a]) (vs := [.ref a]) F hr hb (hx σ) I1 (.cons rfl .nil) q
theorem run_makeX {CX : CXT} {k : Nat} {f C : Addr} {fd : FuncData} {ps : List Str} {sp : Sp} {E : XK} {Q : VK} {us : List Value} {vs : List V} (M : Mk X.K C f) (F : FnOk X.prog X.w X.K X.mg X.base CX k f fd ps sp) (hr : Room (k + 1) X.A) (hb : Binds X.K fd ps [])
    (hx : PassesAt CX X σ E) (I : Inv X pins σ H s) (r : Vals vs us)
    (h : ∀ x dx, H x = none → H dx = none → dx ≠ x → sp (.ref x :: vs) (upd (upd H dx (.own x)) x (.ins C dx [])) (fun v H2 => v = .non ∧ Q (.ref x) H2) E) :
    wpAny (model X.prog X.w) X.A (call (.ref C) us) (EP X pins σ Q) X.xe s := by
  have hq := h (s.heap.objs.size + 1) s.heap.objs.size (I.hok.fresh (Nat.le_succ _)) (I.hok.fresh (Nat.le_refl _)) (Nat.ne_of_lt (Nat.lt_succ_self _))
  have I2 := Inv.made (C := C) I
  have r2 : Vals (V.ref (s.heap.objs.size + 1) :: vs) (Value.ref (s.heap.objs.size + 1) :: us) := .cons rfl r
  have hl : (Value.ref (s.heap.objs.size + 1) :: us ++ []).length = ps.length := by
    have e := r2.length
    rw [F.len _ _ _ _ hq] at e
    rw [List.append_nil]
    exact e.symm
  have b := hb _ (Value.ref (s.heap.objs.size + 1) :: us) I2.kIn hl
  rw [List.append_nil] at b
  refine wpAny_call (make_map (f := f) I.kIn M.makes M.init (beq_iff_eq.mp M.fn) (codeAny_mono (F.run _ X.stack _ _ ⟨Value.ref (s.heap.objs.size + 1) :: us, []⟩ (Value.ref (s.heap.objs.size + 1) :: us) _ _ E (hr.make C us [])
    (I2.env0.make C us []) b r2 hq) fun r s' hq' => ?_))
  cases r with
  | error e => exact hx pins _ _ e s' I2 hq'
  | ok fl =>
    cases fl with
    | ret u =>
      obtain ⟨v, H', I3, rv, ev, q3⟩ := I2.after hq'
      subst ev
      exact ⟨rv, ⟨V.ref (s.heap.objs.size + 1), H', I3, rfl, q3⟩⟩
    | next => exact False.elim hq'
    | brk => exact False.elim hq'
    | cont => exact False.elim hq'
def tMakeX (C : Addr) (sp : Sp) (E : L2.St → XK) (t : TA) : TE := fun σ H Q => t σ H fun vs H1 => ∀ x dx, H1 x = none → H1 dx = none → dx ≠ x → sp (.ref x :: vs) (upd (upd H1 dx (.own x)) x (.ins C dx [])) (fun v H2 => v = .non ∧ Q (.ref x) H2) (E σ)
theorem pe_makeX {CX : CXT} {k : Nat} {f C : Addr} {fd : FuncData} {ps : List Str} {sp : Sp} {E : L2.St → XK} {x : Str} {e : Expr} {es : List Expr} {p pos : Pos} {t : TA} (M : Mk X.K C f) (F : FnOk X.prog X.w X.K X.mg X.base CX k f fd ps sp) (hr : Room (k + 1) X.A) (hg : Gl X x) (hm : X.mg x = some (.ref C)) (hb : Binds X.K fd ps []) (hx : ∀ σ, PassesAt CX X σ (E σ))
    (ha : PA X (e :: es) t) (hdb : (x == ("__debug__" : Str)) = false) (he : starEach (e :: es) X.env = (false, eval e X.env) :: starEach es X.env) (hpl : (backTo pos (starEach es X.env)).any (·.1) = false) :
    PE X (.Call (.Name x p) (e :: es) [] pos) (tMakeX C sp E t) := by
  refine ⟨fun pins s σ H Q I h => ?_⟩
  refine wpAny_Call_Name_kw (ld_glob I hg hm ?_ hdb)
  refine PySem.W.callWith_K (h₀ := X.base) I.ok.mod.kin M.kp (thn (ha.run pos pins s σ H _ I h) fun us s1 ⟨vs, H1, I1, r, q⟩ => ⟨I1.kIn, ?_⟩) he hpl
  exact run_makeX M F hr hb (hx σ) I1 r q
theorem pe_makeX0 {CX : CXT} {k : Nat} {f C : Addr} {fd : FuncData} {ps : List Str} {sp : Sp} {E : L2.St → XK} {x : Str} {p pos : Pos} (M : Mk X.K C f) (F : FnOk X.prog X.w X.K X.mg X.base CX k f fd ps sp) (hr : Room (k + 1) X.A) (hg : Gl X x) (hm : X.mg x = some (.ref C)) (hb : Binds X.K fd ps []) (hx : ∀ σ, PassesAt CX X σ (E σ))
    (hdb : (x == ("__debug__" : Str)) = false) : PE X (.Call (.Name x p) [] [] pos) (tMakeX C sp E tNil) := by
  refine ⟨fun pins s σ H Q I h => ?_⟩
  refine wpAny_Call_Name_kw (ld_glob I hg hm ?_ hdb)
  exact PySem.W.callWith_K0 I.kIn M.kp (run_makeX (us := []) M F hr hb (hx σ) I .nil h)
end
end Pe
set_option Elab.async false
set_option linter.all false
set_option maxRecDepth 100000
set_option maxHeartbeats 4000000
namespace Pe
open PySem PySem.Spec PyProof.Rows L2
def asgsB (self : Str) : List Str → List Stmt → Bool
  | [], [] => true
  | f :: fs, .Assign [.Attribute (.Name s _) g _] (.Name x _) _ :: r => decide (s = self) && (decide (g = f) && decide (x = f)) && asgsB self fs r
  | _, _ => false
def sSuper : Str := ⟨#[115, 117, 112, 101, 114]⟩
def sInit : Str := ⟨#[95, 95, 105, 110, 105, 116, 95, 95]⟩
def xiB (self : Str) (fs : List Str) : List Stmt → Bool
  | .Expr (.Call (.Attribute (.Call (.Name sp _) [] [] _) m ap) [.Constant (.str _) _ _] [] cp) _ :: r => decide (sp = sSuper) && decide (m = sInit) && (ap.endLine == cp.line) && asgsB self fs r
  | _ => false
/-- plain parameters of these names -/
def parB (ps : List Str) (a : Arguments) : Bool := a.posonlyargs.isEmpty && decide (a.args.map (·.arg) = ps) && a.vararg.isNone && a.kwonlyargs.isEmpty && a.kwarg.isNone
theorem zip_lookup {ps : List Str} {us : List Value} (hl : us.length = ps.length) : ∀ x ∈ ps, ∃ u, (ps.zip us).lookup x = some u := by
  induction ps generalizing us with
  | nil => intro x hx; cases hx
  | cons p ps ih =>
    intro x hx
    cases us with
    | nil => cases hl
    | cons u us =>
      rw [List.zip_cons_cons, List.lookup_cons]
      cases e : x == p with
      | true => exact ⟨u, rfl⟩
      | false =>
        rcases List.mem_cons.mp hx with rfl | hx
        · simp at e
        · exact ih (by simpa using hl) x hx
theorem lookup_mem {x : Str} {u : Value} : ∀ {l : List (Str × Value)}, l.lookup x = some u → (x, u) ∈ l
  | [], h => by cases h
  | (y, v) :: l, h => by
    rw [List.lookup_cons] at h
    cases e : x == y with
    | true =>
      rw [e] at h
      cases h
      have := eq_of_beq e
      subst this
      exact List.mem_cons_self
    | false => rw [e] at h; exact List.mem_cons_of_mem _ (lookup_mem h)
theorem zip_fm {ps : List Str} {us : List Value} (hl : us.length = ps.length) (hn : ps.Nodup) : (ps.filterMap fun n => ((ps.zip us).lookup n).map (n, ·)) = ps.zip us := by
  have key : ∀ (pre : List (Str × Value)) (qs : List Str) (ws : List Value), ws.length = qs.length → qs.Nodup → (∀ q ∈ qs, pre.lookup q = none) → (qs.filterMap fun n => ((pre ++ qs.zip ws).lookup n).map (n, ·)) = qs.zip ws := by
    intro pre qs
    induction qs generalizing pre with
    | nil => intro ws _ _ _; rfl
    | cons q qs ih =>
      intro ws hw hq hp
      cases ws with
      | nil => cases hw
      | cons w ws =>
        have hq' := List.nodup_cons.mp hq
        rw [List.zip_cons_cons, List.filterMap_cons]
        have e1 : (pre ++ (q, w) :: qs.zip ws).lookup q = some w := by
          rw [List.lookup_append, hp q List.mem_cons_self]
          simp [List.lookup_cons]
        rw [e1]
        simp only [Option.map_some]
        congr 1
        have := ih (pre ++ [(q, w)]) ws (by simpa using hw) hq'.2 (fun x hx => by
          have hxq : (x == q) = false := by
            simp only [beq_eq_false_iff_ne, ne_eq]
            rintro rfl
            exact hq'.1 hx
          rw [List.lookup_append, hp x (List.mem_cons_of_mem _ hx)]
          simp [List.lookup_cons, hxq])
        rw [List.append_assoc] at this
        exact this
  have := key [] ps us hl hn (fun _ _ => rfl)
  simpa using this
theorem bind_plain {fd : FuncData} {ps : List Str} {us : List Value} (hp : parB ps fd.params = true) (hd : fd.defaults = .none) (hn : ps.Nodup) (hl : us.length = ps.length) : bindArgs fd ⟨us, []⟩ = pure (ps.zip us) := by
  unfold parB at hp
  simp only [Bool.and_eq_true, decide_eq_true_eq, List.isEmpty_iff, Option.isNone_iff_eq_none] at hp
  obtain ⟨⟨⟨⟨h1, h2⟩, h3⟩, h4⟩, h5⟩ := hp
  have hm : ∀ k, ((ps.take k).filter fun n => ((ps.zip us).lookup n).isNone) = [] := fun k => by
    rw [List.filter_eq_nil_iff]
    intro x hx
    obtain ⟨u, e⟩ := zip_lookup hl x (List.mem_of_mem_take hx)
    rw [e]
    simp
  have hz := zip_fm hl hn
  have hs : seqItems? Value.none = (pure none : Sem (Option (Array Value))) := rfl
  unfold bindArgs
  simp only [h1, h2, h3, h4, h5, hd, hs, List.map_nil, List.nil_append, List.append_nil, pure_bind, List.forIn_nil, Option.getD_none, Option.isNone_none, Bool.and_true]
  have e1 : ¬ (decide (us.length > ps.length) = true) := by simp [hl]
  simp [hl, hm, hz]
  intro x hx hno
  obtain ⟨u, e⟩ := zip_lookup hl x hx
  exact absurd (lookup_mem e) (hno u)
end Pe
set_option Elab.async false
set_option linter.all false
set_option maxRecDepth 100000
set_option maxHeartbeats 4000000
namespace Pe
open PySem PySem.Spec PyProof.Rows L2 PySem.Calls
def sCls : Str := ⟨#[95, 95, 99, 108, 97, 115, 115, 95, 95]⟩
def scB (ps : List Str) (sc : Scope) : Bool := (match sc.kind with | .function => true | _ => false) && !sc.isCoroutine && !sc.isGenerator &&
  sc.names.all (fun y => match y.2 with | .cell => false | _ => true) &&
  (match sc.names.lookup sSuper with | some .globalImplicit => true | _ => false) && (match sc.names.lookup sCls with | some .free => true | _ => false) &&
  ps.all fun p => (match sc.names.lookup p with | some .local => true | _ => false) && !(p == (⟨#[95,95,100,101,98,117,103,95,95]⟩ : Str))
def cellB (K : PySem.W.Frag) (C : Addr) (fd : FuncData) : Bool := match fd.closure.lookup sCls with
  | some cc => (match K.lookup cc with
    | some ⟨_, _, .cell (some (.ref D)), _⟩ => (PySem.W.clsIn K D).isSome && decide (PySem.W.mroIn K C (.ref D) = some true) && decide (PySem.W.ks_superIn K C D "__init__" = some (some (.builtin "ValueError.__init__")))
    | _ => false)
  | none => false
def codB (K : PySem.W.Frag) (file : Str) (fd : FuncData) : Bool := match fd.code with
  | .ref cda => PySem.W.codeIn K (.ref cda) fd.qualname && (match K.lookup cda with
    | some ⟨_, _, .fields vs, _⟩ => (match (vs[2]? : Option Value) with | some (Value.str f _) => decide (f = file) | _ => false)
    | _ => false)
  | _ => false
def bodB (fs : List Str) (fd : FuncData) : Bool := match fd.body with
  | .stmts b => (match fd.params.args with
    | ar :: _ => xiB ar.arg fs b && parB (ar.arg :: fs) fd.params && decide (ar.arg :: fs).Nodup && scB (ar.arg :: fs) fd.scope
    | [] => false)
  | _ => false
def fdB (K : PySem.W.Frag) (file : Str) (C : Addr) (fs : List Str) (fd : FuncData) : Bool := bodB fs fd && cellB K C fd && codB K file fd && decide (fd.defaults = .none) && decide (fd.globals = mainGlobals) && decide (fd.builtins = builtinsNs)
structure XiC (K : PySem.W.Frag) (file : Str) (C : Addr) (fs : List Str) : Prop where
  oex : OexC K C
  no : ∀ f ∈ fs, PySem.W.findIn K (.ref C) f = some none
  opq : PySem.W.nsIn K cStatics "thirdparty.any" = some none
  sub : PySem.W.subIn K (.ref C) (.type "ValueError") = some true
  ex : ∃ fI oi di fd si, PySem.W.findIn K (.ref C) "__init__" = some (some (.ref fI)) ∧ PySem.W.typeIn K (.ref fI) = some (.type "function") ∧ K.lookup fI = some ⟨oi, di, .func fd, si⟩ ∧ fdB K file C fs fd = true
theorem scB_ok {ps : List Str} {sc : Scope} (h : scB ps sc = true) : sc.kind = .function ∧ sc.isCoroutine = false ∧ sc.isGenerator = false ∧ (∀ x ∈ sc.names, x.2 ≠ .cell) ∧ sc.names.lookup sSuper = some .globalImplicit ∧ sc.names.lookup sCls = some .free ∧
    ∀ p ∈ ps, sc.names.lookup p = some .local ∧ (p == ("__debug__" : Str)) = false := by
  unfold scB at h
  simp only [Bool.and_eq_true, Bool.not_eq_true'] at h
  obtain ⟨⟨⟨⟨⟨⟨h1, h2⟩, h3⟩, h4⟩, h5⟩, h6⟩, h7⟩ := h
  have e1 : ("__debug__" : Str) = ⟨#[95,95,100,101,98,117,103,95,95]⟩ := by decide +kernel
  refine ⟨?_, h2, h3, fun x hx z => ?_, ?_, ?_, fun p hp => ?_⟩
  · split at h1
    · assumption
    · cases h1
  · have := List.all_eq_true.mp h4 x hx
    rw [z] at this
    cases this
  · split at h5
    · assumption
    · cases h5
  · split at h6
    · assumption
    · cases h6
  · have := List.all_eq_true.mp h7 p hp
    simp only [Bool.and_eq_true, Bool.not_eq_true'] at this
    obtain ⟨q1, q2⟩ := this
    refine ⟨?_, by rw [e1]; exact q2⟩
    split at q1
    · assumption
    · cases q1
section
variable {prog : Program} {w : World} {M : Model} {A : Around} {E : Value → Shared → Prop} {h : Heap} {g : Array GenState} {d : Drawn} {t : Nat} {os : OsState}
variable {nm q : Str} {C N : Addr} {bs bm : List Value} {sn : List Str} {sub : List Value} {ab : Bool} {col : Option Bool} {dd : Option Addr} {k0 k1 k2 k3 k5 : Option Value}
theorem call_bwVE {u e t0 : Addr} {rest : List Value} {Q : Value → Shared → Prop}
    (hC : h.get? C = some (excClassObj nm q C N bs bm true sn sub ab col dd k0 k1 k2 k3 k5 "ValueError.__new__")) (he : h.get? e = some (PySem.HandSPX.excO C t0)) (hu : h.get? u = some (PySem.W.kxs_mw "ValueError.__init__" e)) (hrest : rest.length ≤ sizeLine)
    (hq : ∀ h' t1, (∀ b o, b ≠ e → h.get? b = some o → h'.get? b = some o) → h'.get? e = some (PySem.HandSPX.excO C t1) → Q .none ⟨h', g, d, t, os⟩) :
    wpAny (model prog w) A (call (.ref u) rest) Q E ⟨h, g, d, t, os⟩ := by
  refine wpAny_call (codeAny_of_tree ?_)
  show wpAny _ A.in1 (callAny (.ref u) ⟨rest, []⟩) _ _ _
  simp only [callAny]
  refine wpAny_bind (wpAny_load hu ?_)
  simp only [PySem.W.kxs_mw, show (Value.type "method-wrapper" == Value.type "method" || Value.type "method-wrapper" == Value.type "builtin_function_or_method" || Value.type "method-wrapper" == Value.type "method-wrapper") = true by decide, if_true]
  refine W.KFB.if_so (by decide) ?_
  refine wpAny_bind (PySem.W.check_bound_init F.excBase_ValueError.toExcCallFacts hC he rfl ?_)
  refine wpAny_bind (wpAny_pure (wpAny_pure ?_))
  refine ⟨Code.quiet_builtin _ (by decide +kernel), codeAny_builtin F.excBase_ValueError.initEntry ?_⟩
  rw [Around.under_plainId F.excBase_ValueError.init.plain _]
  wp_walk
  refine hq _ h.objs.size (fun b o hb ho => ?_) ?_
  · rw [Heap.get?_update_other _ _ (Ne.symm hb)]
    exact Heap.get?_push_of_some _ ho
  · rw [Heap.get?_update_self _ (Heap.get?_push_of_some _ he) rfl]
    rfl
end
theorem asgsB_cons {self f : Str} {fs : List Str} {body : List Stmt} (h : asgsB self (f :: fs) body = true) : ∃ ps pg px pp r, body = .Assign [.Attribute (.Name self ps) f pg] (.Name f px) pp :: r ∧ asgsB self fs r = true := by
  unfold asgsB at h
  split at h
  · rename_i e
    cases e
  · rename_i e
    cases e
    simp only [Bool.and_eq_true, decide_eq_true_eq] at h
    obtain ⟨⟨rfl, rfl, rfl⟩, hr⟩ := h
    exact ⟨_, _, _, _, _, rfl, hr⟩
  · cases h
theorem asgsB_nil {self : Str} {body : List Stmt} (h : asgsB self [] body = true) : body = [] := by
  cases body with
  | nil => rfl
  | cons _ _ => simp [asgsB] at h
section
variable {prog : Program} {w : World} {A : Around} {E : Value → Shared → Prop} {K : PySem.W.Frag}
/-- self.f = f .. behind the first -/
theorem asgs_run {C a dx L : Addr} {env : Env} {self : Str} {m : Str → Option Value} {t1 : Addr} {g : Array GenState} {d : Drawn} {os : OsState} {Q : Flow → Shared → Prop} (T : OexC K C)
    (hk : env.scope.kind = .function) (hL : env.locals = L) (ms : m self = some (.ref a)) (ks : env.kindOf self = some .local) (ds : (self == ("__debug__" : Str)) = false) (hLa : L ≠ a) (hLd : L ≠ dx) (hda : dx ≠ a) :
    ∀ (fs : List Str) (body : List Stmt) (hp : Heap) (tk : Nat) (mA : Str → Option Value) (nl : List Str), asgsB self fs body = true → (∀ f ∈ fs, PySem.W.findIn K (.ref C) f = some none ∧ env.kindOf f = some .local ∧ (f == ("__debug__" : Str)) = false ∧ ∃ u, m f = some u) →
      K.In hp → hp.Ns L m → hp.get? a = some ({ cls := .ref C, dict := some dx, data := .fields #[.ref t1, .none, .none, .none, .bool false, .none] } : Obj) → hp.Ns1 dx mA → Within mA nl → nl.length + fs.length ≤ 1000 → K.lookup dx = none → K.lookup a = none →
      (∀ h' tk', (∀ b o, b ≠ dx → hp.get? b = some o → h'.get? b = some o) → h'.Ns1 dx (fun y => if y ∈ fs then m y else mA y) → Q .next ⟨h', g, d, tk', os⟩) → wpAny (model prog w) A (execs body env) Q E ⟨hp, g, d, tk, os⟩
  | [], body, hp, tk, mA, nl, hb, hf, kin, hns, ha, hn1, hw, hz, kd, ka, hq => by
    rw [asgsB_nil hb]
    exact wpAny_execs_nil (hq hp tk (fun _ _ _ e => e) (by simpa using hn1))
  | x :: fs, body, hp, tk, mA, nl, hb, hf, kin, hns, ha, hn1, hw, hz, kd, ka, hq => by
      obtain ⟨ps, pg, px, pp, r, rfl, hr⟩ := asgsB_cons hb
      obtain ⟨f1, f2, f3, u, f4⟩ := hf x List.mem_cons_self
      obtain ⟨nm, q, N, bs, bm, sn, sub, ab, col, dd, k0, k1, k2, k3, k5, hC, hbm⟩ := T.cls
      have hcl : PySem.W.clsIn K C = some { name := nm, bases := bs, mro := .ref C :: bm, ns := N, qualname := q, hasDict := true, slotNames := sn, subclasses := sub, abstract := ab, collection := col, hasDel := false } := by unfold PySem.W.clsIn; rw [hC] <;> rfl
      obtain ⟨oD, esD, epD, hoD, hdD, _⟩ := hn1.count hw
      refine wpAny_execs_cons ?_
      refine plainObj_wpAny_Assign_Attribute ?_ rfl
      refine PySem.ESX.ldL (m := m) (by rw [hL]; exact hns) f4 ?_ hk f2 f3
      refine PySem.ESX.ldL (m := m) (by rw [hL]; exact hns) ms ?_ hk ks ds
      refine PySem.W.set_plain (K := K) kin (ox := { cls := .ref C, dict := some dx, data := .fields #[.ref t1, .none, .none, .none, .bool false, .none] }) (od := some oD) ⟨ha, rfl, rfl, hoD⟩ T.sa ?_
      refine PySem.OEX.osa_old kin ha hn1 hw (by simp at hz; omega) hcl (show PySem.HandSPX.refsVE (.ref C :: bm) = true from hbm) rfl f1 (fun h' tk' k hn => ?_)
      have kin' : K.In h' := fun b o e => k b o (fun z => by rw [z] at e; rw [kd] at e; cases e) (kin b o e)
      refine asgs_run T hk hL ms ks ds hLa hLd hda fs r h' tk' _ (x :: nl) hr (fun y hy => hf y (List.mem_cons_of_mem _ hy)) kin' (hns.at fun o e => k _ o hLd e) (k _ _ (Ne.symm hda) ha) hn (Within.cons x u hw) (by simp at hz ⊢; omega) kd ka fun h2 tk2 kk hn2 => ?_
      refine hq h2 tk2 (fun b o hb e => kk b o hb (k b o hb e)) ?_
      have e : (fun y => if y ∈ x :: fs then m y else mA y) = fun y => if y ∈ fs then m y else if y = x then some u else mA y := by
        funext y
        by_cases h1 : y ∈ fs
        · simp [h1]
        · by_cases h2 : y = x
          · subst h2; simp [f4]
          · simp [h1, h2]
      rw [e]; exact hn2
end
end Pe
set_option Elab.async false
set_option linter.all false
set_option maxRecDepth 100000
set_option maxHeartbeats 4000000
namespace Pe
open PySem PySem.Spec PyProof.Rows L2 PySem.Calls
theorem rev_lookup {α : Type} : ∀ {l : List (Str × α)} (x : Str), (l.map (·.1)).Nodup → l.reverse.lookup x = l.lookup x
  | [], _, _ => rfl
  | (y, v) :: l, x, h => by
    have h' := List.nodup_cons.mp (show (y :: l.map (·.1)).Nodup from h)
    rw [List.reverse_cons, List.lookup_append, rev_lookup x h'.2]
    by_cases e : x = y
    · subst e
      have : l.lookup x = none := by
        cases q : l.lookup x with
        | none => rfl
        | some z =>
          exfalso
          refine h'.1 ?_
          have : ∀ {l : List (Str × α)}, l.lookup x = some z → x ∈ l.map (·.1) := by
            intro l
            induction l with
            | nil => intro h; cases h
            | cons p l ih =>
              intro h
              rw [List.lookup_cons] at h
              cases e : x == p.1 with
              | true => have := eq_of_beq e; subst this; exact List.mem_cons_self
              | false => rw [e] at h; exact List.mem_cons_of_mem _ (ih h)
          exact this q
      rw [this]
      simp [List.lookup_cons]
    · have e2 : (x == y) = false := by simpa using e
      simp [List.lookup_cons, e2]
theorem zip_names {ps : List Str} {us : List Value} (hl : us.length = ps.length) : (ps.zip us).map (·.1) = ps := by
  rw [List.map_fst_zip (by omega)]
theorem xiB_ok {self : Str} {fs : List Str} {b : List Stmt} (h : xiB self fs b = true) : ∃ (p0 p1 ap cp ep kp : Pos) (x : Str) (k : Nat) (r : List Stmt), b = .Expr (.Call (.Attribute (.Call (.Name sSuper p0) [] [] p1) sInit ap) [.Constant (.str x) k kp] [] cp) ep :: r ∧ (ap.endLine == cp.line) = true ∧ asgsB self fs r = true := by
  unfold xiB at h
  split at h
  · rename_i sp p0 p1 m ap x k kp cp ep r
    simp only [Bool.and_eq_true, decide_eq_true_eq] at h
    obtain ⟨⟨⟨rfl, rfl⟩, h1⟩, h2⟩ := h
    exact ⟨_, _, _, _, _, _, _, _, _, rfl, h1, h2⟩
  · cases h
theorem meth_formS {o : Expr} {m : Str} {apos pos : Pos} {args : List Expr} {env : Env} 
    (hfew : methodCallForm (args.length + ([] : List Keyword).length) (backTo pos (starEach args env)) (backToKw pos (keywordEach [] env)) = true) (hline : (apos.endLine == pos.line) = true) :
    eval (.Call (.Attribute o m apos) args [] pos) env = (do
      let ov ← attributeBase o m env (eval o env)
      standAt apos.atName
      let (f, first) ← holding [ov] (getMethod ov m (do return (← importBound o env).getD true))
      callWith pos f first (backTo pos (starEach args env)) []) := by
  have hpos : methodCallPos true o env apos pos = pure pos := by unfold methodCallPos; simp [hline]
  rw [arm_eval_Call]
  unfold methodCall
  simp only [hfew, hpos]
  rfl
section
variable {prog : Program} {w : World} {A : Around} {K : PySem.W.Frag} {mg mb : Str → Option Value}
theorem init_run {file : Str} {C fI e t0 : Addr} {f : Str} {fs : List Str} {u : Value} {us : List Value} {fd : FuncData} {oi : Value} {di : Option Addr} {si : Array (Option Value)} {R : Result → Shared → Prop} {hp : Heap} {g : Array GenState} {d : Drawn} {t : Nat} {os : OsState}
    (T : XiC K file C (f :: fs)) (lk : K.lookup fI = some ⟨oi, di, .func fd, si⟩) (fb : fdB K file C (f :: fs) fd = true)
    (kin : K.In hp) (hlim : hp.NoLimit) (hglob : hp.Ns mainGlobals mg) (hms : mg sSuper = none) (hblt : hp.Ns builtinsNs mb) (hmb : mb sSuper = bootBuiltins sSuper)
    (hfile : (prog.main.file == file) = true) (htop : (prog.main.scope.names.lookup sSuper).isSome = false)
    (hroom : A.depth < recursionLimit) (he : hp.get? e = some (PySem.HandSPX.excO C t0)) (hke : K.lookup e = none) (hl : us.length = fs.length) (hz : fs.length ≤ 900)
    (hq : ∀ h' dx t1 tk, (∀ b o, b ≠ e → hp.get? b = some o → h'.get? b = some o) → dx ≠ e → hp.objs.size ≤ dx → h'.get? e = some ({ cls := .ref C, dict := some dx, data := .fields #[.ref t1, .none, .none, .none, .bool false, .none] } : Obj) →
      h'.Ns1 dx (fun y => ((f :: fs).zip (u :: us)).lookup y) → R (.ok (.ret .none)) ⟨h', g, d, tk, os⟩) :
    codeAny (model prog w) A (.call (.ref fI) ⟨.ref e :: u :: us, []⟩) R ⟨hp, g, d, t, os⟩ := by
  have eS : ("super" : Str) = sSuper := by decide +kernel
  have eI : ("__init__" : Str) = sInit := by decide +kernel
  have eC : ("__class__" : Str) = sCls := by decide +kernel
  unfold fdB at fb
  simp only [Bool.and_eq_true, decide_eq_true_eq] at fb
  obtain ⟨⟨⟨⟨⟨b1, b2⟩, b3⟩, b4⟩, b5⟩, b6⟩ := fb
  unfold bodB at b1
  split at b1
  · rename_i b eb
    split at b1
    · rename_i ar ars ea
      simp only [Bool.and_eq_true, decide_eq_true_eq] at b1
      obtain ⟨⟨⟨x1, x2⟩, x3⟩, x4⟩ := b1
      obtain ⟨p0, p1, ap, cp, ep, kp, x, kk, r, rfl, hline, hasg⟩ := xiB_ok x1
      obtain ⟨sk, sco, sg, sce, ssu, scl, spar⟩ := scB_ok x4
      unfold cellB at b2
      split at b2
      · rename_i cc ecc
        split at b2
        · rename_i cl cld D csl lcc
          simp only [Bool.and_eq_true, decide_eq_true_eq] at b2
          obtain ⟨⟨c1, c2⟩, c3⟩ := b2
          unfold codB at b3
          split at b3
          · rename_i cda ecda
            simp only [Bool.and_eq_true] at b3
            obtain ⟨d1, d2⟩ := b3
            split at d2
            · rename_i ccl cdd vs ccs lcd
              split at d2
              · rename_i fl tf evs
                have d2 : fl = file := of_decide_eq_true d2
                subst d2
                obtain ⟨cdD, hcD⟩ := Option.isSome_iff_exists.mp c1
                have hle : (Value.ref e :: u :: us).length = (ar.arg :: f :: fs).length := by simp [hl]
                have hb := bind_plain (fd := fd) x2 b4 x3 hle
                have hN : (((ar.arg :: f :: fs).zip (Value.ref e :: u :: us)).map (·.1)).Nodup := by rw [zip_names hle]; exact x3
                refine ks_codeAny_call_defAt (fd := fd) (binds := (ar.arg :: f :: fs).zip (Value.ref e :: u :: us)) hroom (kin _ _ lk) rfl hlim (by rw [ecda]; exact PySem.W.codeRec_of kin d1) eb (BindsTo.of_eq hb) sce (fun y hy => ?_) (fun h1 hns k1 => ?_) sco sg sk
                · exact (spar y.1 (by have := List.mem_map_of_mem (f := (·.1)) hy; rwa [zip_names hle] at this)).1
                have kin1 : K.In h1 := kin.keeps k1
                have hL : (callEnv fd hp.objs.size fI).locals = hp.objs.size := rfl
                have em : (fun y => ((ar.arg :: f :: fs).zip (Value.ref e :: u :: us)).reverse.lookup y) = fun y => ((ar.arg :: f :: fs).zip (Value.ref e :: u :: us)).lookup y := funext fun y => rev_lookup y hN
                have hns : h1.Ns hp.objs.size (fun y => ((ar.arg :: f :: fs).zip (Value.ref e :: u :: us)).lookup y) := by rw [← em]; exact hns
                have ms : ((ar.arg :: f :: fs).zip (Value.ref e :: u :: us)).lookup ar.arg = some (.ref e) := by simp [List.lookup_cons]
                have he1 := k1 _ _ he
                have hLe : hp.objs.size ≠ e := Nat.ne_of_gt (Heap.lt_size he)
                have hint : interactive (callEnv fd hp.objs.size fI) = false := by
                  have : (callEnv fd hp.objs.size fI).scope = fd.scope := rfl
                  simp [interactive, this, sk]
                refine ks_wpAt_execs_cons (ks_wpAt_Expr_any (ks_wpAt_MethodCall ?_ (meth_formS rfl hline)) hint rfl)
                have hp0 : (fd.params.posonlyargs ++ fd.params.args).head? = some ar := by
                  unfold parB at x2
                  simp only [Bool.and_eq_true, decide_eq_true_eq, List.isEmpty_iff, Option.isNone_iff_eq_none] at x2
                  rw [x2.1.1.1.1, ea]; rfl
                obtain ⟨nm, q, N, bs, bm, sn, sub, ab, col, dd, k0, k1', k2, k3, k5, hC, hbm⟩ := T.oex.cls
                have hcl : PySem.W.clsIn K C = some { name := nm, bases := bs, mro := .ref C :: bm, ns := N, qualname := q, hasDict := true, slotNames := sn, subclasses := sub, abstract := ab, collection := col, hasDel := false } := by unfold PySem.W.clsIn; rw [hC] <;> rfl
                obtain ⟨oD, hD1, hD2⟩ : ∃ oD, h1.get? D = some oD ∧ oD.data = .cls cdD := by
                  unfold PySem.W.clsIn at hcD
                  split at hcD
                  · rename_i c d cd' sl ho
                    cases hcD
                    exact ⟨_, kin1 _ _ ho, rfl⟩
                  · cases hcD
                have I1 : PySem.W.InstAt h1 e (PySem.HandSPX.excO C t0) C none := ⟨he1, rfl, rfl, trivial⟩
                have eS' : sSuper = ("super" : Str) := eS.symm
                rw [eS'] at ssu htop hms hmb ⊢
                rw [← eC] at scl ecc
                rw [← eI]
                refine ks_wpAt_super_base (env := callEnv fd hp.objs.size fI) (fd := fd) ssu scl (by decide +kernel) rfl (kin1 _ _ lk) rfl hp0 ecda (kin1 _ _ lcd) rfl evs hfile htop ?_
                refine PySem.W.ks_loadName_global sk ssu (loadGlobal_builtin (env := callEnv fd hp.objs.size fI) (mg := mg) (mb := mb) (by show h1.Ns fd.globals mg; rw [b5]; exact hglob.keeps k1) hms (by show h1.Ns fd.builtins mb; rw [b6]; exact hblt.keeps k1) (hmb.trans (by decide +kernel)) ⟨rfl, ?_⟩)
                refine wpAny_loadName_free sk scl ecc ⟨_, kin1 _ _ lcc, rfl⟩ ?_
                refine wpAny_loadName_local sk (spar _ List.mem_cons_self).1 hns ms ?_
                refine ks_wpAny_isType_cls hD1 hD2 ⟨rfl, ?_⟩
                refine ks_wpAny_call_super hD1 hD2 he1 rfl (fun c z => nomatch z) (PySem.W.looks_mroIn kin1 c2) (fun h2 e2 k2 => ?_)
                have kin2 : K.In h2 := kin1.keeps k2
                have I2 : PySem.W.InstAt h2 e (PySem.HandSPX.excO C t0) C none := ⟨k2 _ _ he1, rfl, rfl, trivial⟩
                unfold PySem.W.ks_superIn at c3
                rw [hcl, Option.bind_some] at c3
                refine PySem.W.kxs_getMethod PySem.W.kxs_ValueError e2 (PySem.W.looks_opaque kin2 T.opq) (l₀ := .ref C :: bm) (fun A Q E s k q => wpAny_bind ((PySem.W.looks_clsIn kin2 hcl) A _ E s k (wpAny_pure q))) rfl kin2 c3 (I2.type.andThen (PySem.W.looks_subIn kin2 T.sub)) (PySem.W.ks_ne kin2 I2 hcl) (by decide +kernel) ?_
                have he2 := k2 _ _ he1
                have k3 : ∀ b o, h2.get? b = some o → (h2.push (PySem.W.kxs_mw "ValueError.__init__" e)).get? b = some o := fun b o z => Heap.get?_push_of_some _ z
                have hu3 : (h2.push (PySem.W.kxs_mw "ValueError.__init__" e)).get? h2.objs.size = some (PySem.W.kxs_mw "ValueError.__init__" e) := Heap.get?_push_at rfl rfl
                refine PySem.W.kxs_callWith (i := "ValueError.__init__") (x := e) rfl (evalArgs_plain (spliced_cons (wpAny_Constant_str (k := kk) (pos := kp) (spliced_nil ⟨hu3, ?_⟩))))
                refine call_bwVE (C := C) ((kin2.keeps k3) _ _ hC) (k3 _ _ he2) hu3 (by rw [sizeLine_eq]; show 1 ≤ _; omega) fun h4 t4 k4 he4 => wpAt_of_wpAny ?_
                have kin4 : K.In h4 := fun b o z => k4 b o (fun y => by rw [y, hke] at z; cases z) (kin2.keeps k3 b o z)
                have hns4 : h4.Ns hp.objs.size (fun y => ((ar.arg :: f :: fs).zip (Value.ref e :: u :: us)).lookup y) := ((hns.keeps k2).keeps k3).at fun o z => k4 _ o hLe z
                obtain ⟨ps, pg, px, pp, r', rfl, hr⟩ := asgsB_cons hasg
                have fne : ∀ y ∈ f :: fs, ∃ v, ((ar.arg :: f :: fs).zip (Value.ref e :: u :: us)).lookup y = some v ∧ ((f :: fs).zip (u :: us)).lookup y = some v := fun y hy => by
                  obtain ⟨v, ev⟩ := zip_lookup (us := u :: us) (ps := f :: fs) (by simp [hl]) y hy
                  have : (y == ar.arg) = false := by
                    simp only [beq_eq_false_iff_ne, ne_eq]
                    rintro rfl
                    exact (List.nodup_cons.mp x3).1 hy
                  exact ⟨v, by rw [List.zip_cons_cons, List.lookup_cons, this]; exact ev, ev⟩
                obtain ⟨u', hf1, hf2⟩ := fne f List.mem_cons_self
                refine wpAny_execs_cons ?_
                refine plainObj_wpAny_Assign_Attribute ?_ rfl
                refine PySem.ESX.ldL (m := fun y => ((ar.arg :: f :: fs).zip (Value.ref e :: u :: us)).lookup y) hns4 hf1 ?_ sk (spar f (List.mem_cons_of_mem _ List.mem_cons_self)).1 (spar f (List.mem_cons_of_mem _ List.mem_cons_self)).2
                refine PySem.ESX.ldL (m := fun y => ((ar.arg :: f :: fs).zip (Value.ref e :: u :: us)).lookup y) hns4 ms ?_ sk (spar _ List.mem_cons_self).1 (spar _ List.mem_cons_self).2
                refine PySem.W.set_plain (K := K) kin4 (ox := PySem.HandSPX.excO C t4) (od := none) ⟨he4, rfl, rfl, trivial⟩ T.oex.sa ?_
                refine PySem.HandSPX.exc_osa kin4 he4 hcl (show PySem.HandSPX.refsVE (.ref C :: bm) = true from hbm) rfl (T.no f List.mem_cons_self) (fun h5 tk5 dx k5 dn dne hx hn5 => ?_)
                have kin5 : K.In h5 := fun b o z => k5 b o (fun y => by rw [y, hke] at z; cases z) (kin4 b o z)
                have kdx : K.lookup dx = none := by
                  cases z : K.lookup dx with
                  | none => rfl
                  | some o => exact absurd (Heap.lt_size (kin4 _ _ z)) (Nat.not_lt.mpr dn)
                have hLd : hp.objs.size ≠ dx := fun z => by
                  obtain ⟨o, _, _, ho, _⟩ := hns4
                  exact absurd (Heap.lt_size ho) (by rw [z]; exact Nat.not_lt.mpr dn)
                have old : ∀ b o, hp.get? b = some o → b ≠ dx := fun b o z => fun y => by
                  by_cases hbe : b = e
                  · exact dne (by rw [← y, hbe])
                  · exact absurd (Heap.lt_size (k4 b o hbe (k3 _ _ (k2 _ _ (k1 _ _ z))))) (by rw [y]; exact Nat.not_lt.mpr dn)
                refine asgs_run (env := callEnv fd hp.objs.size fI) (self := ar.arg) (m := fun y => ((ar.arg :: f :: fs).zip (Value.ref e :: u :: us)).lookup y) T.oex sk rfl ms (spar _ List.mem_cons_self).1 (spar _ List.mem_cons_self).2 hLe hLd dne fs r' h5 _ _ [f] hr (fun y hy => ⟨T.no y (List.mem_cons_of_mem _ hy), (spar y (List.mem_cons_of_mem _ (List.mem_cons_of_mem _ hy))).1, (spar y (List.mem_cons_of_mem _ (List.mem_cons_of_mem _ hy))).2, (fne y (List.mem_cons_of_mem _ hy)).imp fun _ z => z.1⟩)
                  kin5 (hns4.at fun o z => k5 _ o hLe z) hx hn5 (Within.cons f u' Within.nil) (by simp; omega) kdx hke fun h6 tk6 k6 hn6 => ?_
                refine hq h6 dx t4 tk6 (fun b o hb z => k6 b o (old b o z) (k5 b o hb (k4 b o hb (k3 _ _ (k2 _ _ (k1 _ _ z)))))) dne ?_ (k6 _ _ (Ne.symm dne) hx) ?_
                · obtain ⟨o, _, _, ho, _⟩ := hns4
                  exact Nat.le_trans (Nat.le_of_lt (Heap.lt_size ho)) dn
                · have e6 : (fun y => if y ∈ fs then ((ar.arg :: f :: fs).zip (Value.ref e :: u :: us)).lookup y else if y = f then some u' else none) = fun y => ((f :: fs).zip (u :: us)).lookup y := by
                    funext y
                    by_cases h1 : y ∈ fs
                    · obtain ⟨v, z1, z2⟩ := fne y (List.mem_cons_of_mem _ h1)
                      rw [if_pos h1, z1, z2]
                    · rw [if_neg h1]
                      by_cases h2 : y = f
                      · subst h2
                        rw [if_pos rfl, hf2]
                      · rw [if_neg h2]
                        cases z : ((f :: fs).zip (u :: us)).lookup y with
                        | none => rfl
                        | some v =>
                          have := List.mem_map_of_mem (f := (·.1)) (lookup_mem z)
                          rw [zip_names (by simp [hl])] at this
                          rcases List.mem_cons.mp this with q | q
                          · exact absurd q h2
                          · exact absurd q h1
                  rw [← e6]; exact hn6
              · cases d2
            · cases d2
          · cases b3
        · cases b2
      · cases b2
    · cases b1
  · cases b1
end
end Pe
set_option Elab.async false
set_option linter.all false
set_option maxRecDepth 100000
set_option maxHeartbeats 4000000
namespace Pe
open PySem PySem.Spec PyProof.Rows L2
/-- what is asked of the program -/
structure Px (P : Program) (mg : Str → Option Value) (file : Str) : Prop where
  file : (P.main.file == file) = true
  top : (P.main.scope.names.lookup sSuper).isSome = false
  sup : mg sSuper = none
theorem relO_zip : ∀ {fs : List Str} {vs : List V} {us : List Value}, Vals vs us → ∀ y, RelO ((fs.zip vs).lookup y) ((fs.zip us).lookup y)
  | [], _, _, _, _ => True.intro
  | f :: fs, _, _, .nil, _ => True.intro
  | f :: fs, _, _, .cons r rs, y => by
    rw [List.zip_cons_cons, List.zip_cons_cons, List.lookup_cons, List.lookup_cons]
    cases e : y == f with
    | true => exact r
    | false => exact relO_zip rs y
section
variable {X : Cx} {pins : List (Addr × Obj)} {σ : L2.St} {H : Hp} {s : Shared} {file : Str} {C : Addr} {f : Str} {fs : List Str}
/-- the object that is made; the heap without it -/
def XiP (X : Cx) (pins : List (Addr × Obj)) (σ : L2.St) (C : Addr) (ns : List Str) (vs : List V) (H : Hp) (s : Shared) (v : Value) (s' : Shared) : Prop :=
  ∃ (a dx t1 : Addr) (G : Heap), v = .ref a ∧ H a = none ∧ H dx = none ∧ dx ≠ a ∧ (∀ b o, G.get? b = some o → s'.heap.get? b = some o) ∧ G.get? a = none ∧
    s'.heap.get? a = some ({ cls := .ref C, dict := some dx, data := .fields #[.ref t1, .none, .none, .none, .bool false, .none] } : Obj) ∧ s'.os = s.os ∧ s'.gens = s.gens ∧ Inv X pins σ (upd H dx (.xd (ns.zip vs))) { s' with heap := G }
theorem call_xi {u : Value} {us : List Value} {v : V} {vs : List V} {Q E : Value → Shared → Prop} (T : XiC X.K file C (f :: fs)) (px : Px X.prog X.mg file) (I : Inv X pins σ H s) (hr : Room 1 X.A) (r : Vals (v :: vs) (u :: us)) (hl : us.length = fs.length) (hz : fs.length ≤ 900)
    (h : ∀ w s', XiP X pins σ C (f :: fs) (v :: vs) H s w s' → Q w s') : wpAny (model X.prog X.w) X.A (call (.ref C) (u :: us)) Q E s := by
  obtain ⟨nm, q, N, bs, bm, sn, sub, ab, col, dd, k0, k1, k2, k3, k5, hC, hbm⟩ := T.oex.cls
  obtain ⟨fI, oi, di, fd, si, e1, e2, e3, e4⟩ := T.ex
  obtain ⟨mb, hb1, hb2⟩ := I.mod.blt
  have hg := I.mod.glob
  have kin := I.kIn
  have hlim := I.nolimit
  have bk := I.bk
  obtain ⟨hp, g, d, t, os⟩ := s
  have kk : ∀ b o, hp.get? b = some o → ((hp.push (PySem.W.kdv_tup (u :: us))).push (PySem.HandSPX.excO C hp.objs.size)).get? b = some o := fun b o e => Heap.get?_push_of_some _ (Heap.get?_push_of_some _ e)
  have hget : ((hp.push (PySem.W.kdv_tup (u :: us))).push (PySem.HandSPX.excO C hp.objs.size)).get? (hp.objs.size + 1) = some (PySem.HandSPX.excO C hp.objs.size) := by heap_get
  have nget : hp.get? (hp.objs.size + 1) = none := by
    cases z : hp.get? (hp.objs.size + 1) with
    | none => rfl
    | some o => exact absurd (Heap.lt_size z) (Nat.not_lt.mpr (Nat.le_succ _))
  have hke : X.K.lookup (hp.objs.size + 1) = none := by
    cases z : X.K.lookup (hp.objs.size + 1) with
    | none => rfl
    | some o => have := kin _ _ z; rw [nget] at this; cases this
  have hr2 := hr.make C (u :: us) []
  have hroom : (X.A.under (.builtin "type.__call__" ⟨.ref C :: u :: us, []⟩)).depth < recursionLimit := by have := hr2.dp; omega
  have hus : (u :: us).length ≤ sizeLine := by rw [sizeLine_eq, List.length_cons, hl]; omega
  have eSS : sSuper ≠ ("__name__" : Str) := by decide +kernel
  refine wpAny_call (PySem.HandSPX.call_own F.excBase_ValueError (fun Y => PySem.HandSPX.refsVE_contains Y bm hbm) (kin _ _ hC) (PySem.W.looks_findIn kin e1) (fun self => PySem.W.bind_fn kin self e2) hus
    (init_run T e3 e4 (kin.keeps kk) (hlim.keeps kk) (hg.keeps fun b o z => kk b o (bk b o z)) px.sup (hb1.keeps fun b o z => kk b o (bk b o z)) (hb2 _ eSS) px.file px.top hroom hget hke hl hz fun h' dx t1 tk k dne dn ha hn => ?_))
  refine ⟨rfl, ?_⟩
  refine h _ _ ?_
  have dn2 : hp.objs.size + 2 ≤ dx := by
    have : (((hp.push (PySem.W.kdv_tup (u :: us))).push (PySem.HandSPX.excO C hp.objs.size))).objs.size = hp.objs.size + 2 := by simp [Heap.push]
    rw [this] at dn; exact dn
  have ndx : hp.get? dx = none := by
    cases z : hp.get? dx with
    | none => rfl
    | some o => exact absurd (Heap.lt_size z) (Nat.not_lt.mpr (Nat.le_trans (Nat.le_add_right _ 2) dn2))
  obtain ⟨G, g1, g2⟩ := restrict h' fun b => decide (b ≠ hp.objs.size + 1)
  have ga : G.get? (hp.objs.size + 1) = none := g2 _ (by simp)
  have gs : ∀ b o, G.get? b = some o → h'.get? b = some o := fun b o z => by
    by_cases hb : b = hp.objs.size + 1
    · rw [hb, ga] at z; cases z
    · rw [← g1 b (by simpa using hb)]; exact z
  have gk : ∀ b o, b ≠ hp.objs.size + 1 → h'.get? b = some o → G.get? b = some o := fun b o hb z => by rw [g1 b (by simpa using hb)]; exact z
  have old : ∀ b o, hp.get? b = some o → G.get? b = some o := fun b o z => by
    have hb : b ≠ hp.objs.size + 1 := fun y => by rw [y, nget] at z; cases z
    exact gk b o hb (k b o hb (kk b o z))
  have hndx : H dx = none := I.hok.gone ndx
  have hna : H (hp.objs.size + 1) = none := I.hok.gone nget
  have hnG : G.Ns1 dx (fun y => ((f :: fs).zip (u :: us)).lookup y) := hn.at fun o z => gk _ _ dne z
  refine ⟨hp.objs.size + 1, dx, t1, G, rfl, hna, hndx, dne, gs, ga, ha, rfl, rfl, ?_⟩
  have new : ObjOk X.prog X.w (upd H dx (.xd ((f :: fs).zip (v :: vs)))) G dx (.xd ((f :: fs).zip (v :: vs))) := ⟨_, hnG, relO_zip r⟩
  exact I.laidN (t' := tk) old ndx hndx new
end
section
variable {X : Cx} {e : Expr} {es : List Expr} {x : Str} {p pos : Pos} {C : Addr} {f : Str} {fs : List Str} {file : Str} {ta : TA}
/-- C(e, ..) as a value -/
def tXi (C : Addr) (ns : List Str) (ta : TA) : TE := fun σ H Q => ta σ H fun vs H1 => vs.length = ns.length ∧ ∀ a dx, H1 a = none → H1 dx = none → dx ≠ a → Q (.ref a) (upd (upd H1 dx (.xd (ns.zip vs))) a (ExK (.ref C) (some dx) a))
theorem pe_xi (T : XiC X.K file C (f :: fs)) (px : Px X.prog X.mg file) (hr : Room 1 X.A) (hz : fs.length ≤ 900) (hg : Gl X x) (hm : X.mg x = some (.ref C)) (ha : PA X (e :: es) ta)
    (hdb : (x == ("__debug__" : Str)) = false) (he : starEach (e :: es) X.env = (false, eval e X.env) :: starEach es X.env) (hpl : (backTo pos (starEach es X.env)).any (·.1) = false) :
    PE X (.Call (.Name x p) (e :: es) [] pos) (tXi C (f :: fs) ta) := by
  refine ⟨fun pins s σ H Q I h => ?_⟩
  refine wpAny_Call_Name_kw (ld_glob I hg hm ?_ hdb)
  refine PySem.W.callWith_K (h₀ := X.base) I.ok.mod.kin T.oex.kC (thn (ha.run pos pins s σ H _ I h) fun us s1 ⟨vs, H1, I1, r1, hl, q1⟩ => ⟨I1.kIn, ?_⟩) he hpl
  show wpAny _ _ (call (.ref C) us) _ _ _
  cases r1 with
  | nil => cases hl
  | @cons v0 u0 vs0 us0 ra rr =>
    refine call_xi T px I1 hr (.cons ra rr) (by rw [← Paired.length rr]; simpa using hl) hz fun w s' z => ?_
    obtain ⟨a, dx, t1, G, rfl, na, nd, ne, gs, ga, hget, e1, e2, J⟩ := z
    have na' : (upd H1 dx (.xd ((f :: fs).zip (v0 :: vs0)))) a = none := by rw [upd_ne (Ne.symm ne)]; exact na
    have J2 := J.laidN (t' := s'.toks) (h' := s'.heap) gs ga na' (exK_ok hget ⟨rfl, rfl⟩ rfl)
    exact ⟨.ref a, _, J2, rfl, q1 a dx na nd ne⟩
/-- C(e, ..), to be raised -/
def tXiR (C : Addr) (ns : List Str) (ta : TA) : L2.St → Hp → XK → Prop := fun σ H Q => ta σ H fun vs H1 => vs.length = ns.length ∧ ∀ dx, H1 dx = none → Q (.ref C) (some dx) (upd H1 dx (.xd (ns.zip vs)))
theorem pmk_xi (T : XiC X.K file C (f :: fs)) (px : Px X.prog X.mg file) (hr : Room 1 X.A) (hz : fs.length ≤ 900) (hg : Gl X x) (hm : X.mg x = some (.ref C)) (ha : PA X (e :: es) ta)
    (hdb : (x == ("__debug__" : Str)) = false) (he : starEach (e :: es) X.env = (false, eval e X.env) :: starEach es X.env) (hpl : (backTo pos (starEach es X.env)).any (·.1) = false) :
    PMk X (.Call (.Name x p) (e :: es) [] pos) (tXiR C (f :: fs) ta) := by
  intro pins s σ H Q I h
  refine wpAny_Call_Name_kw (ld_glob I hg hm ?_ hdb)
  refine PySem.W.callWith_K (h₀ := X.base) I.ok.mod.kin T.oex.kC (thn (ha.run pos pins s σ H _ I h) fun us s1 ⟨vs, H1, I1, r1, hl, q1⟩ => ⟨I1.kIn, ?_⟩) he hpl
  show wpAny _ _ (call (.ref C) us) _ _ _
  cases r1 with
  | nil => cases hl
  | @cons v0 u0 vs0 us0 ra rr =>
    refine call_xi T px I1 hr (.cons ra rr) (by rw [← Paired.length rr]; simpa using hl) hz fun w s' z => ?_
    obtain ⟨a, dx, t1, G, rfl, na, nd, ne, gs, ga, hget, e1, e2, J⟩ := z
    have na' : (upd H1 dx (.xd ((f :: fs).zip (v0 :: vs0)))) a = none := by rw [upd_ne (Ne.symm ne)]; exact na
    exact ⟨a, _, _, { s' with heap := G }, _, .ref C, some dx, rfl, J, gs, ga, hget, ⟨rfl, rfl⟩, rfl, rfl, na', rfl, J.bare, raises_own T.oex.exC T.oex.tyC, q1 dx nd⟩
end
section
variable {X : Cx} {e : Expr} {x : Str} {p pos : Pos} {C : Addr} {ta : TE} {bmB : List Value} {B newId initId : String}
/-- X(e, ..), X an own exception class without own __init__, as a value that is kept -/
theorem pe_xvN {es : List Expr} {tl : TA} (F : ExcBaseFacts B newId initId bmB) (q : PySem.W.excIn X.K C bmB newId = true) (gC : X.mg x = some (.ref C)) (kC : PySem.W.keepIn X.K (.ref C) = true) (hg : Gl X x)
    (ha : PA X (e :: es) tl) (he : starEach (e :: es) X.env = (false, eval e X.env) :: starEach es X.env) (hpl : (backTo pos (starEach es X.env)).any (·.1) = false) (hdb : (x == ("__debug__" : Str)) = false) :
    PE X (.Call (.Name x p) (e :: es) [] pos) (fun σ H Q => tl σ H fun vs H1 => vs.length ≤ 900 ∧ ∀ a, H1 a = none → Q (.ref a) (upd H1 a (ExK (.ref C) none a))) := by
  refine ⟨fun pins s σ H Q I h => ?_⟩
  refine wpAny_Call_Name_kw (ld_glob I hg gC ?_ hdb)
  refine PySem.W.callWith_K (h₀ := X.base) I.ok.mod.kin kC (thn (ha.run pos pins s σ H _ I h) fun us s1 ⟨vs, H1, I1, r1, hl, q1⟩ => ⟨I1.kIn, ?_⟩) he hpl
  show wpAny _ _ (call (.ref C) us) _ _ _
  obtain ⟨bm, N, nm, qn, bs, hdct, sn, sub, ab, col, dd, k0, k1, k2, k3, k5, mN, hC, hN, hni, T⟩ := exc_obj I1.kIn q
  have hus : us.length ≤ sizeLine := by rw [← Paired.length r1, sizeLine_eq]; omega
  refine wpAny_call_exc_subT F T hC hN hni (fun h' a hm => ?_) hus
  have hn : H1 a = none := I1.hok.gone hm.new
  obtain ⟨t, ht, _, _⟩ := hm.there
  exact ⟨.ref a, upd H1 a (ExK (.ref C) none a), I1.laidN hm.keeps hm.new hn (exK_ok ht ⟨rfl, rfl⟩ rfl), rfl, q1 a hn⟩
theorem pe_xv0 (F : ExcBaseFacts B newId initId bmB) (q : PySem.W.excIn X.K C bmB newId = true) (gC : X.mg x = some (.ref C)) (kC : PySem.W.keepIn X.K (.ref C) = true) (hg : Gl X x) (hdb : (x == ("__debug__" : Str)) = false) :
    PE X (.Call (.Name x p) [] [] pos) (fun σ H Q => ∀ a, H a = none → Q (.ref a) (upd H a (ExK (.ref C) none a))) := by
  refine ⟨fun pins s σ H Q I h => ?_⟩
  refine wpAny_Call_Name_kw (ld_glob I hg gC ?_ hdb)
  refine PySem.W.callWith_K0 I.kIn kC ?_
  obtain ⟨bm, N, nm, qn, bs, hdct, sn, sub, ab, col, dd, k0, k1, k2, k3, k5, mN, hC, hN, hni, T⟩ := exc_obj I.kIn q
  refine wpAny_call_exc_subT F T hC hN hni (fun h' a hm => ?_) (by show 0 ≤ sizeLine; omega)
  have hn : H a = none := I.hok.gone hm.new
  obtain ⟨t, ht, _, _⟩ := hm.there
  exact ⟨.ref a, upd H a (ExK (.ref C) none a), I.laidN hm.keeps hm.new hn (exK_ok ht ⟨rfl, rfl⟩ rfl), rfl, h a hn⟩
end
end Pe
set_option Elab.async false
set_option linter.all false
set_option maxRecDepth 100000
set_option maxHeartbeats 4000000
namespace Pe
open PySem PySem.Spec PyProof.Rows L2
structure Kls (lv : Nat) (cn : Cn) (cf : Cf) (kt : Kt) (P : Program) (w : World) (K : PySem.W.Frag) (mg : Str → Option Value) (base : Heap) : Prop where
  new : ∀ x k np, kt.new x = some (k, np) → ∃ f fd ps, mg x = some (cN K x) ∧ Mk K (He.ga K x) f ∧ ps.length = np + 1 ∧ Binds K fd ps [] ∧ FnOk P w K mg base (L2.CX P w) lv f fd ps (spOf K cn cf k (np + 1))
  mth : ∀ m C k np, kt.mth m = some (C, k, np) → ∃ f fd ps, Cls K (He.ga K C) ∧ Meth K (He.ga K C) m f ∧ ps.length = np + 1 ∧ Binds K fd ps [] ∧ FnOk P w K mg base (L2.CX P w) lv f fd ps (spOf K cn cf k (np + 1))
  prp : ∀ f C k, kt.prp f = some (C, k) → ∃ p g fd ps, Cls K (He.ga K C) ∧ PropOf K (He.ga K C) f p g ∧ ps.length = 1 ∧ Binds K fd ps [] ∧ FnOk P w K mg base (L2.CX P w) lv g fd ps (spOf K cn cf k 1)
  exc : ∀ x, kt.exc x = some [] → mg x = some (cN K x) ∧ PySem.W.excIn K (He.ga K x) He.veBase "ValueError.__new__" = true ∧ PySem.W.keepIn K (cN K x) = true ∧ PySem.W.subIn K (cN K x) (.type "BaseException") = some true ∧ PySem.W.typeIn K (cN K x) = some (.type "type")
  exf : ∀ x f fs, kt.exc x = some (f :: fs) → ∃ file, mg x = some (cN K x) ∧ XiC K file (He.ga K x) (f :: fs) ∧ fs.length ≤ 900 ∧ Px P mg file
  sub : ∀ x cs ds, kt.sub x = some (cs, ds) → ∃ (c : V) (cv : Value), ClsV c cv ∧ RelV c cv ∧ (mg x = some cv ∨ (mg x = none ∧ bootBuiltins x = some cv)) ∧
    (∀ y ∈ cs, ExcC K (He.ga K y) ∧ PySem.W.exmOne K (cN K y) cv = some true ∧ PySem.W.kitOne K (cN K y) cv = some true) ∧ (∀ y ∈ ds, ExcC K (He.ga K y) ∧ PySem.W.exmOne K (cN K y) cv = some false ∧ PySem.W.kitOne K (cN K y) cv = some false) ∧
    ∀ T ∈ ["NoneType", "bool", "int", "str", "tuple", "list", "dict"], PySem.W.kitOne K (.type T) cv = some false
  att : ∀ f cs es, kt.att f = some (cs, es) → (∀ c ∈ cs, Cls K (He.ga K c) ∧ NoAttr K (He.ga K c) f) ∧ ∀ c ∈ es, XfC K (He.ga K c) ∧ PySem.W.findIn K (cN K c) f = some none
end Pe
set_option Elab.async false
set_option linter.all false
set_option maxRecDepth 100000
set_option maxHeartbeats 4000000
namespace Pe
open PySem PySem.Spec PyProof.Rows L2
structure Gd (c : Cc) (lv : Nat) (cn : Cn) (cf : Cf) (W : L2.WX) (sc so : Scope) (X : Cx) : Prop where
  fns : Fns lv cn cf c.tab c.cs X.prog X.w X.K X.mg X.base
  scp : X.env.scope = sc
  nN : X.N = c.N
  nd : c.N.Nodup
  calm : X.calm = true
  room : Room (lv + 1) X.A
  kl : Kls lv cn cf c.kt X.prog X.w X.K X.mg X.base
  ow : ∀ x, L2.Loc so x → L2.Loc sc x ∧ (X.fn x = true ∨ sc.names.lookup x = some .local)
  tk : Takes X W
def POk (cn : Cn) (cf : Cf) (W : L2.WX) (X : Cx) (e : Expr) (m : E) : Prop := PE X e (tE X.K cn cf W m) ∧ PT X e (tT X.K cn cf W m)
section
variable {c : Cc} {lv : Nat} {cn : Cn} {cf : Cf} {W : L2.WX} {sc so : Scope} {X : Cx}
theorem Gd.hu (g : Gd c lv cn cf W sc so X) : X.A.units + 64 < cLine := g.room.units
theorem no_E {σ : L2.St} {H : Hp} {Q : VK} (h : tE X.K cn cf W .no σ H Q) : False := by
  obtain ⟨B, G0, G, μ, S, ρ, w, er, h⟩ := h
  simp only [evE] at h
  exact h
theorem no_T {σ : L2.St} {H : Hp} {Q : Bool → Hp → Prop} (h : tT X.K cn cf W .no σ H Q) : False := by
  obtain ⟨B, G0, G, μ, S, ρ, w, er, h⟩ := h
  simp only [evE] at h
  exact h
theorem pe_no {e : Expr} : PE X e (tE X.K cn cf W .no) := ⟨fun _ _ _ _ _ _ h => (no_E h).elim⟩
theorem pt_no {e : Expr} : PT X e (tT X.K cn cf W .no) := ⟨fun _ _ _ _ _ _ h => (no_T h).elim⟩
theorem p_no {e : Expr} : POk cn cf W X e .no := ⟨pe_no, pt_no⟩
theorem p_of {e : Expr} {m : E} (h : PE X e (tE X.K cn cf W m)) (he : ∀ whole, isTrue e X.env whole = (do let v ← whole; standAt e.pos; holding [v] (PySem.truthy v))) : POk cn cf W X e m :=
  ⟨h, pt_imp (pt_truth h he) fun σ H Q q => t_tru q⟩
theorem Gd.gl (g : Gd c lv cn cf W sc so X) {x : Str} (h : glB sc x = true) : Gl X x ∧ (x == ("__debug__" : Str)) = false ∧ x ≠ "__name__" := by
  obtain ⟨h1, h2, h3⟩ := glB_ok h
  refine ⟨?_, h2, h3⟩
  show X.env.scope.names.lookup x = _
  rw [g.scp]; exact h1
theorem Gd.free (g : Gd c lv cn cf W sc so X) {x : Str} {u : Value} (h : freeB c sc x = true) (hb : bootBuiltins x = some u) : Gl X x ∧ X.mg x = none ∧ (x == ("__debug__" : Str)) = false ∧ x ≠ "__name__" := by
  unfold freeB at h
  simp only [Bool.and_eq_true] at h
  obtain ⟨⟨⟨h1, h0⟩, h2⟩, h3⟩ := h
  obtain ⟨a, b, d⟩ := g.gl h1
  refine ⟨a, g.fns.bt x (by simpa using h0) ⟨?_, ?_⟩, b, d⟩
  · split at h2
    · assumption
    · cases h2
  · split at h3
    · assumption
    · cases h3
theorem pe_name (g : Gd c lv cn cf W sc so X) {x : Str} {p : Pos} : PE X (.Name x p) (tE X.K cn cf W (cName c sc x)) := by
  unfold cName
  split
  · exact pe_no
  · rename_i hd
    simp only [Bool.or_eq_true, not_or, Bool.not_eq_true] at hd
    have e1 : ("__debug__" : Str) = ⟨#[95,95,100,101,98,117,103,95,95]⟩ := by decide +kernel
    have e2 : ("__classdict__" : Str) = ⟨#[95,95,99,108,97,115,115,100,105,99,116,95,95]⟩ := by decide +kernel
    split
    · rename_i hv
      split
      · rename_i i hi
        exact pe_imp (pe_var (i := i) (by rw [g.nN]; exact slot_ok hi) (by rw [g.scp]; exact visB_ok hv) (by rw [e1]; exact hd.1) (by rw [e2]; exact hd.2)) fun σ H Q h => t_var h
      · exact pe_no
    · split
      · rename_i hg
        split
        · rename_i d hd'
          obtain ⟨v, u, hm, r, q⟩ := g.fns.cst x d hd'
          exact pe_imp (pe_glob (g.gl hg).1 hm r (by rw [e1]; exact hd.1)) fun σ H Q h => t_cst q h
        · exact pe_no
      · exact pe_no
theorem bop_ok {o : Operator} {p : O2} (h : bop o = some p) : OpR X (binaryOp o) (rF X.K (op2 p)) := by
  cases o <;> simp only [bop, Option.some.injEq, reduceCtorEq] at h <;> subst h
  · exact o_add
  · exact o_sub
  · exact o_mul
  · exact o_mod
  · exact o_pow
  · exact o_bor
  · exact o_bxr
  · exact o_fdv
theorem cop_ok (hu : X.A.units + 64 < cLine) (o : CmpOp) : OpR X (compareOp o) (rF X.K (op2 (cop o))) := by
  cases o
  · exact o_eq hu
  · exact o_ne hu
  · exact o_lt hu
  · exact o_le
  · exact o_gt
  · exact o_ge
  · exact o_is
  · exact o_isn
  · exact o_in hu
  · exact o_nin hu
/-- a comparison gives a truth value -/
theorem cop_bl {o : CmpOp} {a b : D} {v : Fv} (h : op2 (cop o) a b = some v) : ∃ k, v = .fz (.bl k) := by
  cases o <;> simp only [cop] at h <;> unfold op2 at h <;> split at h <;> first
    | contradiction
    | (simp only [Option.map_eq_some_iff] at h; obtain ⟨r, _, rfl⟩ := h; exact ⟨_, rfl⟩)
    | (cases h; exact ⟨_, rfl⟩)
    | (split at h <;> first | (cases h; exact ⟨_, rfl⟩) | cases h)
    | cases h
theorem rep_bl {K : PySem.W.Frag} {G : Hp} {μ : Mu} {z : V} {k : Bool} (r : Rep K G μ z (.bl k)) : z = .bl k := by cases r; rfl
theorem bnd_assoc {α β γ : Type} (m : M α) (k : α → M β) (k' : β → M γ) : M.bnd (M.bnd m k) k' = M.bnd m fun a => M.bnd (k a) k' := by
  funext S
  unfold M.bnd
  cases m S <;> rfl
theorem mD_bnd {α : Type} (m : M α) (k : α → M Fv) : mD (M.bnd m k) = M.bnd m fun a => mD (k a) := by
  unfold mD
  rw [bnd_assoc]
theorem op2S_bl {S : Store} {o : CmpOp} {d e : Pe.D} {v : Fv} (h : op2S S (cop o) d e = some v) : ∃ t, v = .fz (.bl t) := by
  unfold op2S at h
  split at h
  · rename_i r hr
    cases h
    exact cop_bl hr
  · split at h
    · split at h
      · rename_i d' hd
        split at h
        · cases h
          exact cop_bl hd
        · cases h
      · cases h
    · cases h
theorem t_cmpT {o : CmpOp} {a b : E} {σ : L2.St} {H : Hp} {Q : Bool → Hp → Prop} (h : tT X.K cn cf W (.op2 (cop o) a b) σ H Q) : tTest (tOp (rF X.K (op2 (cop o))) (tE X.K cn cf W a) (tE X.K cn cf W b)) σ H Q := by
  obtain ⟨B, G0, G, μ, S, ρ, w, er, h⟩ := h
  simp only [evE, mD_bnd, bnd_assoc] at h
  refine tE_use w er h fun d G1 μ1 S1 H1 x l m w1 er1 r1 h1 => tE_use w1 er1 h1 fun e G2 μ2 S2 H2 y l2 m2 w2 er2 r2 h2 => ?_
  obtain ⟨v, hv, k⟩ := After.opt w2 (After.bnd (After.bnd h2))
  obtain ⟨t, rfl⟩ := op2S_bl hv
  refine op2S_rF w2 (r1.up l2 m2) r2 hv fun z G' H' l' w' f => ⟨t, rep_bl f, ?_⟩
  have q := After.now w' (k G' H' l' w')
  exact After.now w' q
theorem chain_bl {o p : CmpOp} {a b c' : E} {σ : L2.St} {H : Hp} {Q : VK} (h : tE X.K cn cf W (.ch2 (cop o) (cop p) a b c') σ H Q) : tChain (rF X.K (op2 (cop o))) (rF X.K (op2 (cop p))) (tE X.K cn cf W a) (tE X.K cn cf W b) (tE X.K cn cf W c') σ H Q := by
  obtain ⟨B, G0, G, μ, S, ρ, w, er, h⟩ := h
  simp only [evE] at h
  refine tE_use w er h fun d G1 μ1 S1 H1 x l m w1 er1 r1 h1 => tE_use w1 er1 h1 fun e G2 μ2 S2 H2 y l2 m2 w2 er2 r2 h2 => ?_
  obtain ⟨v, hv, k⟩ := After.opt w2 (After.bnd h2)
  obtain ⟨t, rfl⟩ := cop_bl hv
  refine ⟨B, G0, G2, μ2, S2, d, e, _, w2, r1.up l2 m2, r2, hv, fun z G' H' l' w' f => ⟨t, rep_bl f, ?_⟩⟩
  have q := k G' H' l' w'
  cases t with
  | false => exact After.now w' q _ (.bl _)
  | true =>
    show tE X.K cn cf W c' σ H' _
    refine tE_use w' (er2.up l' fun _ _ e => e) q fun e3 G3 μ3 S3 H3 u l3 m3 w3 er3 r3 h3 => ?_
    obtain ⟨v3, hv3, k3⟩ := After.opt w3 h3
    exact ⟨B, G0, G3, μ3, S3, e, e3, v3, w3, (r2.up l' fun _ _ e => e).up l3 m3, r3, hv3, fun z G' H' l' w' f => k3 G' H' l' w' z f⟩
theorem chain_blT {o p : CmpOp} {a b c' : E} {σ : L2.St} {H : Hp} {Q : Bool → Hp → Prop} (h : tT X.K cn cf W (.ch2 (cop o) (cop p) a b c') σ H Q) : tTest (tChain (rF X.K (op2 (cop o))) (rF X.K (op2 (cop p))) (tE X.K cn cf W a) (tE X.K cn cf W b) (tE X.K cn cf W c')) σ H Q := by
  obtain ⟨B, G0, G, μ, S, ρ, w, er, h⟩ := h
  simp only [evE, mD_bnd, bnd_assoc] at h
  refine tE_use w er h fun d G1 μ1 S1 H1 x l m w1 er1 r1 h1 => tE_use w1 er1 h1 fun e G2 μ2 S2 H2 y l2 m2 w2 er2 r2 h2 => ?_
  have h2' := After.bnd h2
  obtain ⟨v, hv, k⟩ := After.opt w2 (After.bnd (After.bnd h2'))
  obtain ⟨t, rfl⟩ := cop_bl hv
  refine ⟨B, G0, G2, μ2, S2, d, e, _, w2, r1.up l2 m2, r2, hv, fun z G' H' l' w' f => ⟨t, rep_bl f, ?_⟩⟩
  have q := k G' H' l' w'
  cases t with
  | false => exact ⟨_, rfl, After.now w' (After.now w' (After.now w' q))⟩
  | true =>
    show tE X.K cn cf W c' σ H' _
    refine tE_use w' (er2.up l' fun _ _ e => e) q fun e3 G3 μ3 S3 H3 u l3 m3 w3 er3 r3 h3 => ?_
    obtain ⟨v3, hv3, k3⟩ := After.opt w3 h3
    obtain ⟨t3, rfl⟩ := cop_bl hv3
    refine ⟨B, G0, G3, μ3, S3, e, e3, _, w3, (r2.up l' fun _ _ e => e).up l3 m3, r3, hv3, fun z G' H' l' w' f => ⟨t3, rep_bl f, ?_⟩⟩
    exact After.now w' (After.now w' (k3 G' H' l' w'))
def cmpT (cf : Cf) (m : E) (ρ : En) : M Bool := M.bnd (mD (evE cf m ρ)) fun x => fun s => M.opt (truthy (s.see x)) s
theorem cmpT_not (a : E) (ρ : En) : cmpT cf (.op1 .not a) ρ = M.bnd (cmpT cf a ρ) fun b => M.ret !b := by
  funext S
  simp only [cmpT, evE, mD_bnd, bnd_assoc]
  unfold M.bnd
  cases mD (evE cf a ρ) S with
  | ok d S1 =>
    simp only [mD, M.bnd, op1]
    cases truthy (S1.see d) <;> rfl
  | exc _ _ => rfl
  | bad => rfl
theorem cmpT_and (a b : E) (ρ : En) : cmpT cf (.and a b) ρ = M.bnd (cmpT cf a ρ) fun t => if t = true then cmpT cf b ρ else M.ret false := by
  funext S
  simp only [cmpT, evE, mD_bnd, bnd_assoc]
  unfold M.bnd
  cases mD (evE cf a ρ) S with
  | ok d S1 =>
    simp only [mD, M.bnd]
    cases e : truthy (S1.see d) with
    | none => rfl
    | some t => cases t with
      | true => rfl
      | false => simp only [M.opt, M.ret, Bool.false_eq_true, if_false]; rw [show (Fv.fz d).d = d from rfl, e]; rfl
  | exc _ _ => rfl
  | bad => rfl
theorem cmpT_or (a b : E) (ρ : En) : cmpT cf (.or a b) ρ = M.bnd (cmpT cf a ρ) fun t => if t = true then M.ret true else cmpT cf b ρ := by
  funext S
  simp only [cmpT, evE, mD_bnd, bnd_assoc]
  unfold M.bnd
  cases mD (evE cf a ρ) S with
  | ok d S1 =>
    simp only [mD, M.bnd]
    cases e : truthy (S1.see d) with
    | none => rfl
    | some t => cases t with
      | false => rfl
      | true => simp only [M.opt, M.ret, if_true]; rw [show (Fv.fz d).d = d from rfl, e]; rfl
  | exc _ _ => rfl
  | bad => rfl
theorem cmpT_ite (c a b : E) (ρ : En) : cmpT cf (.ite c a b) ρ = M.bnd (cmpT cf c ρ) fun t => if t = true then cmpT cf a ρ else cmpT cf b ρ := by
  funext S
  simp only [cmpT, evE, mD_bnd, bnd_assoc]
  unfold M.bnd
  cases mD (evE cf c ρ) S with
  | ok d S1 =>
    simp only [mD, M.bnd]
    cases e : truthy (S1.see d) with
    | none => rfl
    | some t => cases t <;> rfl
  | exc _ _ => rfl
  | bad => rfl
theorem tT_use {m : E} {α : Type} {k : Bool → M α} {P : α → Hp → Mu → Store → Hp → Prop} {Q : Bool → Hp → Prop} {K : PySem.W.Frag} {B G0 G H : Hp} {μ : Mu} {S : Store} {ρ : En} {σ : L2.St} (w : Wd K B G0 G μ S H) (er : EnvR K G μ ρ σ) (h : After K cn B G0 G μ σ W (M.bnd (cmpT cf m ρ) k S) P)
    (i : ∀ b G1 μ1 S1 H1, Le G G1 → LeM μ μ1 → Wd K B G0 G1 μ1 S1 H1 → EnvR K G1 μ1 ρ σ → After K cn B G0 G1 μ1 σ W (k b S1) P → Q b H1) : tT K cn cf W m σ H Q :=
  ⟨B, G0, G, μ, S, ρ, w, er, (After.bnd h).imp fun b G1 μ1 S1 H1 l m w1 h1 => i b G1 μ1 S1 H1 l m w1 (er.up l m) h1⟩
theorem t_notT {a : E} {σ : L2.St} {H : Hp} {Q : Bool → Hp → Prop} (h : tT X.K cn cf W (.op1 .not a) σ H Q) : tNot (tT X.K cn cf W a) σ H Q := by
  obtain ⟨B, G0, G, μ, S, ρ, w, er, h⟩ := h
  change After X.K cn B G0 G μ σ W (cmpT cf _ ρ S) _ at h
  rw [cmpT_not] at h
  exact tT_use w er h fun b G1 μ1 S1 H1 l m w1 er1 h1 => After.now w1 h1
theorem t_andT {a b : E} {σ : L2.St} {H : Hp} {Q : Bool → Hp → Prop} (h : tT X.K cn cf W (.and a b) σ H Q) : tAnd (tT X.K cn cf W a) (tT X.K cn cf W b) σ H Q := by
  obtain ⟨B, G0, G, μ, S, ρ, w, er, h⟩ := h
  change After X.K cn B G0 G μ σ W (cmpT cf _ ρ S) _ at h
  rw [cmpT_and] at h
  refine tT_use w er h fun t G1 μ1 S1 H1 l m w1 er1 h1 => ?_
  cases t with
  | true => exact ⟨B, G0, G1, μ1, S1, ρ, w1, er1, h1⟩
  | false => exact After.now w1 h1
theorem t_orT {a b : E} {σ : L2.St} {H : Hp} {Q : Bool → Hp → Prop} (h : tT X.K cn cf W (.or a b) σ H Q) : tOr (tT X.K cn cf W a) (tT X.K cn cf W b) σ H Q := by
  obtain ⟨B, G0, G, μ, S, ρ, w, er, h⟩ := h
  change After X.K cn B G0 G μ σ W (cmpT cf _ ρ S) _ at h
  rw [cmpT_or] at h
  refine tT_use w er h fun t G1 μ1 S1 H1 l m w1 er1 h1 => ?_
  cases t with
  | false => exact ⟨B, G0, G1, μ1, S1, ρ, w1, er1, h1⟩
  | true => exact After.now w1 h1
/-- a choice as a test -/
theorem pt_ite {a b d : Expr} {pos : Pos} {ta tb td : TT} (ha : PT X a ta) (hb : PT X b tb) (hd : PT X d td) : PT X (.IfExp a b d pos) (fun σ H Q => ta σ H fun c H1 => if c = true then tb σ H1 Q else td σ H1 Q) := by
  refine ⟨fun pins s σ H Q I h => ?_⟩
  show wpAny _ _ (do if ← isTrue a X.env (eval a X.env) then isTrue b X.env (eval b X.env) else isTrue d X.env (eval d X.env)) _ _ _
  refine wpAny_bind (thn (ha.run pins s σ H _ I h) fun c s1 ⟨H1, I1, q1⟩ => ?_)
  cases c with
  | true => exact hb.run pins s1 σ H1 Q I1 q1
  | false => exact hd.run pins s1 σ H1 Q I1 q1
theorem t_iteT {c a b : E} {σ : L2.St} {H : Hp} {Q : Bool → Hp → Prop} (h : tT X.K cn cf W (.ite c a b) σ H Q) : tT X.K cn cf W c σ H fun t H1 => if t = true then tT X.K cn cf W a σ H1 Q else tT X.K cn cf W b σ H1 Q := by
  obtain ⟨B, G0, G, μ, S, ρ, w, er, h⟩ := h
  change After X.K cn B G0 G μ σ W (cmpT cf _ ρ S) _ at h
  rw [cmpT_ite] at h
  refine tT_use w er h fun t G1 μ1 S1 H1 l m w1 er1 h1 => ?_
  cases t with
  | false => exact ⟨B, G0, G1, μ1, S1, ρ, w1, er1, h1⟩
  | true => exact ⟨B, G0, G1, μ1, S1, ρ, w1, er1, h1⟩
def AllOk (cn : Cn) (cf : Cf) (W : L2.WX) (X : Cx) (f : Expr → E) : Prop := ∀ e, POk cn cf W X e (f e)
theorem pa_ok {f : Expr → E} (h : AllOk cn cf W X f) : ∀ es : List Expr, PA X es (tEs X.K cn cf W (cEs f es))
  | [] => pa_imp pa_nil fun σ H Q q => t_nil q
  | e :: r => by
    by_cases hs : isStar e = true
    · cases e <;> simp only [isStar, Bool.false_eq_true] at hs
      exact pa_imp (StX.pa_star (h _).1 (pa_ok h r)) fun σ H Q q => t_star q
    · have e1 : cEs f (e :: r) = .cons false (f e) (cEs f r) := by
        cases e <;> first | rfl | exact absurd rfl hs
      rw [e1]
      exact pa_imp (pa_cons (h e).1 (pa_ok h r) (by cases e <;> first | rfl | exact absurd rfl hs)) fun σ H Q q => t_cons q
theorem nost_each {es : List Expr} (h : nost es = true) : (starEach es X.env).any (·.1) = false := by
  induction es with
  | nil => rfl
  | cons e r ih =>
    unfold nost at h
    simp only [List.all_cons, Bool.and_eq_true, Bool.not_eq_true'] at h
    have := ih (by unfold nost; exact h.2)
    cases e <;> first | (simp only [starEach, List.any_cons, this, Bool.or_false]; done) | (simp [isStar] at h; done)
theorem back_any {pos : Pos} (ts : List (Bool × Sem Value)) : (backTo pos ts).any (·.1) = ts.any (·.1) := by
  unfold backTo
  rw [List.any_map]
  rfl
theorem star_cons {e : Expr} {r : List Expr} (h : isStar e = false) : starEach (e :: r) X.env = (false, eval e X.env) :: starEach r X.env := by
  cases e <;> first | rfl | (simp [isStar] at h; done)
theorem cEs_len {f : Expr → E} {ρ : En} : ∀ {es : List Expr} {S : Store} {ds : List D} {S' : Store}, nost es = true → evEs cf (cEs f es) ρ S = .ok ds S' → ds.length = es.length
  | [], S, ds, S', _, h => by simp only [cEs, evEs] at h; cases h; rfl
  | e :: r, S, ds, S', hn, h => by
    unfold nost at hn
    simp only [List.all_cons, Bool.and_eq_true, Bool.not_eq_true'] at hn
    have e1 : cEs f (e :: r) = .cons false (f e) (cEs f r) := by
      cases e <;> first | rfl | (simp [isStar] at hn; done)
    rw [e1] at h
    simp only [evEs] at h
    obtain ⟨d, S1, _, h⟩ := bnd_ok h
    obtain ⟨ds', S2, h2, h⟩ := bnd_ok h
    obtain ⟨rfl, rfl⟩ := ret_ok h
    simp [cEs_len (by unfold nost; exact hn.2) h2]
end
end Pe
set_option Elab.async false
set_option linter.all false
set_option maxRecDepth 100000
set_option maxHeartbeats 1000000
namespace Zs
open PySem
open PySem.Sem (wp)
abbrev IsZipS (h : Heap) (z TI TO : Addr) (f0 : Value) : Prop :=
  h.get? z = some { cls := .type "zip", dict := none, data := .fields #[f0, .bool false, .bool true, .ref TI, .ref TO], slots := #[] }
section
variable {prog : Program} {w : World} {A : Around} {E : Value → Shared → Prop} {s : Shared} {z TI TO i1 i2 : Addr} {fp1 fp2 : List Addr} {n i : Nat} {P1 P2 : Nat → Value → Prop} {St1 St2 : Nat → Heap → Prop} {a1 a2 : Value}
theorem noe_item {it : Addr} {fp : List Addr} {Pv : Nat → Value → Prop} {St : Nat → Heap → Prop} {Q : Option Value → Shared → Prop} (I : Draws prog w A it fp n Pv St) (hk : i < n) (h : St i s.heap) (q : ∀ x h' tk, Pv i x → St (i + 1) h' → Heap.SameBut it s.heap h' → Q (some x) { s with heap := h', toks := tk }) :
    wpAny (model prog w) A (Builtin.SmallTypes.nextOrEnd (.ref it)) Q E s := by
  unfold Builtin.SmallTypes.nextOrEnd
  refine wpAny_bind (wpAny_attempt (I.item i _ _ _ hk h fun x h' tk a b c => ?_))
  exact wpAny_pure (q x h' tk a b c)
theorem noe_end {it : Addr} {fp : List Addr} {Pv : Nat → Value → Prop} {St : Nat → Heap → Prop} {Q : Option Value → Shared → Prop} (I : Draws prog w A it fp n Pv St) (h : St n s.heap) (q : ∀ h', Heap.ExtBut it s.heap h' → Q none { s with heap := h' }) :
    wpAny (model prog w) A (Builtin.SmallTypes.nextOrEnd (.ref it)) Q E s := by
  unfold Builtin.SmallTypes.nextOrEnd
  refine wpAny_bind (wpAny_attempt (I.done _ _ _ h fun h' e a b => ?_))
  obtain ⟨o, ho, hc⟩ := b
  refine wpAny_bind (wpAny_isInstance (T := "StopIteration") (b := true) ⟨o, ho, hc⟩ isSubtype_stop ?_)
  exact wpAny_pure (q _ a)
theorem next_item {Q : Value → Shared → Prop} (S : ZipSep2 z TI TO i1 i2 fp1 fp2) (D1 : Draws prog w A i1 fp1 n P1 St1) (D2 : Draws prog w A i2 fp2 n P2 St2)
    (hz : IsZipS s.heap z TI TO .none) (hTI : IsTupOf2 s.heap TI (.ref i1) (.ref i2)) (hTO : IsTupOf2 s.heap TO a1 a2) (st1 : St1 i s.heap) (st2 : St2 i s.heap) (hlt : i < n)
    (hQ : ∀ x1 x2 h' tk, P1 i x1 → P2 i x2 → IsZipS h' z TI TO (rawInt s.heap.objs.size) → IsTupOf2 h' TO x1 x2 → St1 (i + 1) h' → St2 (i + 1) h' → IsTupOf2 h' s.heap.objs.size x1 x2 → h'.objs.size = s.heap.objs.size + 1 →
      (∀ c o, c ≠ z → c ≠ TO → c ≠ i1 → c ≠ i2 → s.heap.get? c = some o → h'.get? c = some o) → Q (.ref s.heap.objs.size) { s with heap := h', toks := tk }) :
    wpAny (model prog w) A (Builtin.«zip.__next__» ⟨[.ref z], []⟩) (fun fin s' => ∃ v, fin = .done (.ret v) ∧ Q v s') E s := by
  obtain ⟨hp, g, d, tk0, os⟩ := s
  show wpAny _ _ (field (.ref z) 2 >>= _) _ _ _
  refine wpAny_bind (wpAny_field hz rfl (x := .bool true) rfl ?_)
  show wpAny _ _ (field (.ref z) 3 >>= _) _ _ _
  refine wpAny_bind (wpAny_field hz rfl (x := .ref TI) rfl ?_)
  refine wpAny_bind (wpAny_seqItems hTI rfl ?_)
  show wpAny _ _ (Builtin.SmallTypes.ownedTupleIsFree (.ref z) >>= _) _ _ _
  refine wpAny_bind ?_
  unfold Builtin.SmallTypes.ownedTupleIsFree
  refine wpAny_bind (wpAny_field hz rfl (x := .none) rfl (wpAny_pure ?_))
  simp only [if_true]
  refine wpAny_bind (wpAny_rule ?_)
  refine wpAny_bind (wpAny_field hz rfl (x := .ref TO) rfl ?_)
  refine wpAny_bind (wpAny_setField_rec hz (by simp) fun g0 hz0 hs0 => ?_)
  replace hz0 : IsZipS g0 z TI TO .ellipsis := hz0
  replace hs0 : Heap.SameBut z hp g0 := hs0
  refine wpAny_bind ?_
  simp only [List.zipIdx_cons, List.zipIdx_nil, List.forIn_cons, List.forIn_nil]
  refine wpAny_bind (wpAny_bind (wpAny_onRaise ?_))
  show wpAny _ _ (Builtin.SmallTypes.nextOrEnd (.ref i1)) _ _ ⟨g0, g, d, tk0, os⟩
  refine noe_item D1 hlt (D1.over st1 hs0 S.zf1) fun x1 p1 tk1 hx1 sn1 hp1 => ?_
  replace hp1 : Heap.SameBut i1 g0 p1 := hp1
  have hU1 : IsTupOf2 p1 TO a1 a2 := hp1.extBut _ _ S.Ti1 (hs0.extBut _ _ S.TOz hTO)
  refine wpAny_bind (wpAny_seqItems (s := ⟨p1, g, d, tk1, os⟩) hU1 rfl ?_)
  refine wpAny_bind (updateSeq_IsTupOf2 (s := ⟨p1, g, d, tk1, os⟩) hU1 fun g1 hT1 hs1 => ?_)
  replace hT1 : IsTupOf2 g1 TO x1 a2 := hT1
  replace hs1 : Heap.SameBut TO p1 g1 := hs1
  refine wpAny_bind (wpAny_letGo (wpAny_pure ?_))
  refine wpAny_bind (wpAny_bind (wpAny_onRaise ?_))
  show wpAny _ _ (Builtin.SmallTypes.nextOrEnd (.ref i2)) _ _ ⟨g1, g, d, tk1, os⟩
  refine noe_item D2 hlt (D2.over (D2.over (D2.over st2 hs0 S.zf2) hp1 S.sep1_2) hs1 S.Tf2) fun x2 p2 tk2 hx2 sn2 hp2 => ?_
  replace hp2 : Heap.SameBut i2 g1 p2 := hp2
  have hU2 : IsTupOf2 p2 TO x1 a2 := hp2.extBut _ _ S.Ti2 hT1
  refine wpAny_bind (wpAny_seqItems (s := ⟨p2, g, d, tk2, os⟩) hU2 rfl ?_)
  refine wpAny_bind (updateSeq_IsTupOf2 (s := ⟨p2, g, d, tk2, os⟩) hU2 fun g2 hT2 hs2 => ?_)
  replace hT2 : IsTupOf2 g2 TO x1 x2 := hT2
  replace hs2 : Heap.SameBut TO p2 g2 := hs2
  refine wpAny_bind (wpAny_letGo (wpAny_pure (wpAny_pure ?_)))
  refine wpAny_bind (wpAny_seqItems (s := ⟨g2, g, d, tk2, os⟩) hT2 rfl ?_)
  refine wpAny_bind (wpAny_newTuple ?_)
  have hsz : g2.objs.size = hp.objs.size := by rw [hs2.1, hp2.1, hs1.1, hp1.1, hs0.1]
  have hzz : IsZipS g2 z TI TO .ellipsis := (hs2.extBut _ _ S.TOz.symm (hp2.extBut _ _ S.zi2 (hs1.extBut _ _ S.TOz.symm (hp1.extBut _ _ S.zi1 hz0))))
  have hkk : ∀ c o, c ≠ z → c ≠ TO → c ≠ i1 → c ≠ i2 → hp.get? c = some o → g2.get? c = some o := fun c o cz cT c1 c2 e =>
    (hs2.extBut _ _ cT (hp2.extBut _ _ c2 (hs1.extBut _ _ cT (hp1.extBut _ _ c1 (hs0.extBut _ _ cz e)))))
  have hj1 : St1 (i + 1) g2 := (D1.over (D1.over (D1.over sn1 hs1 S.Tf1) hp2 S.sep2_1) hs2 S.Tf1)
  have hj2 : St2 (i + 1) g2 := (D2.over sn2 hs2 S.Tf2)
  have hzlt : z < g2.objs.size := Heap.lt_size hzz
  show wpAny _ _ (Builtin.SmallTypes.ownedTupleHandOut (.ref z) (.ref g2.objs.size) >>= _) _ _ ⟨g2.push { cls := .type "tuple", data := .seq #[x1, x2] }, g, d, tk2, os⟩
  refine wpAny_bind ?_
  unfold Builtin.SmallTypes.ownedTupleHandOut
  have hz₆ : IsZipS (g2.push { cls := .type "tuple", data := .seq #[x1, x2] }) z TI TO .ellipsis := Heap.get?_push_of_some _ hzz
  refine wpAny_bind (wpAny_setField_rec hz₆ (by simp) fun h₇ hz₇ hs₇ => ?_)
  replace hz₇ : IsZipS h₇ z TI TO (rawInt g2.objs.size) := hz₇
  refine wpAny_setField_rec hz₇ (by simp) fun h₈ hz₈ hs₈ => ?_
  replace hz₈ : IsZipS h₈ z TI TO (rawInt g2.objs.size) := hz₈
  replace hs₇ : Heap.SameBut z (g2.push { cls := .type "tuple", data := .seq #[x1, x2] }) h₇ := hs₇
  replace hs₈ : Heap.SameBut z h₇ h₈ := hs₈
  have up : ∀ c o, c ≠ z → g2.get? c = some o → h₈.get? c = some o := fun c o c1 e => hs₈.extBut _ _ c1 (hs₇.extBut _ _ c1 (Heap.get?_push_of_some _ e))
  have hT₈ : IsTupOf2 h₈ g2.objs.size x1 x2 := hs₈.extBut _ _ (Nat.ne_of_gt hzlt) (hs₇.extBut _ _ (Nat.ne_of_gt hzlt) (Heap.get?_push_size _ rfl))
  have hz8 : h₈.objs.size = g2.objs.size + 1 := by rw [hs₈.1, hs₇.1, Heap.size_push]
  rw [hsz] at hz₈ hT₈ hz8
  refine wpAny_pure ⟨_, rfl, ?_⟩
  show Q (.ref g2.objs.size) ⟨h₈, g, d, tk2, os⟩
  rw [hsz]
  exact hQ x1 x2 h₈ tk2 hx1 hx2 hz₈ (up _ _ S.TOz hT2) (D1.frame _ _ _ hj1 fun b hb o e => up b o (fun q => S.zf1 (q ▸ hb)) e) (D2.frame _ _ _ hj2 fun b hb o e => up b o (fun q => S.zf2 (q ▸ hb)) e) hT₈ hz8 fun c o cz cT c1 c2 e => up c o cz (hkk c o cz cT c1 c2 e)
theorem stop_ok {Q : Fin → Shared → Prop} (hh : A.handled = none) (hE : ∀ h' e, (∀ c o, s.heap.get? c = some o → h'.get? c = some o) → (∃ o, h'.get? e = some o ∧ o.cls = .type "StopIteration") → E (.ref e) { s with heap := h' }) :
    wpAny (model prog w) A Builtin.SmallTypes.stopIteration Q E s := by
  unfold Builtin.SmallTypes.stopIteration
  show wpAny _ _ (newExc (.type "StopIteration") [] >>= _) _ _ _
  refine wpAny_bind ?_
  simp only [newExc, newTuple]
  refine wpAny_bind (wpAny_newObj_type ?_ (by size_fits))
  refine wpAny_bind (m := firstArgMember _ _) (wpAny_of_eq (a := Value.none) (by first | rfl | (simp only [firstArgMember]; rfl)) ?_)
  refine wpAny_newObj_type ?_ (by size_fits)
  simp only [raiseNew]
  refine wpAny_bind (wpAny_handled ?_)
  first | rw [show A.in1.handled = none from hh] | rw [hh]
  refine wpAny_bind (wpAny_pure (wpAny_throw ?_))
  exact hE _ _ (fun c o e => Heap.get?_push_of_some _ (Heap.get?_push_of_some _ e)) ⟨_, Heap.get?_push_size _ rfl, rfl⟩
theorem next_end {Q : Fin → Shared → Prop} (hh : A.handled = none) (S : ZipSep2 z TI TO i1 i2 fp1 fp2) (D1 : Draws prog w A i1 fp1 n P1 St1) (D2 : Draws prog w A i2 fp2 n P2 St2)
    (hz : IsZipS s.heap z TI TO .none) (hTI : IsTupOf2 s.heap TI (.ref i1) (.ref i2)) (hTO : IsTupOf2 s.heap TO a1 a2) (st1 : St1 n s.heap) (st2 : St2 n s.heap)
    (hE : ∀ h' e, (∀ c o, c ≠ z → c ≠ TO → c ≠ i1 → c ≠ i2 → s.heap.get? c = some o → h'.get? c = some o) → (∃ o, h'.get? e = some o ∧ o.cls = .type "StopIteration") → E (.ref e) { s with heap := h' }) :
    wpAny (model prog w) A (Builtin.«zip.__next__» ⟨[.ref z], []⟩) Q E s := by
  obtain ⟨hp, g, d, tk0, os⟩ := s
  show wpAny _ _ (field (.ref z) 2 >>= _) _ _ _
  refine wpAny_bind (wpAny_field hz rfl (x := .bool true) rfl ?_)
  show wpAny _ _ (field (.ref z) 3 >>= _) _ _ _
  refine wpAny_bind (wpAny_field hz rfl (x := .ref TI) rfl ?_)
  refine wpAny_bind (wpAny_seqItems hTI rfl ?_)
  show wpAny _ _ (Builtin.SmallTypes.ownedTupleIsFree (.ref z) >>= _) _ _ _
  refine wpAny_bind ?_
  unfold Builtin.SmallTypes.ownedTupleIsFree
  refine wpAny_bind (wpAny_field hz rfl (x := .none) rfl (wpAny_pure ?_))
  simp only [if_true]
  refine wpAny_bind (wpAny_rule ?_)
  refine wpAny_bind (wpAny_field hz rfl (x := .ref TO) rfl ?_)
  refine wpAny_bind (wpAny_setField_rec hz (by simp) fun g0 hz0 hs0 => ?_)
  replace hz0 : IsZipS g0 z TI TO .ellipsis := hz0
  replace hs0 : Heap.SameBut z hp g0 := hs0
  refine wpAny_bind ?_
  simp only [List.zipIdx_cons, List.zipIdx_nil, List.forIn_cons, List.forIn_nil]
  refine wpAny_bind (wpAny_bind (wpAny_onRaise ?_))
  show wpAny _ _ (Builtin.SmallTypes.nextOrEnd (.ref i1)) _ _ ⟨g0, g, d, tk0, os⟩
  refine noe_end D1 (D1.over st1 hs0 S.zf1) fun g1 hs1 => ?_
  replace hs1 : Heap.ExtBut i1 g0 g1 := hs1
  have hz1 : IsZipS g1 z TI TO .ellipsis := hs1 _ _ S.zi1 hz0
  refine wpAny_bind (wpAny_setField_rec (s := ⟨g1, g, d, tk0, os⟩) hz1 (by simp) fun g2 hz2 hs2 => ?_)
  replace hs2 : Heap.SameBut z g1 g2 := hs2
  have st2' : St2 n g2 := D2.over (D2.frame _ _ _ (D2.over st2 hs0 S.zf2) fun b hb o e => hs1 b o (fun q => S.sep1_2 (q ▸ hb)) e) hs2 S.zf2
  refine wpAny_bind ?_
  show wpAny _ _ (forIn ((List.drop 1 [Value.ref i1, Value.ref i2]).zipIdx 1) PUnit.unit _ >>= _) _ _ _
  refine wpAny_bind ?_
  simp only [List.drop, List.zipIdx_cons, List.zipIdx_nil, List.forIn_cons, List.forIn_nil]
  refine wpAny_bind (wpAny_bind (noe_end D2 st2' fun g3 hs3 => ?_))
  replace hs3 : Heap.ExtBut i2 g2 g3 := hs3
  rw [if_neg (by simp)]
  refine wpAny_pure (wpAny_pure ?_)
  refine wpAny_bind (wpAny_rule ?_)
  refine stop_ok hh fun h₅ e k he => ?_
  exact hE h₅ e (fun c o c1 c2 c3 c4 x => k _ _ (hs3 _ _ c4 (hs2.extBut _ _ c1 (hs1 _ _ c3 (hs0.extBut _ _ c1 x))))) he
theorem pyNext_item {Q : Option Value → Shared → Prop} (S : ZipSep2 z TI TO i1 i2 fp1 fp2) (D1 : Draws prog w A.in1 i1 fp1 n P1 St1) (D2 : Draws prog w A.in1 i2 fp2 n P2 St2)
    (hz : IsZipS s.heap z TI TO .none) (hTI : IsTupOf2 s.heap TI (.ref i1) (.ref i2)) (hTO : IsTupOf2 s.heap TO a1 a2) (st1 : St1 i s.heap) (st2 : St2 i s.heap) (hlt : i < n)
    (hQ : ∀ x1 x2 h' tk, P1 i x1 → P2 i x2 → IsZipS h' z TI TO (rawInt s.heap.objs.size) → IsTupOf2 h' TO x1 x2 → St1 (i + 1) h' → St2 (i + 1) h' → IsTupOf2 h' s.heap.objs.size x1 x2 → h'.objs.size = s.heap.objs.size + 1 →
      (∀ c o, c ≠ z → c ≠ TO → c ≠ i1 → c ≠ i2 → s.heap.get? c = some o → h'.get? c = some o) → Q (some (.ref s.heap.objs.size)) { s with heap := h', toks := tk }) :
    wpAny (model prog w) A (pyNext (.ref z)) Q E s := by
  have hT : s.TypeIs (.ref z) "zip" := ⟨_, hz, rfl⟩
  unfold pyNext
  exact wpAny_bind (wpAny_attempt (wpAny_callSpecial?_slot (name := Str.ofString "__next__") hT F.slot_zip_next
    (wpAny_call_entry F.slot_zip_next hT F.entry_zip_next
      (next_item S D1 D2 hz hTI hTO st1 st2 hlt fun x1 x2 h' tk a1 a2 a3 a4 a5 a6 a7 a8 a9 => wpAny_pure (hQ x1 x2 h' tk a1 a2 a3 a4 a5 a6 a7 a8 a9)) (F.args_zip_next_1 _))))
theorem pyNext_end {Q : Option Value → Shared → Prop} (hh : A.handled = none) (S : ZipSep2 z TI TO i1 i2 fp1 fp2) (D1 : Draws prog w A.in1 i1 fp1 n P1 St1) (D2 : Draws prog w A.in1 i2 fp2 n P2 St2)
    (hz : IsZipS s.heap z TI TO .none) (hTI : IsTupOf2 s.heap TI (.ref i1) (.ref i2)) (hTO : IsTupOf2 s.heap TO a1 a2) (st1 : St1 n s.heap) (st2 : St2 n s.heap)
    (hQ : ∀ h', (∀ c o, c ≠ z → c ≠ TO → c ≠ i1 → c ≠ i2 → s.heap.get? c = some o → h'.get? c = some o) → Q none { s with heap := h' }) : wpAny (model prog w) A (pyNext (.ref z)) Q E s := by
  have hT : s.TypeIs (.ref z) "zip" := ⟨_, hz, rfl⟩
  unfold pyNext
  refine wpAny_bind (wpAny_attempt (wpAny_callSpecial?_slot (name := Str.ofString "__next__") hT F.slot_zip_next
    (wpAny_call_entry F.slot_zip_next hT F.entry_zip_next (next_end hh S D1 D2 hz hTI hTO st1 st2 fun h' e hk he => ?_) (F.args_zip_next_1 _))))
  obtain ⟨o, ho, hc⟩ := he
  refine wpAny_bind (wpAny_isInstance (T := "StopIteration") (b := true) ⟨o, ho, hc⟩ isSubtype_stop ?_)
  exact wpAny_pure (hQ _ hk)
theorem letGo_zipS {elts : List Expr} {x1} {pos : Pos} {T : Addr} {Q : Unit → Shared → Prop} (hz : IsZipS s.heap z TI TO (rawInt T))
    (hQ : ∀ h', IsZipS h' z TI TO .none → Heap.SameBut z s.heap h' → Q () { s with heap := h' }) :
    wpAny (model prog w) A (letOwnedTupleGo (.Tuple elts x1 pos) (.ref z) (.ref T)) Q E s := by
  unfold letOwnedTupleGo
  refine wpAny_bind (wpAny_load hz ?_)
  show wpAny _ _ (if (["enumerate", "zip", "dict_itemiterator", "dict_reverseitemiterator", "odict_iterator", "itertools.zip_longest", "itertools.pairwise"].contains "zip" &&
      (#[rawInt T, .bool false, .bool true, .ref TI, .ref TO] : Array Value)[0]? == some (rawInt T)) = true then _ else _) Q E s
  rw [if_pos (by simp)]
  refine wpAny_bind (wpAny_rule ?_)
  show wpAny _ _ (setField (.ref z) 0 .none) Q E s
  exact wpAny_setField_rec hz (by simp) fun h' hz' hs' => hQ h' hz' hs'
theorem pyIter_zipS {f0 : Value} {Q : Value → Shared → Prop} (hz : IsZipS s.heap z TI TO f0) (h : Q (.ref z) s) : wpAny (model prog w) A (pyIter (.ref z)) Q E s := by
  have hT : s.TypeIs (.ref z) "zip" := ⟨_, hz, rfl⟩
  refine wpAny_pyIter_slot hT F.slot_zip_iter (wpAny_call_entry F.slot_zip_iter hT F.entry_zip_iter ?_ (F.args_zip_iter_1 _))
  show wpAny _ _ (ret (.ref z)) _ _ s
  exact wpAny_pure ⟨_, rfl, "zip", _, hT, F.slot_zip_next.lookup, h⟩
end
theorem typeCall_zip_S (a b : Value) : checkTypeCall "zip" ⟨[a, b], [(Str.ofString "strict", .bool true)]⟩ = pure () := by kernel_rfl
theorem newCall_zip_S (a b : Value) : checkBuiltinCall "zip.__new__" ⟨[.type "zip", a, b], [(Str.ofString "strict", .bool true)]⟩ = pure () := by kernel_rfl
theorem args_init_S (obj a b : Value) : argsOk "object.__init__" ⟨[obj, a, b], [(Str.ofString "strict", .bool true)]⟩ := by unfold argsOk; kernel_rfl
abbrev zsZ2 (h : Heap) (o1 o2 : Obj) : Heap := (gzO2 h o1 o2).push { cls := .type "zip", data := .fields #[.none, .bool false, .bool true, .ref ((h.push o1).push o2).objs.size, .ref (gzT2 h o1 o2).objs.size] }
set_option maxHeartbeats 4000000 in
theorem meets_zip_newS {v1 v2 : Value} {o1 o2 : Obj} {H1 H2 : Heap → Prop} (B1 : Begins v1 o1 H1) (B2 : Begins v2 o2 H2) :
    Meets (Builtin.«zip.__new__» ⟨[.type "zip", v1, v2], [(Str.ofString "strict", .bool true)]⟩) (fun _ R s => (H1 s.heap ∧ H2 s.heap) ∧
      R (.ok (.ret (.ref (gzO2 s.heap o1 o2).objs.size))) { s with heap := zsZ2 s.heap o1 o2 }) :=
  .of_wp fun prog w A R s h => by
    obtain ⟨hp, g, d, tk, os⟩ := s; obtain ⟨⟨h1, h2⟩, h⟩ := h
    have hsub := sub_zip
    have e1 : (Str.ofString "strict" == ("strict" : Str)) = true := by decide +kernel
    have e2 : (Str.ofString "strict" != ("strict" : Str)) = false := by decide +kernel
    have q1 : ∀ {A' : Around} {E : Value → Shared → Prop} {Q : Value → Shared → Prop}, Q (.ref hp.objs.size) ⟨(hp.push o1), g, d, tk, os⟩ → wpAny (model prog w) A' (pyIter v1) Q E ⟨hp, g, d, tk, os⟩ :=
      fun q => B1.iter prog w _ _ ⟨hp, g, d, tk, os⟩ _ (B1.keeps _ _ h1 fun b o' e => e) q
    have q2 : ∀ {A' : Around} {E : Value → Shared → Prop} {Q : Value → Shared → Prop}, Q (.ref (hp.push o1).objs.size) ⟨((hp.push o1).push o2), g, d, tk, os⟩ → wpAny (model prog w) A' (pyIter v2) Q E ⟨(hp.push o1), g, d, tk, os⟩ :=
      fun q => B2.iter prog w _ _ ⟨(hp.push o1), g, d, tk, os⟩ _ (B2.keeps _ _ h2 fun b o' e => (Heap.get?_push_of_some _ e)) q
    wp_walk using q1, q2
    exact ⟨_, rfl, h⟩
section
variable {prog : Program} {w : World} {A : Around} {E : Value → Shared → Prop} {s : Shared}
theorem zip_beginsS {v1 v2 : Value} {o1 o2 : Obj} {H1 H2 : Heap → Prop} {Q : Value → Shared → Prop} (B1 : Begins v1 o1 H1) (B2 : Begins v2 o2 H2) (h1 : H1 s.heap) (h2 : H2 s.heap)
    (h : ∀ h', IsZipS h' (s.heap.objs.size + 4) (s.heap.objs.size + 2) (s.heap.objs.size + 3) .none → IsTupOf2 h' (s.heap.objs.size + 2) (.ref s.heap.objs.size) (.ref (s.heap.objs.size + 1)) →
      IsTupOf2 h' (s.heap.objs.size + 3) .none .none → h'.get? s.heap.objs.size = some o1 → h'.get? (s.heap.objs.size + 1) = some o2 → h'.objs.size = s.heap.objs.size + 5 →
      (∀ c o, s.heap.get? c = some o → h'.get? c = some o) → Q (.ref (s.heap.objs.size + 4)) { s with heap := h' }) :
    wpAny (model prog w) A (call (.type "zip") [v1, v2] [(Str.ofString "strict", .bool true)]) Q E s := by
  refine callType_newKw F.called_zip (by decide) (typeCall_zip_S _ _) (newCall_zip_S _ _) (fun obj => args_init_S obj _ _) F.entry_zip_new
    (meets_zip_newS B1 B2) ⟨⟨h1, h2⟩, ?_⟩
  have z1 : (s.heap.push o1).objs.size = s.heap.objs.size + 1 := by rw [Heap.size_push]
  have z2 : ((s.heap.push o1).push o2).objs.size = s.heap.objs.size + 2 := by rw [Heap.size_push, z1]
  have zT : (gzT2 s.heap o1 o2).objs.size = s.heap.objs.size + 3 := by rw [Heap.size_push, z2]
  have zO : (gzO2 s.heap o1 o2).objs.size = s.heap.objs.size + 4 := by rw [Heap.size_push, zT]
  have zZ : (zsZ2 s.heap o1 o2).objs.size = s.heap.objs.size + 5 := by rw [Heap.size_push, zO]
  have gZ : (zsZ2 s.heap o1 o2).get? (gzO2 s.heap o1 o2).objs.size = some { cls := .type "zip", data := .fields #[.none, .bool false, .bool true, .ref ((s.heap.push o1).push o2).objs.size, .ref (gzT2 s.heap o1 o2).objs.size] } := Heap.get?_push_size _ rfl
  have gO : (zsZ2 s.heap o1 o2).get? (gzT2 s.heap o1 o2).objs.size = some { cls := .type "tuple", data := .seq #[.none, .none] } := Heap.get?_push_of_some _ (Heap.get?_push_size _ rfl)
  have gT : (zsZ2 s.heap o1 o2).get? ((s.heap.push o1).push o2).objs.size = some { cls := .type "tuple", data := .seq #[.ref s.heap.objs.size, .ref (s.heap.push o1).objs.size] } := Heap.get?_push_of_some _ (Heap.get?_push_of_some _ (Heap.get?_push_size _ rfl))
  have g1 : (zsZ2 s.heap o1 o2).get? s.heap.objs.size = some o1 := Heap.get?_push_of_some _ (Heap.get?_push_of_some _ (Heap.get?_push_of_some _ (Heap.get?_push_of_some _ (Heap.get?_push_size _ B1.free))))
  have g2 : (zsZ2 s.heap o1 o2).get? (s.heap.push o1).objs.size = some o2 := Heap.get?_push_of_some _ (Heap.get?_push_of_some _ (Heap.get?_push_of_some _ (Heap.get?_push_size _ B2.free)))
  rw [zO, zT, z2] at gZ
  rw [zT] at gO
  rw [z2, z1] at gT
  rw [z1] at g2
  show _ ∧ _
  rw [zO]
  exact ⟨⟨_, gZ, rfl⟩, h _ gZ gT gO g1 g2 zZ fun c o e => Heap.get?_push_of_some _ (Heap.get?_push_of_some _ (Heap.get?_push_of_some _ (Heap.get?_push_of_some _ (Heap.get?_push_of_some _ e))))⟩
end
end Zs
set_option Elab.async false
set_option linter.all false
set_option maxRecDepth 100000
set_option maxHeartbeats 4000000
namespace Pe
open PySem PySem.Spec PyProof.Rows L2 Zs
theorem nqz (n k j : Nat) (h : k ≠ j) : n + k ≠ n + j := by omega
structure DrZ (P : Program) (w : World) (K : PySem.W.Frag) (it : Addr) (dep : List Addr) (n : Nat) (own : Hp → Prop) (tn : Nat → Heap → Prop) (yv : Nat → V → Prop) : Prop where
  obj : ∀ i h, tn i h → ∃ o, h.get? it = some o ∧ ∀ v, o.data ≠ .cell v
  keep : ∀ i h h', tn i h → (∀ o, h.get? it = some o → h'.get? it = some o) → tn i h'
  draw : ∀ (X : Cx), X.prog = P → X.w = w → X.K = K → ∀ (pins : List (Addr × Obj)) (σ : L2.St) (H : Hp) (s : Shared), Inv X pins σ H s → own H → ∀ i, tn i s.heap → ∀ (A : Around), A.handled = none →
    ∃ (Pv : Nat → Value → Prop) (st : Nat → Heap → Prop), Draws P w A it (it :: dep) n Pv st ∧ st i s.heap ∧ (∀ j h, st j h → tn j h) ∧ ∀ j u, Pv j u → ∃ x, RelV x u ∧ yv j x
theorem drz_list {P : Program} {w : World} {K : PySem.W.Frag} (it a : Addr) (xs : List V) : DrZ P w K it [a] xs.length (fun H => SqL K H a xs) (fun i h => h.IsListIter it a i) (fun i x => xs[i]? = some x) where
  obj := fun i h ⟨o, ho, _, hd⟩ => ⟨o, ho, fun v q => by rw [hd] at q; cases q⟩
  keep := fun i h h' st k => st.at fun o q => k o q
  draw := by
    intro X hP hw hK pins σ H s I hq i st A hh
    subst hP hw hK
    obtain ⟨its, rv, p, hz⟩ := I.list hq
    have hl := p.isList
    have hne : a ≠ it := by
      intro z
      subst z
      obtain ⟨o, ho, hc, hd⟩ := st
      obtain ⟨o', ho', hc', _⟩ := hl
      rw [ho] at ho'; cases ho'
      rw [hc] at hc'
      exact absurd hc' (by intro q; injection q with q; exact absurd q (by decide))
    refine ⟨fun i v => its.toArray[i]? = some v, fun i h => h.IsListIter it a i ∧ h.IsList a its.toArray, by rw [rv.length]; simpa using Draws.list (prog := X.prog) (w := X.w) hh it a hne its.toArray, ⟨st, hl⟩, fun j h q => q.1, fun j u hu => ?_⟩
    have hu' : its[j]? = some u := by simpa using hu
    have hl' : j < xs.length := by rw [rv.length]; exact (List.getElem?_eq_some_iff.mp hu').1
    obtain ⟨u2, e2, r2⟩ := rv.get (List.getElem?_eq_getElem hl')
    rw [hu'] at e2; cases e2
    exact ⟨_, r2, List.getElem?_eq_getElem hl'⟩
theorem drz_tup {P : Program} {w : World} {K : PySem.W.Frag} (it a : Addr) (xs : List V) : DrZ P w K it [a] xs.length (fun H => SqT K H a xs) (fun i h => h.IsTupleIter it a i) (fun i x => xs[i]? = some x) where
  obj := fun i h ⟨o, ho, _, hd⟩ => ⟨o, ho, fun v q => by rw [hd] at q; cases q⟩
  keep := fun i h h' st k => st.at fun o q => k o q
  draw := by
    intro X hP hw hK pins σ H s I hq i st A hh
    subst hP hw hK
    obtain ⟨its, rv, p, hz⟩ := I.tuple hq
    have hl : s.heap.IsTuple a its.toArray := p
    have hne : a ≠ it := by
      intro z
      subst z
      obtain ⟨o, ho, hc, hd⟩ := st
      obtain ⟨o', ho', hc', _⟩ := hl
      rw [ho] at ho'; cases ho'
      rw [hc] at hc'
      exact absurd hc' (by intro q; injection q with q; exact absurd q (by decide))
    refine ⟨fun i v => its.toArray[i]? = some v, fun i h => h.IsTupleIter it a i ∧ h.IsTuple a its.toArray, by rw [rv.length]; simpa using Draws.tuple (prog := X.prog) (w := X.w) hh it a hne its.toArray, ⟨st, hl⟩, fun j h q => q.1, fun j u hu => ?_⟩
    have hu' : its[j]? = some u := by simpa using hu
    have hl' : j < xs.length := by rw [rv.length]; exact (List.getElem?_eq_some_iff.mp hu').1
    obtain ⟨u2, e2, r2⟩ := rv.get (List.getElem?_eq_getElem hl')
    rw [hu'] at e2; cases e2
    exact ⟨_, r2, List.getElem?_eq_getElem hl'⟩
theorem drz_str {P : Program} {w : World} {K : PySem.W.Frag} (it : Addr) (z : Str) (t : Tok) : DrZ P w K it [] z.cps.size (fun _ => True) (fun i h => h.IsStrIter it (strIterType z) z t i) (fun i x => ∃ c, z.cps[i]? = some c ∧ x = .str ⟨#[c]⟩) where
  obj := fun i h ⟨o, ho, _, hd⟩ => ⟨o, ho, fun v q => by rw [hd] at q; cases q⟩
  keep := fun i h h' ⟨o, ho, hr⟩ k => ⟨o, k o ho, hr⟩
  draw := by
    intro X hP hw hK pins σ H s I _ i st A hh
    subst hP hw hK
    refine ⟨_, _, Draws.text (prog := X.prog) (w := X.w) hh it z t, st, fun j h q => q, fun j u hu => ?_⟩
    obtain ⟨c, k, hc, rfl⟩ := hu
    exact ⟨.str ⟨#[c]⟩, ⟨k, rfl⟩, c, hc, rfl⟩
/-- two walked together -/
def ItZ (own1 own2 : Hp → Prop) (n : Nat) (y1 y2 : Nat → V → Prop) : L2.It :=
  ⟨fun i H => own1 H ∧ own2 H ∧ i < n, fun i H v H' => ∃ T x y, v = .ref T ∧ H T = none ∧ H' = upd H T (.tup [x, y]) ∧ y1 i x ∧ y2 i y, fun i H => own1 H ∧ own2 H ∧ n ≤ i⟩
theorem turn_zipS {P : Program} {w : World} {K : PySem.W.Frag} {elts : List Expr} {kk : Nat} {tpos : Pos} {z TI TO i1 i2 : Addr} {dep1 dep2 : List Addr} {n : Nat} {own1 own2 : Hp → Prop} {tn1 tn2 : Nat → Heap → Prop} {y1 y2 : Nat → V → Prop}
    (S : ZipSep2 z TI TO i1 i2 (i1 :: dep1) (i2 :: dep2)) (D1 : DrZ P w K i1 dep1 n own1 tn1 y1) (D2 : DrZ P w K i2 dep2 n own2 tn2 y2) :
    Turn P w K (.Tuple elts kk tpos) (ItZ own1 own2 n y1 y2) [z, TI, TO, i1, i2] z (fun i h => IsZipS h z TI TO .none ∧ IsTupOf2 h TI (.ref i1) (.ref i2) ∧ (∃ x y, IsTupOf2 h TO x y) ∧ tn1 i h ∧ tn2 i h ∧ i ≤ n) where
  mem := by simp
  obj := fun i h st c hc => by
    obtain ⟨hz, hTI, ⟨x, y, hTO⟩, h1, h2, _⟩ := st
    have e' : c = z ∨ c = TI ∨ c = TO ∨ c = i1 ∨ c = i2 := by simpa using hc
    rcases e' with q | q | q | q | q
    · rw [q]; exact ⟨_, hz, fun v q => nomatch q⟩
    · rw [q]; exact ⟨_, hTI, fun v q => nomatch q⟩
    · rw [q]; exact ⟨_, hTO, fun v q => nomatch q⟩
    · rw [q]; exact D1.obj i h h1
    · rw [q]; exact D2.obj i h h2
  keep := fun i h h' st k => by
    obtain ⟨hz, hTI, ⟨x, y, hTO⟩, h1, h2, hn⟩ := st
    exact ⟨k z (by simp) _ hz, k TI (by simp) _ hTI, ⟨x, y, k TO (by simp) _ hTO⟩, D1.keep i h h' h1 fun o q => k i1 (by simp) o q, D2.keep i h h' h2 fun o q => k i2 (by simp) o q, hn⟩
  item := by
    intro X hP hw hK hc i pins s σ H E I hf st hg
    obtain ⟨hz, hTI, ⟨x0, y0, hTO⟩, h1, h2, hn⟩ := st
    obtain ⟨Pv1, St1, Dw1, hs1, hb1, hy1⟩ := D1.draw X hP hw hK pins σ H s I hg.1 i h1 X.A.in1 (I.ok.hd hc)
    obtain ⟨Pv2, St2, Dw2, hs2, hb2, hy2⟩ := D2.draw X hP hw hK pins σ H s I hg.2.1 i h2 X.A.in1 (I.ok.hd hc)
    subst hP hw hK
    have hzl : z < s.heap.objs.size := Heap.lt_size hz
    have hil1 : i1 < s.heap.objs.size := by obtain ⟨o, q, _⟩ := D1.obj i _ h1; exact Heap.lt_size q
    have hil2 : i2 < s.heap.objs.size := by obtain ⟨o, q, _⟩ := D2.obj i _ h2; exact Heap.lt_size q
    refine pyNext_item S Dw1 Dw2 hz hTI hTO hs1 hs2 hg.2.2 fun u1 u2 h' tk p1 p2 hz' hTO' s1' s2' hT hsz hk => ?_
    obtain ⟨x, ru, hx⟩ := hy1 i u1 p1
    obtain ⟨y, ru2, hy⟩ := hy2 i u2 p2
    refine ⟨_, rfl, letGo_zipS (s := { s with heap := h', toks := tk }) hz' fun h'' z'' sb => ?_⟩
    have hT2 : h''.get? s.heap.objs.size = some { cls := .type "tuple", data := .seq #[u1, u2] } := (sb.2 _ (Nat.ne_of_gt hzl)).trans hT
    have new : ObjOk X.prog X.w (upd H s.heap.objs.size (.tup [x, y])) h'' s.heap.objs.size (.tup [x, y]) :=
      ⟨by show 2 ≤ sizeLine; decide, [u1, u2], .cons ru (.cons ru2 .nil), ⟨_, hT2, rfl, _, rfl⟩⟩
    have I1 : Inv X pins σ (upd H s.heap.objs.size (.tup [x, y])) { s with heap := h'', toks := tk } :=
      I.turnedNew (ch := [z, TI, TO, i1, i2]) (fun c o hb q => (sb.2 c (fun q' => hb (by simp [q']))).trans (hk c o (fun q' => hb (by simp [q'])) (fun q' => hb (by simp [q'])) (fun q' => hb (by simp [q'])) (fun q' => hb (by simp [q'])) q)) hf (Nat.le_refl _) new
    refine ⟨.ref s.heap.objs.size, _, I1, rfl, ⟨_, x, y, rfl, I.hok.fresh (Nat.le_refl _), rfl, hx, hy⟩, ⟨z'', ?_, ⟨u1, u2, ?_⟩, ?_, ?_, hg.2.2⟩, fun c hcm => ?_⟩
    · exact (sb.2 _ S.TIz).trans (hk _ _ S.TIz S.TITO S.TIi1 S.TIi2 hTI)
    · exact (sb.2 _ S.TOz).trans hTO'
    · exact D1.keep _ h' h'' (hb1 _ _ s1') fun o q => (sb.2 _ S.zi1.symm).trans q
    · exact D2.keep _ h' h'' (hb2 _ _ s2') fun o q => (sb.2 _ S.zi2.symm).trans q
    · have hlt : c < s.heap.objs.size := by
        have e' : c = z ∨ c = TI ∨ c = TO ∨ c = i1 ∨ c = i2 := by simpa using hcm
        rcases e' with q | q | q | q | q
        · rw [q]; exact hzl
        · rw [q]; exact Heap.lt_size hTI
        · rw [q]; exact Heap.lt_size hTO
        · rw [q]; exact hil1
        · rw [q]; exact hil2
      rw [upd_ne (Nat.ne_of_lt hlt)]
      exact (hf c hcm).1
  done := by
    intro X hP hw hK hc i pins s σ H E I hf st hg
    obtain ⟨hz, hTI, ⟨x0, y0, hTO⟩, h1, h2, hn⟩ := st
    have hin : i = n := Nat.le_antisymm hn hg.2.2
    subst hin
    obtain ⟨Pv1, St1, Dw1, hs1, hb1, hy1⟩ := D1.draw X hP hw hK pins σ H s I hg.1 i h1 X.A.in1 (I.ok.hd hc)
    obtain ⟨Pv2, St2, Dw2, hs2, hb2, hy2⟩ := D2.draw X hP hw hK pins σ H s I hg.2.1 i h2 X.A.in1 (I.ok.hd hc)
    subst hP hw hK
    exact pyNext_end (I.ok.hd hc) S Dw1 Dw2 hz hTI hTO hs1 hs2 fun h' hk => ⟨rfl, I.turnedL (t' := s.toks) (ch := [z, TI, TO, i1, i2]) (fun c o hb q =>
      hk c o (fun q' => hb (by simp [q'])) (fun q' => hb (by simp [q'])) (fun q' => hb (by simp [q'])) (fun q' => hb (by simp [q'])) q) hf⟩
  self := fun A i s Q E st h => pyIter_zipS st.1 h
/-- what may be walked -/
def Sq0 (K : PySem.W.Frag) (H : Hp) (x : V) (n : Nat) (own : Hp → Prop) (yv : Nat → V → Prop) : Prop :=
  (∃ a xs, x = .ref a ∧ SqL K H a xs ∧ n = xs.length ∧ own = (fun H => SqL K H a xs) ∧ yv = fun i x => xs[i]? = some x) ∨ (∃ a xs, x = .ref a ∧ SqT K H a xs ∧ n = xs.length ∧ own = (fun H => SqT K H a xs) ∧ yv = fun i x => xs[i]? = some x) ∨
  ∃ z : Str, x = .str z ∧ n = z.cps.size ∧ own = (fun _ => True) ∧ yv = fun i x => ∃ c, z.cps[i]? = some c ∧ x = .str ⟨#[c]⟩
theorem src_of {X : Cx} {pins : List (Addr × Obj)} {σ : L2.St} {H : Hp} {s : Shared} {x : V} {u : Value} {n : Nat} {own : Hp → Prop} {yv : Nat → V → Prop} (I : Inv X pins σ H s) (r : RelV x u) (q : Sq0 X.K H x n own yv) :
    ∃ (o : Obj) (Hh : Heap → Prop) (dep : List Addr), Begins u o Hh ∧ Hh s.heap ∧ own H ∧ (∀ c ∈ dep, c < s.heap.objs.size) ∧ ∀ it, ∃ tn, DrZ X.prog X.w X.K it dep n own tn yv ∧ ∀ h' : Heap, h'.get? it = some o → tn 0 h' := by
  rcases q with ⟨a, xs, rfl, hq, rfl, rfl, rfl⟩ | ⟨a, xs, rfl, hq, rfl, rfl, rfl⟩ | ⟨z, rfl, rfl, rfl, rfl⟩
  · cases r
    obtain ⟨its, rv, p, hz⟩ := I.list hq
    exact ⟨_, _, [a], begins_list a its.toArray, p.isList, hq, fun c hc => by rw [List.mem_singleton.mp hc]; exact p.lt, fun it => ⟨_, drz_list it a xs, fun h' e => ⟨_, e, rfl, rfl⟩⟩⟩
  · cases r
    obtain ⟨its, rv, p, hz⟩ := I.tuple hq
    have p' : s.heap.IsTuple a its.toArray := p
    exact ⟨_, _, [a], begins_tuple a its.toArray, p', hq, fun c hc => by rw [List.mem_singleton.mp hc]; obtain ⟨o, ho, _⟩ := p'; exact Heap.lt_size ho, fun it => ⟨_, drz_tup it a xs, fun h' e => ⟨_, e, rfl, rfl⟩⟩⟩
  · obtain ⟨t, rfl⟩ := r
    exact ⟨_, _, [], begins_text z t, trivial, trivial, fun c hc => (by cases hc), fun it => ⟨_, drz_str it z t, fun h' e => ⟨_, e, rfl, rfl⟩⟩⟩
theorem callWith_typeK {M : Model} {A : Around} {E : Value → Shared → Prop} {s : Shared} {env : Env} {pos : Pos} {T : String} {Q : Value → Shared → Prop} {e : Expr} {rest : List Expr} {kws : List Keyword} (hall : (backToKw pos (keywordEach kws env)).all (·.1.isSome) = true)
    (h : wpAny M A (spliced (backTo pos (starEach (e :: rest) env))) (fun vs s₁ => wpAny M A (evalAll ((backToKw pos (keywordEach kws env)).map (·.2)))
      (fun ks s₂ => wpAny M A (call (.type T) vs (((backToKw pos (keywordEach kws env)).filterMap (·.1)).zip ks)) Q E s₂) E s₁) E s)
    (hplain : ((backTo pos (starEach (e :: rest) env)).any (·.1) || (backToKw pos (keywordEach kws env)).any (·.1.isNone)) = false) (he : starEach (e :: rest) env = (false, eval e env) :: starEach rest env) :
    wpAny M A (callWith pos (.type T) [] (backTo pos (starEach (e :: rest) env)) (backToKw pos (keywordEach kws env))) Q E s :=
  PySem.W.callWith_of (P := fun _ => True) hplain (fun h _ => ⟨.machine, .inr (.inl rfl), .now⟩)
    (evalArgs_kw2 hall (wpAny_mono h (fun vs s1 h1 => wpAny_mono h1 (fun ks s2 h2 => ⟨trivial, h2⟩) fun _ _ x => x) fun _ _ x => x) he)
def iZs (K : PySem.W.Frag) (ta : TA) : TI := fun σ H R => ta σ H fun vs H1 => ∃ x y n own1 own2 y1 y2, vs = [x, y] ∧ Sq0 K H1 x n own1 y1 ∧ Sq0 K H1 y n own2 y2 ∧ R (ItZ own1 own2 n y1 y2) H1
theorem pi_zipS {X : Cx} {e e2 : Expr} {ta : TA} {p pos tpos kp kq : Pos} {elts : List Expr} {kk kc : Nat} (hg : Gl X "zip") (hm : X.mg "zip" = none) (ha : PA X [e, e2] ta)
    (hs : starEach [e, e2] X.env = (false, eval e X.env) :: starEach [e2] X.env) (hpl : ((backTo pos (starEach [e, e2] X.env)).any (·.1)) = false) :
    PI X (.Tuple elts kk tpos) (.Call (.Name "zip" p) [e, e2] [⟨some (Str.ofString "strict"), .Constant (.bool true) kc kp, kq⟩] pos) (iZs X.K ta) := by
  refine ⟨fun pins s σ H R I h => ?_⟩
  refine wpAny_Call_Name_kw (ld_blt I hg hm PyProof.Rows.boot_zip (callWith_typeK rfl (thn (ha.run pos pins s σ H _ I h) fun us s1 ⟨vs, H1, I1, r1, q1⟩ => ?_) (by rw [hpl]; rfl) hs))
  have pk : PK X [⟨some (Str.ofString "strict"), .Constant (.bool true) kc kp, kq⟩] (tCons (L2.tC (.bl true)) tNil) := pk_cons pe_bl pk_nil
  refine thn (pk.run pos pins s1 σ H1 (fun zs H2 => zs = [.bl true] ∧ H2 = H1) I1 ⟨rfl, rfl⟩) fun ks s2 ⟨zs, H2, I2, rz, ez, eH⟩ => ?_
  subst ez eH
  obtain ⟨x, y, n, own1, own2, y1, y2, rfl, sx, sy, q⟩ := q1
  cases r1 with
  | cons ra rr =>
    cases rr with
    | cons rb rr =>
      cases rr
      cases rz with
      | cons rt rr =>
        cases rr
        cases rt
        obtain ⟨o1, Hh1, dep1, B1, hH1, ow1, hd1, f1⟩ := src_of I2 ra sx
        obtain ⟨o2, Hh2, dep2, B2, hH2, ow2, hd2, f2⟩ := src_of I2 rb sy
        refine zip_beginsS B1 B2 hH1 hH2 fun h' hz hTI hTO g1 g2 hsz hk => pyIter_zipS hz ?_
        have I3 : Inv X pins σ H2 { s2 with heap := h' } := I2.kept (t' := s2.toks) hk
        obtain ⟨tn1, D1, ht1⟩ := f1 s2.heap.objs.size
        obtain ⟨tn2, D2, ht2⟩ := f2 (s2.heap.objs.size + 1)
        have nd1 : ∀ c, s2.heap.objs.size ≤ c → c ∉ dep1 := fun c hc hm => absurd (hd1 c hm) (Nat.not_lt.mpr hc)
        have nd2 : ∀ c, s2.heap.objs.size ≤ c → c ∉ dep2 := fun c hc hm => absurd (hd2 c hm) (Nat.not_lt.mpr hc)
        have S : ZipSep2 (s2.heap.objs.size + 4) (s2.heap.objs.size + 2) (s2.heap.objs.size + 3) s2.heap.objs.size (s2.heap.objs.size + 1) (s2.heap.objs.size :: dep1) ((s2.heap.objs.size + 1) :: dep2) := {
          TIz := nqz _ 2 4 (by decide)
          TOz := nqz _ 3 4 (by decide)
          TITO := nqz _ 2 3 (by decide)
          TIi1 := nqz _ 2 0 (by decide)
          mem1 := List.mem_cons_self
          zf1 := fun hm => (List.mem_cons.mp hm).elim (nqz _ 4 0 (by decide)) (nd1 _ (by omega))
          Tf1 := fun hm => (List.mem_cons.mp hm).elim (nqz _ 3 0 (by decide)) (nd1 _ (by omega))
          TIi2 := nqz _ 2 1 (by decide)
          mem2 := List.mem_cons_self
          zf2 := fun hm => (List.mem_cons.mp hm).elim (nqz _ 4 1 (by decide)) (nd2 _ (by omega))
          Tf2 := fun hm => (List.mem_cons.mp hm).elim (nqz _ 3 1 (by decide)) (nd2 _ (by omega))
          sep1_2 := fun hm => (List.mem_cons.mp hm).elim (nqz _ 0 1 (by decide)) (nd2 _ (by omega))
          sep2_1 := fun hm => (List.mem_cons.mp hm).elim (nqz _ 1 0 (by decide)) (nd1 _ (by omega)) }
        refine ⟨s2.heap.objs.size + 4, [s2.heap.objs.size + 4, s2.heap.objs.size + 2, s2.heap.objs.size + 3, s2.heap.objs.size, s2.heap.objs.size + 1], _, _, H2, rfl, I3, turn_zipS S D1 D2, ⟨hz, hTI, ⟨_, _, hTO⟩, ht1 _ g1, ht2 _ g2, Nat.zero_le _⟩, fun c hcm => ?_, q⟩
        have hle : s2.heap.objs.size ≤ c := by
          have e' : c = s2.heap.objs.size + 4 ∨ c = s2.heap.objs.size + 2 ∨ c = s2.heap.objs.size + 3 ∨ c = s2.heap.objs.size ∨ c = s2.heap.objs.size + 1 := by simpa using hcm
          rcases e' with z | z | z | z | z <;> rw [z] <;> first | exact Nat.le_refl _ | exact Nat.le_add_right _ _
        exact I2.fpOk hle (I2.hok.fresh hle)
theorem zip_get2 {ds es : List D} {i : Nat} {d : D} (h : ((ds.zip es).map fun p => D.tup [p.1, p.2])[i]? = some d) : ∃ x y, ds[i]? = some x ∧ es[i]? = some y ∧ d = .tup [x, y] := by
  rw [List.getElem?_map] at h
  cases e : (ds.zip es)[i]? with
  | none => rw [e] at h; cases h
  | some p =>
    rw [e] at h
    simp only [Option.map_some, Option.some.injEq] at h
    obtain ⟨h1, h2⟩ := List.getElem?_zip_eq_some.mp e
    exact ⟨p.1, p.2, h1, h2, h.symm⟩
section
variable {K : PySem.W.Frag} {G : Hp} {μ : Mu}
theorem wk_zip {own1 own2 : Hp → Prop} {n : Nat} {y1 y2 : Nat → V → Prop} {ds es : List D} (ho1 : ∀ H1, Le G H1 → own1 H1) (ho2 : ∀ H1, Le G H1 → own2 H1) (hn : n = ds.length) (hm : ds.length = es.length) (hy1 : ∀ i x d, y1 i x → ds[i]? = some d → Rep K G μ x d) (hy2 : ∀ i x d, y2 i x → es[i]? = some d → Rep K G μ x d) :
    Wk K G μ (ItZ own1 own2 n y1 y2) ((ds.zip es).map fun p => .tup [p.1, p.2]) where
  stop := fun i H1 l hi => ⟨ho1 H1 l, ho2 H1 l, by rw [hn]; simp only [List.length_map, List.length_zip] at hi; omega⟩
  go := fun i H1 l hi => ⟨ho1 H1 l, ho2 H1 l, by rw [hn]; simp only [List.length_map, List.length_zip] at hi; omega⟩
  yld := fun i d H1 x H2 l hd ⟨T, a, b, hx, hT, e, ha, hb⟩ => by
    obtain ⟨d1, d2, h1, h2, rfl⟩ := zip_get2 hd
    exact .inr ⟨T, _, _, hx, hT, e, rfl, .cons (hy1 i a d1 ha h1) (.cons (hy2 i b d2 hb h2) .nil)⟩
/-- a datum that is walked -/
theorem sq_of {x : V} {d : D} {ds : List D} (r : Rep K G μ x d) (h : seqO d = some ds) {H : Hp} (hG : Le G H) : ∃ n own yv, Sq0 K H x n own yv ∧ n = ds.length ∧ (∀ H1, Le G H1 → own H1) ∧ ∀ i x e, yv i x → ds[i]? = some e → Rep K G μ x e := by
  cases r with
  | str z =>
    simp only [seqO, Option.some.injEq] at h
    subst h
    refine ⟨_, _, _, .inr (.inr ⟨z, rfl, rfl, rfl, rfl⟩), (chars_len z).symm, fun _ _ => trivial, fun i x e ⟨c, hc, ex⟩ hd => ?_⟩
    obtain ⟨c', hc', rfl⟩ := chars_get hd
    rw [hc] at hc'; cases hc'
    subst ex
    exact .str _
  | lst h2 q =>
    simp only [seqO, Option.some.injEq] at h
    subst h
    refine ⟨_, _, _, .inl ⟨_, _, rfl, SqL.of (hG _ _ h2), rfl, rfl, rfl⟩, q.len, fun H1 l => SqL.of (l _ _ h2), fun i x e hx hd => ?_⟩
    obtain ⟨v, hv, rv⟩ := q.get hd
    rw [hx] at hv; cases hv
    exact rv
  | tup h2 q =>
    simp only [seqO, Option.some.injEq] at h
    subst h
    refine ⟨_, _, _, .inr (.inl ⟨_, _, rfl, seqT_le hG h2, rfl, rfl, rfl⟩), q.len, fun H1 l => seqT_le l h2, fun i x e hx hd => ?_⟩
    obtain ⟨v, hv, rv⟩ := q.get hd
    rw [hx] at hv; cases hv
    exact rv
  | _ => cases h
end
section
variable {X : Cx} {cn : Cn} {cf : Cf} {W : L2.WX} {σ : L2.St} {H : Hp}
theorem t_zip {a b : E} {R : L2.It → Hp → Prop} (h : tI X.K cn cf W (.zip a b) σ H R) : iZs X.K (tCons (tE X.K cn cf W a) (tCons (tE X.K cn cf W b) tNil)) σ H R := by
  rcases h with h | ⟨i, n, a, xs, B, G0, G, μ, S, ρ, hm, _⟩
  case inr => cases hm
  obtain ⟨B, G0, G, μ, S, ρ, w, er, h⟩ := h
  simp only [evI] at h
  refine tE_use w er h fun d G1 μ1 S1 H1 x l m w1 er1 r1 h1 => ?_
  refine tE_use w1 er1 h1 fun d2 G2 μ2 S2 H2 y l2 m2 w2 er2 r2 h2 => ?_
  obtain ⟨xs, hx, k⟩ := After.opt w2 h2
  have k' := k G2 H2 (fun _ _ e => e) w2
  unfold zipO at hx
  split at hx
  · rename_i ds es e1 e2
    split at hx
    · rename_i hl
      cases hx
      obtain ⟨n1, own1, y1, s1, en1, ho1, hy1⟩ := sq_of (Rep.up l2 m2 r1) e1 (H := H2) w2.gh
      obtain ⟨n2, own2, y2, s2, en2, ho2, hy2⟩ := sq_of r2 e2 (H := H2) w2.gh
      subst en1
      have en2' : n2 = ds.length := en2.trans hl.symm
      subst en2'
      exact ⟨x, y, _, own1, own2, y1, y2, rfl, s1, s2, k' _ (wk_zip ho1 ho2 rfl hl hy1 hy2)⟩
    · cases hx
  · cases hx
end
end Pe
set_option Elab.async false
set_option linter.all false
set_option maxRecDepth 100000
set_option maxHeartbeats 4000000
namespace Pe
open PySem PySem.Spec PyProof.Rows L2
def tyN : Ty → String
  | .str => "str"
  | .tup => "tuple"
  | .lst => "list"
  | .int => "int"
  | .bool => "bool"
theorem tyOf_boot {x : Str} {t : Ty} (h : tyOf x = some t) : bootBuiltins x = some (.type (tyN t)) := by
  unfold tyOf at h
  split at h
  · subst x; cases h; decide +kernel
  split at h
  · subst x; cases h; decide +kernel
  split at h
  · subst x; cases h; decide +kernel
  split at h
  · subst x; cases h; decide +kernel
  split at h
  · subst x; cases h; decide +kernel
  · cases h
def dTy : D → String
  | .non => "NoneType"
  | .bl _ => "bool"
  | .int _ => "int"
  | .str _ => "str"
  | .tup _ => "tuple"
  | .dct0 => "dict"
  | _ => "list"
theorem isi_kit : ∀ (d : D) (t : Ty) (b : Bool), isiO d t = some b → kitB (dTy d) (tyN t) = some b
  | .non, .str, b, h => by cases h; decide +kernel
  | .non, .tup, b, h => by cases h; decide +kernel
  | .non, .lst, b, h => by cases h; decide +kernel
  | .non, .int, b, h => by cases h; decide +kernel
  | .non, .bool, b, h => by cases h; decide +kernel
  | .bl _, .str, b, h => by cases h; show kitB "bool" "str" = _; decide +kernel
  | .bl _, .tup, b, h => by cases h; show kitB "bool" "tuple" = _; decide +kernel
  | .bl _, .lst, b, h => by cases h; show kitB "bool" "list" = _; decide +kernel
  | .bl _, .int, b, h => by cases h; show kitB "bool" "int" = _; decide +kernel
  | .bl _, .bool, b, h => by cases h; show kitB "bool" "bool" = _; decide +kernel
  | .int _, .str, b, h => by cases h; show kitB "int" "str" = _; decide +kernel
  | .int _, .tup, b, h => by cases h; show kitB "int" "tuple" = _; decide +kernel
  | .int _, .lst, b, h => by cases h; show kitB "int" "list" = _; decide +kernel
  | .int _, .int, b, h => by cases h; show kitB "int" "int" = _; decide +kernel
  | .int _, .bool, b, h => by cases h; show kitB "int" "bool" = _; decide +kernel
  | .str _, .str, b, h => by cases h; show kitB "str" "str" = _; decide +kernel
  | .str _, .tup, b, h => by cases h; show kitB "str" "tuple" = _; decide +kernel
  | .str _, .lst, b, h => by cases h; show kitB "str" "list" = _; decide +kernel
  | .str _, .int, b, h => by cases h; show kitB "str" "int" = _; decide +kernel
  | .str _, .bool, b, h => by cases h; show kitB "str" "bool" = _; decide +kernel
  | .tup _, .str, b, h => by cases h; show kitB "tuple" "str" = _; decide +kernel
  | .tup _, .tup, b, h => by cases h; show kitB "tuple" "tuple" = _; decide +kernel
  | .tup _, .lst, b, h => by cases h; show kitB "tuple" "list" = _; decide +kernel
  | .tup _, .int, b, h => by cases h; show kitB "tuple" "int" = _; decide +kernel
  | .tup _, .bool, b, h => by cases h; show kitB "tuple" "bool" = _; decide +kernel
  | .lst _, .str, b, h => by cases h; show kitB "list" "str" = _; decide +kernel
  | .lst _, .tup, b, h => by cases h; show kitB "list" "tuple" = _; decide +kernel
  | .lst _, .lst, b, h => by cases h; show kitB "list" "list" = _; decide +kernel
  | .lst _, .int, b, h => by cases h; show kitB "list" "int" = _; decide +kernel
  | .lst _, .bool, b, h => by cases h; show kitB "list" "bool" = _; decide +kernel
  | .ref _, t, b, h => by cases t <;> cases h
  | .dct0, .str, b, h => by cases h; show kitB "dict" "str" = _; decide +kernel
  | .dct0, .tup, b, h => by cases h; show kitB "dict" "tuple" = _; decide +kernel
  | .dct0, .lst, b, h => by cases h; show kitB "dict" "list" = _; decide +kernel
  | .dct0, .int, b, h => by cases h; show kitB "dict" "int" = _; decide +kernel
  | .dct0, .bool, b, h => by cases h; show kitB "dict" "bool" = _; decide +kernel
  | .exn _ _ _, t, b, h => by cases t <;> cases h
  | .scr _, t, b, h => by cases t <;> cases h
section
variable {c : Cc} {lv : Nat} {cn : Cn} {cf : Cf} {W : L2.WX} {sc so : Scope} {X : Cx}
theorem see_ty {K : PySem.W.Frag} {B G0 G H : Hp} {μ : Mu} {S : Store} (w : Wd K B G0 G μ S H) {x : V} {d : D} {t : Ty} {b : Bool} (s : See K G μ H x d) (h : isiO d t = some b) : TyX K H x (.type (dTy d)) := by
  cases s with
  | non => exact .base .non
  | bl b => exact .base (.bl b)
  | int i => exact .base (.int i)
  | str x => exact .base (.str x)
  | lst h' r => exact .base (.lst h')
  | tup h' r =>
    rcases seqT_le w.gh h' with q | ⟨o, its, n, h1, h2, _⟩
    · rcases q with q | ⟨o, q⟩
      · exact .base (.tup q)
      · exact .fTuple q
    · exact .kTuple h1 h2
  | ref x n => cases t <;> cases h
  | scr h => cases t <;> cases h
  | dct0 h' => exact .base (.dK h')
  | exn _ _ _ _ => cases t <;> cases h
theorem t_isi {a : E} {t : Ty} {σ : L2.St} {H : Hp} {Q : VK} (h : tE X.K cn cf W (.isi a t) σ H Q) : tCB (rIsi X.K) (tCons (tE X.K cn cf W a) (tCons (L2.tC (.ty (tyN t))) tNil)) σ H Q := by
  obtain ⟨B, G0, G, μ, S, ρ, w, er, h⟩ := h
  simp only [evE] at h
  refine tE_use w er h fun d G1 μ1 S1 H1 x l m w1 er1 r1 h1 => ?_
  obtain ⟨b, hb, k⟩ := After.opt w1 (After.bnd h1)
  exact ⟨x, _, _, _, b, rfl, .ty _, see_ty w1 (see_ok w1 r1) hb, kit_ty (isi_kit _ _ _ hb), After.now w1 (k G1 H1 (fun _ _ e => e) w1) _ (.bl _)⟩
theorem bf_call (g : Gd c lv cn cf W sc so X) {x : Str} {n : Nat} {b : Bf} (h : bfOf x n = some b) :
    (∃ id, bootBuiltins x = some (.builtin id) ∧ CallR X (.builtin id) (rBf X.K b)) ∨ ∃ T, bootBuiltins x = some (.type T) ∧ CallR X (.type T) (rBf X.K b) := by
  unfold bfOf at h
  by_cases e0 : x = ⟨#[108,101,110]⟩
  · rw [if_pos e0] at h; cases h; exact .inl ⟨_, by rw [e0]; decide +kernel, b_len⟩
  rw [if_neg e0] at h
  by_cases e1 : x = ⟨#[105,110,116]⟩
  · rw [if_pos e1] at h; cases h; exact .inr ⟨_, by rw [e1]; decide +kernel, b_int⟩
  rw [if_neg e1] at h
  by_cases e2 : x = ⟨#[97,98,115]⟩
  · rw [if_pos e2] at h; cases h; exact .inl ⟨_, by rw [e2]; decide +kernel, b_abs⟩
  rw [if_neg e2] at h
  by_cases e3 : x = ⟨#[97,108,108]⟩
  · rw [if_pos e3] at h; cases h; exact .inl ⟨_, by rw [e3]; decide +kernel, b_all g.calm⟩
  rw [if_neg e3] at h
  by_cases e4 : x = ⟨#[97,110,121]⟩
  · rw [if_pos e4] at h; cases h; exact .inl ⟨_, by rw [e4]; decide +kernel, b_any g.calm⟩
  rw [if_neg e4] at h
  by_cases e5 : x = ⟨#[116,117,112,108,101]⟩
  · rw [if_pos e5] at h; cases h; exact .inr ⟨_, by rw [e5]; decide +kernel, b_tup⟩
  rw [if_neg e5] at h
  by_cases e6 : x = ⟨#[115,111,114,116,101,100]⟩
  · rw [if_pos e6] at h; cases h; exact .inl ⟨_, by rw [e6]; decide +kernel, b_srt g.hu⟩
  rw [if_neg e6] at h
  by_cases e7 : x = ⟨#[108,105,115,116]⟩
  · rw [if_pos e7] at h; cases h; exact .inr ⟨_, by rw [e7]; decide +kernel, b_lst⟩
  rw [if_neg e7] at h
  by_cases e8 : x = ⟨#[115,116,114]⟩
  · rw [if_pos e8] at h; cases h; exact .inr ⟨_, by rw [e8]; decide +kernel, b_str⟩
  rw [if_neg e8] at h
  by_cases e9 : x = ⟨#[115,117,109]⟩
  · rw [if_pos e9] at h; cases h; exact .inl ⟨_, by rw [e9]; decide +kernel, b_sum g.calm⟩
  rw [if_neg e9] at h
  by_cases e10 : x = ⟨#[109,97,120]⟩
  · rw [if_pos e10] at h
    by_cases hn : n = 2
    · rw [if_pos hn] at h; cases h; exact .inl ⟨_, by rw [e10]; decide +kernel, b_max2 g.calm⟩
    · rw [if_neg hn] at h; cases h; exact .inl ⟨_, by rw [e10]; decide +kernel, b_max g.calm g.hu⟩
  rw [if_neg e10] at h
  by_cases e11 : x = ⟨#[109,105,110]⟩
  · rw [if_pos e11] at h
    by_cases hn : n = 2
    · rw [if_pos hn] at h; cases h; exact .inl ⟨_, by rw [e11]; decide +kernel, b_min2 g.calm⟩
    · rw [if_neg hn] at h; cases h; exact .inl ⟨_, by rw [e11]; decide +kernel, b_min g.calm g.hu⟩
  rw [if_neg e11] at h
  cases h
theorem pe_cCall (g : Gd c lv cn cf W sc so X) {r : Expr → E} (hr : AllOk cn cf W X r) {f : Str} {args : List Expr} {p pos : Pos} : PE X (.Call (.Name f p) args [] pos) (tE X.K cn cf W (cCall r c sc f args)) := by
  unfold cCall
  split
  · rename_i b hb
    unfold setArg at hb
    split at hb
    · rename_i g2 pg b' pc
      split at hb
      · rename_i hc
        cases hb
        simp only [Bool.and_eq_true, Bool.not_eq_true', decide_eq_true_eq] at hc
        obtain ⟨⟨⟨⟨rfl, rfl⟩, h3⟩, h4⟩, h5⟩ := hc
        have b1 : bootBuiltins sSorted = some (.builtin "sorted") := by decide +kernel
        have b2 : bootBuiltins sSet = some (.type "set") := by decide +kernel
        obtain ⟨x1, x2, x3, x4⟩ := g.free h3 b1
        obtain ⟨y1, y2, y3, y4⟩ := g.free h4 b2
        have hst : starEach [b] X.env = [(false, eval b X.env)] := star_cons (r := []) h5
        exact pe_imp (pe_callB (cr_sortAny g.calm g.hu) x1 x2 b1 (pa_cons (pe_callTy (cr_setAny g.calm g.hu) y1 y2 b2 (pa_cons (hr b).1 pa_nil hst) y4 y3 hst rfl) pa_nil rfl) x4 x3 rfl rfl) fun σ H Q q => t_ssr q
      · cases hb
    · cases hb
  split
  · rename_i hc
    simp only [Bool.and_eq_true, Bool.not_eq_true'] at hc
    obtain ⟨⟨hn, he⟩, hg⟩ := hc
    cases args with
    | nil => simp at he
    | cons e es =>
    have hn' := hn
    unfold nost at hn'
    simp only [List.all_cons, Bool.and_eq_true, Bool.not_eq_true'] at hn'
    have hs := star_cons (X := X) (r := es) hn'.1
    have hp : (backTo pos (starEach es X.env)).any (·.1) = false := by rw [back_any]; exact nost_each (by unfold nost; exact hn'.2)
    split
    · rename_i np ht
      split
      · rename_i hl
        obtain ⟨a, fd, ps, hm, hk, hps, hb, F⟩ := g.fns.fn f np ht
        exact pe_imp (pe_callS F (g.room.mono (Nat.le_succ _)) (g.gl hg).1 hm hk hb (fun σ => passAt g.tk σ) (pa_ok hr _) (g.gl hg).2.1 hs hp) fun σ H Q q => t_call (fun ρ S ds S' hh => (cEs_len hn hh).trans hl) q
      · exact pe_no
    · split
      · rename_i hf
        split
        · rename_i b hb
          rcases bf_call g hb with ⟨id, h1, h2⟩ | ⟨T, h1, h2⟩
          · obtain ⟨a1, a2, a3, a4⟩ := g.free hf h1
            exact pe_imp (pe_callB h2 a1 a2 h1 (pa_ok hr _) a4 a3 hs hp) fun σ H Q q => t_blt q
          · obtain ⟨a1, a2, a3, a4⟩ := g.free hf h1
            exact pe_imp (pe_callTy h2 a1 a2 h1 (pa_ok hr _) a4 a3 hs hp) fun σ H Q q => t_blt q
        · split
          · rename_i a t pt hargs
            cases hargs
            split
            · rename_i hi
              simp only [Bool.and_eq_true, decide_eq_true_eq] at hi
              obtain ⟨rfl, hft⟩ := hi
              split
              · rename_i ty hty
                have hb := tyOf_boot hty
                obtain ⟨a1, a2, a3, a4⟩ := g.free hft hb
                have hi : bootBuiltins sIsi = some (.builtin "isinstance") := by decide +kernel
                obtain ⟨b1, b2, b3, b4⟩ := g.free hf hi
                exact pe_imp (pe_callB call_isi b1 b2 hi (pa_cons (hr _).1 (pa_cons (pe_bltn a1 a2 hb (v := .ty (tyN ty)) rfl a4 a3) pa_nil rfl) hs) b4 b3 hs hp) fun σ H Q q => t_isi q
              · exact pe_no
            · exact pe_no
          · exact pe_no
      · exact pe_no
  · exact pe_no
theorem sup_base {o : Expr} {m : Str} {env : Env} (h : noSup o = true) : attributeBase o m env (eval o env) = eval o env := by
  cases o with
  | Call f args kws pos =>
    cases f <;> try rfl
    cases args with
    | cons _ _ => rfl
    | nil => cases kws with
      | cons _ _ => rfl
      | nil => cases h
  | _ => rfl
theorem t_ms1 {f : Bf} {a b : E} {σ : L2.St} {H : Hp} {Q : VK} (h : tE X.K cn cf W (.ms f a (.cons false b .nil)) σ H Q) : tM1 (rMt X.K f) (tE X.K cn cf W a) (tE X.K cn cf W b) σ H Q := by
  obtain ⟨B, G0, G, μ, S, ρ, w, er, h⟩ := h
  simp only [evE, evEs] at h
  refine tE_use w er h fun d G1 μ1 S1 H1 x l m w1 er1 r1 h1 => ?_
  cases r1 <;> first | exact h1.elim | skip
  rename_i z
  simp only [bnd_assoc] at h1
  refine ⟨⟨z, rfl⟩, tE_use w1 er1 h1 fun d G2 μ2 S2 H2 y l2 m2 w2 er2 r2 h2 => ?_⟩
  obtain ⟨v, hv, k⟩ := After.opt w2 h2
  exact ⟨B, G0, G2, μ2, S2, [.str z, d], v, w2, .cons (.str z) (.cons r2 .nil), hv, fun z G' H' l' w' f => k G' H' l' w' z f⟩
theorem t_mix {a b : E} {σ : L2.St} {H : Hp} {Q : VK} (h : tE X.K cn cf W (.mix a b) σ H Q) : tBM X.K "list" (rMt X.K .index) (tE X.K cn cf W a) (tCons (tE X.K cn cf W b) tNil) σ H Q := by
  obtain ⟨B, G0, G, μ, S, ρ, w, er, h⟩ := h
  simp only [evE] at h
  refine tE_use w er h fun d G1 μ1 S1 H1 x l m w1 er1 r1 h1 => ?_
  cases r1 with
  | @lst p ys xs hp rs =>
    refine ⟨.inl ⟨rfl, _, SqL.of (w1.gh _ _ hp)⟩, tE_use w1 er1 h1 fun d G2 μ2 S2 H2 y l2 m2 w2 er2 r2 h2 => ?_⟩
    obtain ⟨v, hv, k⟩ := After.opt w2 h2
    exact ⟨B, G0, G2, μ2, S2, [.lst xs, d], v, w2, .cons (.lst (l2 _ _ hp) (rs.up l2 m2)) (.cons r2 .nil), hv, fun z G' H' l' w' f => k G' H' l' w' z f⟩
  | _ => exact h1.elim
theorem pe_cMeth (g : Gd c lv cn cf W sc so X) {r : Expr → E} (hr : AllOk cn cf W X r) {o : Expr} {m : Str} {args : List Expr} {ap cp : Pos} : PE X (.Call (.Attribute o m ap) args [] cp) (tE X.K cn cf W (cMeth r o m ap cp args)) := by
  unfold cMeth
  split
  · rename_i hc
    simp only [Bool.and_eq_true] at hc
    obtain ⟨hb, hl⟩ := hc
    cases args with
    | nil => exact pe_no
    | cons a es =>
    cases es with
    | cons _ _ => exact pe_no
    | nil =>
    show PE X _ (tE X.K cn cf W (if isStar a then .no else if m = sJoin then .ms .join (r o) (.cons false (r a) .nil) else if m = sIndex then .mix (r o) (r a) else if m = sSplit then .ms .split (r o) (.cons false (r a) .nil) else .no))
    split
    · exact pe_no
    · rename_i hs
      have hst : starEach [a] X.env = [(false, eval a X.env)] := star_cons (r := []) (by simpa using hs)
      split
      · rename_i hj
        subst hj
        have e1 : sJoin = ("join" : Str) := by decide +kernel
        rw [e1]
        exact pe_imp (pe_m1 F.slot_str_join F.type_str_join m_join (hr o).1 (hr a).1 hst (sup_base hb) hl) fun σ H Q q => t_ms1 q
      · split
        · rename_i hj
          subst hj
          have e1 : sIndex = ("index" : Str) := by decide +kernel
          rw [e1]
          exact pe_imp (pe_bm F.plainAttrs_list F.slot_list_index F.type_list_index m_index (hr o).1 (pa_cons (hr a).1 pa_nil hst) (sup_base hb) (by rw [hst]; rfl) hl hst rfl) fun σ H Q q => t_mix q
        · split
          · rename_i hj
            subst hj
            have e1 : sSplit = ("split" : Str) := by decide +kernel
            rw [e1]
            exact pe_imp (pe_m1 F.slot_str_split F.type_str_split m_split (hr o).1 (hr a).1 hst (sup_base hb) hl) fun σ H Q q => t_ms1 q
          · exact pe_no
  · exact pe_no
theorem tgNames_ok (g : Gd c lv cn cf W sc so X) : ∀ {es : List Expr} {is : List Nat}, tgNames c.N so es = some is → PGs X es (gT.gNames is) ∧ (assignEach es X.env).length = is.length ∧ (assignEach es X.env).findIdx? (·.1) = none
  | [], is, h => by
    simp only [tgNames, Option.some.injEq] at h
    subst h
    exact ⟨pgs_nil, rfl, rfl⟩
  | e :: r, is, h => by
    cases e <;> simp only [tgNames, reduceCtorEq] at h
    rename_i x p
    split at h
    · rename_i hl
      split at h
      · rename_i i is' hi his
        cases h
        obtain ⟨a, b, d⟩ := tgNames_ok g his
        obtain ⟨o1, o2⟩ := g.ow x (locB_ok hl)
        refine ⟨pgs_cons (pg_name (i := i) (by rw [g.nN]; exact g.nd) (by rw [g.nN]; exact slot_ok hi) (by rw [g.scp]; exact o1) (by rw [g.scp]; exact o2)) a rfl, ?_, ?_⟩
        · show (assignEach r X.env).length + 1 = _
          rw [b]; rfl
        · show List.findIdx? _ ((false, assign _ X.env) :: assignEach r X.env) = none
          rw [List.findIdx?_cons]
          simp [d]
      · cases h
    · cases h
theorem tg_ok (g : Gd c lv cn cf W sc so X) {tg : Expr} {t : T} (h : cTg c.N so tg = some t) : PG X tg (gT X.K t) := by
  cases tg <;> simp only [cTg, reduceCtorEq] at h
  · rename_i x p
    split at h
    · rename_i hl
      obtain ⟨o1, o2⟩ := g.ow x (locB_ok hl)
      cases hi : slot c.N x with
      | none => rw [hi] at h; cases h
      | some i =>
        rw [hi] at h
        cases h
        exact pg_name (i := i) (by rw [g.nN]; exact g.nd) (by rw [g.nN]; exact slot_ok hi) (by rw [g.scp]; exact o1) (by rw [g.scp]; exact o2)
    · cases h
  · rename_i es k p
    cases hi : tgNames c.N so es with
    | none => rw [hi] at h; cases h
    | some is =>
      rw [hi] at h
      cases h
      obtain ⟨a, b, d⟩ := tgNames_ok g hi
      exact pg_tup g.calm a b d
theorem pi_imp {tg it : Expr} {w w' : TI} (h : PI X tg it w) (i : ∀ σ H R, w' σ H R → w σ H R) : PI X tg it w' := ⟨fun pins s σ H R I q => h.run pins s σ H R I (i σ H R q)⟩
theorem pi_cIt (g : Gd c lv cn cf W sc so X) {r : Expr → E} (hr : AllOk cn cf W X r) {tg e : Expr} : PI X tg e (tI X.K cn cf W (cIt r c sc tg e)) := by
  have hseq : PI X tg e (tI X.K cn cf W (.seq (r e))) := pi_imp (pi_seq (hr e).1) fun σ H R q => t_seq q
  unfold cIt
  split
  · rename_i f p a pos
    split
    · rename_i hc
      simp only [Bool.and_eq_true, Bool.not_eq_true', decide_eq_true_eq] at hc
      obtain ⟨⟨hs, hf⟩, rfl⟩ := hc
      have hst : starEach [a] X.env = [(false, eval a X.env)] := star_cons (r := []) hs
      have e1 : sRng = ("range" : Str) := by decide +kernel
      have hb : bootBuiltins sRng = some (.type "range") := by decide +kernel
      obtain ⟨b1, b2, b3, b4⟩ := g.free hf hb
      rw [e1] at b1 b2 ⊢
      exact pi_imp (pi_range1 b1 b2 (pa_cons (hr a).1 pa_nil hst) hst) fun σ H R q => t_r1 q
    · split
      · rename_i hc
        simp only [Bool.and_eq_true, Bool.not_eq_true', decide_eq_true_eq] at hc
        obtain ⟨⟨⟨hs, hf⟩, rfl⟩, ht⟩ := hc
        have hst : starEach [a] X.env = [(false, eval a X.env)] := star_cons (r := []) hs
        have e1 : sEnm = ("enumerate" : Str) := by decide +kernel
        have hb : bootBuiltins sEnm = some (.type "enumerate") := by decide +kernel
        obtain ⟨b1, b2, b3, b4⟩ := g.free hf hb
        rw [e1] at b1 b2 ⊢
        cases tg <;> simp only [isTupE, Bool.false_eq_true] at ht
        exact pi_imp (pi_enm b1 b2 (pa_cons (hr a).1 pa_nil hst) hst) fun σ H R q => t_enm q
      · exact hseq
  · rename_i f p a b pos
    split
    · rename_i hc
      simp only [Bool.and_eq_true, Bool.not_eq_true', decide_eq_true_eq] at hc
      obtain ⟨⟨⟨hs, hs2⟩, hf⟩, rfl⟩ := hc
      have hst2 : starEach [b] X.env = [(false, eval b X.env)] := star_cons (r := []) hs2
      have hst : starEach [a, b] X.env = [(false, eval a X.env), (false, eval b X.env)] := by rw [star_cons hs, hst2]
      have e1 : sRng = ("range" : Str) := by decide +kernel
      have hb : bootBuiltins sRng = some (.type "range") := by decide +kernel
      obtain ⟨b1, b2, b3, b4⟩ := g.free hf hb
      rw [e1] at b1 b2 ⊢
      exact pi_imp (pi_range2 b1 b2 (pa_cons (hr a).1 (pa_cons (hr b).1 pa_nil hst2) (star_cons hs)) hst hst2) fun σ H R q => t_r2 q
    · exact hseq
  · rename_i f p a b k kc kp kq pos
    split
    · rename_i hc
      simp only [Bool.and_eq_true, Bool.not_eq_true', decide_eq_true_eq] at hc
      obtain ⟨⟨⟨⟨⟨hs, hs2⟩, hf⟩, rfl⟩, rfl⟩, ht⟩ := hc
      have hst2 : starEach [b] X.env = [(false, eval b X.env)] := star_cons (r := []) hs2
      have hst : starEach [a, b] X.env = [(false, eval a X.env), (false, eval b X.env)] := by rw [star_cons hs, hst2]
      have e1 : sZip = ("zip" : Str) := by decide +kernel
      have e2 : sStrict = Str.ofString "strict" := by decide +kernel
      have hb : bootBuiltins sZip = some (.type "zip") := by decide +kernel
      obtain ⟨b1, b2, b3, b4⟩ := g.free hf hb
      rw [e1] at b1 b2 ⊢
      rw [e2]
      cases tg <;> simp only [isTupE, Bool.false_eq_true] at ht
      exact pi_imp (pi_zipS b1 b2 (pa_cons (hr a).1 (pa_cons (hr b).1 pa_nil hst2) (star_cons hs)) (by rw [hst, hst2]) (by rw [hst]; rfl)) fun σ H R q => t_zip q
    · exact hseq
  · exact hseq
theorem pts_ok {r : Expr → E} (hr : AllOk cn cf W X r) {ifs : List Expr} : PTs X ifs (tC X.K cn cf W (cIfs r ifs)) := by
  match ifs with
  | [] => exact ⟨fun pins s σ H Q I h => pts_nil.run pins s σ H Q I (t_cno h)⟩
  | [e] => exact ⟨fun pins s σ H Q I h => (pts_one (hr e).2).run pins s σ H Q I (t_cso h)⟩
  | _ :: _ :: _ => exact ⟨fun pins s σ H Q I h => (no_T (t_cso h)).elim⟩
end
end Pe
set_option Elab.async false
set_option linter.all false
set_option maxRecDepth 100000
set_option maxHeartbeats 4000000
namespace Pe
open PySem PySem.Spec PyProof.Rows L2
theorem get_new (S : Store) (c : Cell) (m : Nat) : (S.new c).get m = if m = S.nx then some c else S.get m := by
  unfold Store.new Store.get
  show List.lookup m ((S.nx, c) :: S.cs) = _
  rw [List.lookup_cons]
  by_cases h : m = S.nx
  · subst h; simp
  · have h1 : (m == S.nx) = false := by simpa using h
    rw [if_neg h, h1]
theorem lookup_setL {α : Type} (n : Nat) (c : α) (m : Nat) : ∀ l : List (Nat × α), (setL n c l).lookup m = if m = n then (l.lookup n).map (fun _ => c) else l.lookup m
  | [] => by simp [setL]
  | (k, d) :: r => by
    unfold setL
    by_cases hk : k = n
    · rw [if_pos hk]
      subst hk
      by_cases hm : m = k
      · subst hm; simp
      · have : (m == k) = false := by simpa using hm
        rw [if_neg hm]
        simp [List.lookup_cons, this]
    · rw [if_neg hk]
      have ih := lookup_setL n c m r
      by_cases hm : m = k
      · subst hm
        rw [if_neg hk]
        simp [List.lookup_cons]
      · have h1 : (m == k) = false := by simpa using hm
        have h2 : (n == k) = false := by simpa using Ne.symm hk
        simp only [List.lookup_cons, h1, h2]
        exact ih
theorem get_put (S : Store) (n : Nat) (c : Cell) (m : Nat) : (S.put n c).get m = if m = n then (S.get n).map (fun _ => c) else S.get m := lookup_setL n c m S.cs
theorem lookup_filter {α : Type} (n m : Nat) : ∀ l : List (Nat × α), (l.filter fun p => p.1 != n).lookup m = if m = n then none else l.lookup m
  | [] => by simp
  | (k, d) :: r => by
    have ih := lookup_filter n m r
    by_cases hk : k = n
    · subst hk
      have : ((k != k) = true) = False := by simp
      rw [List.filter_cons]
      simp only [bne_self_eq_false, Bool.false_eq_true, if_false]
      rw [ih]
      by_cases hm : m = k
      · rw [if_pos hm, if_pos hm]
      · have h1 : (m == k) = false := by simpa using hm
        rw [if_neg hm, if_neg hm, List.lookup_cons, h1]
    · rw [List.filter_cons]
      have : (k != n) = true := by simpa using hk
      simp only [this, if_true]
      by_cases hm : m = k
      · subst hm
        rw [if_neg hk]
        simp [List.lookup_cons]
      · have h1 : (m == k) = false := by simpa using hm
        simp only [List.lookup_cons, h1]
        exact ih
theorem get_del (S : Store) (n m : Nat) : (S.del n).get m = if m = n then none else S.get m := lookup_filter n m S.cs
end Pe
set_option Elab.async false
set_option linter.all false
set_option maxRecDepth 100000
set_option maxHeartbeats 4000000
namespace Pe
open PySem PySem.Spec PyProof.Rows L2
section
variable {K : PySem.W.Frag} {B G0 G H : Hp} {μ : Mu} {S : Store}
theorem Frs.get {f : Str} {d : D} : ∀ {r : List (Str × V)} {s : List (Str × D)}, Frs K G μ r s → s.lookup f = some d → ∃ v, r.lookup f = some v ∧ Rep K G μ v d
  | _, _, .nil, h => by cases h
  | (g, v) :: r, (_, d') :: s, .cons q rs, h => by
    rw [List.lookup_cons] at h ⊢
    cases e : f == g with
    | true => rw [e] at h; cases h; exact ⟨v, rfl, q⟩
    | false => rw [e] at h; exact Frs.get rs h
theorem Frs.none {f : Str} : ∀ {r : List (Str × V)} {s : List (Str × D)}, Frs K G μ r s → s.lookup f = none → r.lookup f = none
  | _, _, .nil, _ => rfl
  | (g, v) :: r, (_, d') :: s, .cons q rs, h => by
    rw [List.lookup_cons] at h ⊢
    cases e : f == g with
    | true => rw [e] at h; cases h
    | false => rw [e] at h; exact Frs.none rs h
theorem Frs.len : ∀ {r : List (Str × V)} {s : List (Str × D)}, Frs K G μ r s → r.length = s.length
  | _, _, .nil => rfl
  | _, _, .cons _ rs => by simp [Frs.len rs]
theorem Frs.put {f : Str} {v : V} {d : D} (q : Rep K G μ v d) : ∀ {r : List (Str × V)} {s : List (Str × D)}, Frs K G μ r s → Frs K G μ (putF f v r) (putA f d s)
  | _, _, .nil => .cons q .nil
  | (g, x) :: r, (_, y) :: s, .cons p rs => by
    show Frs K G μ (if g = f then (g, v) :: r else (g, x) :: putF f v r) (if g = f then (g, d) :: s else (g, y) :: putA f d s)
    by_cases e : g = f
    · rw [if_pos e, if_pos e]; exact .cons q rs
    · rw [if_neg e, if_neg e]; exact .cons p (Frs.put q rs)
theorem zip_get {f : Str} {d : D} : ∀ {ns : List Str} {vs : List V} {xs : List D}, Reps K G μ vs xs → (ns.zip xs).lookup f = some d → ∃ v, (ns.zip vs).lookup f = some v ∧ Rep K G μ v d
  | [], _, _, _, h => by simp at h
  | n :: ns, _, _, .nil, h => by simp at h
  | n :: ns, v :: vs, x :: xs, .cons q rs, h => by
    rw [List.zip_cons_cons, List.lookup_cons] at h ⊢
    cases e : f == n with
    | true => rw [e] at h; cases h; exact ⟨v, rfl, q⟩
    | false => rw [e] at h; exact zip_get rs h
theorem obj_get {n : Nat} {p : Str × List (Str × D)} (h : S.obj n = some p) : S.get n = some (.obj p.1 p.2) := by
  unfold Store.obj at h
  cases e : S.get n with
  | none => rw [e] at h; cases h
  | some c =>
    rw [e] at h
    cases c <;> cases h
    rfl
/-- an object's place -/
theorem Wd.objAt (w : Wd K B G0 G μ S H) {n : Nat} {c : Str} {fs : List (Str × D)} (h : S.get n = some (.obj c fs)) : ∃ a dx vfs, μ n = some a ∧ G a = none ∧ B a = none ∧ H a = some (.ins (He.ga K c) dx vfs) ∧ Frs K G μ vfs fs := by
  obtain ⟨a, m, ga, ba, dx, vfs, e, r⟩ := w.cel n _ h
  exact ⟨a, dx, vfs, m, ga, ba, e, r⟩
/-- an object's attribute is stored -/
theorem Wd.putO (w : Wd K B G0 G μ S H) {n : Nat} {a dx : Addr} {c : Str} {fs gs : List (Str × D)} {vgs : List (Str × V)} (h : S.get n = some (.obj c fs)) (m : μ n = some a) (r : Frs K G μ vgs gs) :
    Wd K B G0 G μ (S.put n (.obj c gs)) (upd H a (.ins (He.ga K c) dx vgs)) := by
  obtain ⟨a', dx', vfs', m', ga, ba, ha, _⟩ := w.objAt h
  rw [m] at m'; cases m'
  refine ⟨fun b u e => ?_, fun b u e => ?_, w.g0, w.gb, w.nx, fun k l c c' b h1 h2 e1 e2 => ?_, fun k c' hk => ?_⟩
  · rw [upd_ne (ne_of_none e ga)]; exact w.gh b u e
  · rw [upd_ne (ne_of_none e ba)]; exact w.bh b u e
  · have g1 : ∃ c, S.get k = some c := by
      rw [get_put] at h1
      by_cases hk : k = n
      · subst hk; exact ⟨_, h⟩
      · rw [if_neg hk] at h1; exact ⟨_, h1⟩
    have g2 : ∃ c, S.get l = some c := by
      rw [get_put] at h2
      by_cases hk : l = n
      · subst hk; exact ⟨_, h⟩
      · rw [if_neg hk] at h2; exact ⟨_, h2⟩
    obtain ⟨c1, g1⟩ := g1
    obtain ⟨c2, g2⟩ := g2
    exact w.inj k l c1 c2 b g1 g2 e1 e2
  · rw [get_put] at hk
    by_cases hn : k = n
    · subst hn
      rw [if_pos rfl, h] at hk
      cases hk
      exact ⟨a, m, ga, ba, dx, vgs, upd_same, r⟩
    · rw [if_neg hn] at hk
      obtain ⟨b, mb, gb', bb, ok⟩ := w.cel k c' hk
      have hb : b ≠ a := fun z => hn (w.inj k n c' _ a hk h (by rw [mb, z]) m)
      exact ⟨b, mb, gb', bb, ok.up (fun _ _ e => e) (fun _ _ e => e) (upd_ne hb)⟩
/-- a new object -/
theorem Wd.newO (w : Wd K B G0 G μ S H) {x dx : Addr} {c : Str} (hx : H x = none) (hdx : H dx = none) (ne : dx ≠ x) : ∃ G' μ', Le G G' ∧ LeM μ μ' ∧ Wd K B G0 G' μ' (S.new (.obj c [])) (upd (upd H dx (.own x)) x (.ins (He.ga K c) dx [])) ∧ Rep K G' μ' (.ref x) (.ref S.nx) := by
  obtain ⟨w1, le, gd⟩ := w.newG (o := .own x) hdx
  have h1x : upd H dx (.own x) x = none := by rw [upd_ne (Ne.symm ne)]; exact hx
  have g1x : upd G dx (.own x) x = none := by
    cases e : upd G dx (.own x) x with
    | none => rfl
    | some u => rw [w1.gh x u e] at h1x; cases h1x
  have b1x : B x = none := by
    cases e : B x with
    | none => rfl
    | some u => rw [w1.bh x u e] at h1x; cases h1x
  have np : ∀ n c a, S.get n = some c → μ n = some a → a ≠ x := fun n c a q m z => by
    obtain ⟨a', m', _, _, ok⟩ := w1.cel n c q
    rw [m] at m'; cases m'
    subst z
    cases c with
    | lst xs => obtain ⟨vs, e, _⟩ := ok; rw [e] at h1x; cases h1x
    | dct _ => exact ok.elim
    | obj _ _ => obtain ⟨_, _, e, _⟩ := ok; rw [e] at h1x; cases h1x
  have hnx : μ S.nx = none := by
    cases e : μ S.nx with
    | none => rfl
    | some a => exact absurd (w.nx _ _ e) (Nat.lt_irrefl _)
  have lm : LeM μ fun n => if n = S.nx then some x else μ n := fun n a e => by
    have hn : n ≠ S.nx := fun z => by rw [z, hnx] at e; cases e
    show (if n = S.nx then some x else μ n) = some a
    rw [if_neg hn]; exact e
  refine ⟨upd G dx (.own x), _, le, lm, ⟨fun b u e => ?_, fun b u e => ?_, w1.g0, w1.gb, fun n a e => ?_, fun n m c c' a h1 h2 e1 e2 => ?_, fun n c' h => ?_⟩, .ref (by show (if S.nx = S.nx then some x else _) = _; rw [if_pos rfl])⟩
  · rw [upd_ne (ne_of_none e g1x)]; exact w1.gh b u e
  · rw [upd_ne (ne_of_none e b1x)]; exact w1.bh b u e
  · show n < S.nx + 1
    by_cases hn : n = S.nx
    · omega
    · replace e : (if n = S.nx then some x else μ n) = some a := e
      rw [if_neg hn] at e
      have := w.nx n a e
      omega
  · rw [get_new] at h1 h2
    replace e1 : (if n = S.nx then some x else μ n) = some a := e1
    replace e2 : (if m = S.nx then some x else μ m) = some a := e2
    by_cases hn : n = S.nx <;> by_cases hm : m = S.nx
    · omega
    · rw [if_pos hn] at e1; cases e1
      rw [if_neg hm] at e2 h2
      exact absurd rfl (np m c' _ h2 e2)
    · rw [if_pos hm] at e2; cases e2
      rw [if_neg hn] at e1 h1
      exact absurd rfl (np n c _ h1 e1)
    · rw [if_neg hn] at e1 h1
      rw [if_neg hm] at e2 h2
      exact w.inj n m c c' a h1 h2 e1 e2
  · rw [get_new] at h
    by_cases hn : n = S.nx
    · rw [if_pos hn] at h
      cases h
      exact ⟨x, by show (if n = S.nx then some x else μ n) = some x; rw [if_pos hn], g1x, b1x, dx, [], upd_same, .nil⟩
    · rw [if_neg hn] at h
      obtain ⟨a, m, ga, ba, ok⟩ := w1.cel n c' h
      have hax := np n c' a h m
      exact ⟨a, by show (if n = S.nx then some x else μ n) = some a; rw [if_neg hn]; exact m, ga, ba, ok.up (fun _ _ e => e) lm (upd_ne hax)⟩
end
section
variable {X : Cx} {cn : Cn} {cf : Cf} {W : L2.WX} {σ : L2.St} {H : Hp}
def tAttX (K : PySem.W.Frag) (f : Str) (te : TE) : TE := fun σ H Q => te σ H fun x H1 => (∃ a C dx fs v, x = .ref a ∧ H1 a = some (.ins C dx fs) ∧ Cls K C ∧ NoAttr K C f ∧ fs.lookup f = some v ∧ Q v H1) ∨
  (∃ (a D dd : Addr) (fs : List (Str × V)) (v : V), x = .ref a ∧ XfC K D ∧ PySem.W.findIn K (.ref D) f = some none ∧ H1 a = some (ExK (.ref D) (some dd) a) ∧ H1 dd = some (.xd fs) ∧ fs.lookup f = some v ∧ Q v H1)
theorem pe_attX {e : Expr} {te : TE} {pos : Pos} {f : Str} (he : PE X e te) (hb : attributeBase e f X.env (eval e X.env) = eval e X.env) : PE X (.Attribute e f pos) (tAttX X.K f te) := by
  refine ⟨fun pins s σ H Q I h => ?_⟩
  refine attr_of hb (thn (he.run pins s σ H _ I h) fun u s1 hh => ?_)
  obtain ⟨x, H1, I1, rx, hh⟩ := hh
  rcases hh with ⟨a, C, dx, fs, v, rfl, ea, c, n, l, q⟩ | ⟨a, D, dd, fs, v, rfl, T, hno, ha, hdd, l, q⟩
  · obtain rfl : u = Value.ref a := rx
    exact getattr_ok I1 ea c n l fun u' s2 I2 ru => ⟨v, H1, I2, ru, q⟩
  · obtain rfl : u = Value.ref a := rx
    obtain ⟨⟨oe, vs, ho, ⟨z1, z2⟩, hv⟩, _, _⟩ := I1.hok a _ ha
    have hx : ObjOk X.prog X.w H1 s1.heap dd (.xd fs) := I1.hok dd _ hdd
    obtain ⟨mA, hns, hr⟩ := hx
    obtain ⟨od, ho2, hl⟩ := lookIn_ns hns
    obtain ⟨u, hu, ru⟩ := RelO.some_of (v := v) (o := mA f) (by rw [← l]; exact hr f)
    have J : PySem.W.InstAt s1.heap a oe D (some od) := ⟨ho, z1, by unfold PySem.W.notCls; rw [hv] <;> rfl, by rw [z2]; exact ho2⟩
    exact HandSPX.exc_get I1.kIn J T.ga T.gg T.exC (PySem.W.findObj_own T.hdC hno rfl (by rw [hl, hu])) (handed_of ru) ⟨v, H1, I1.tok _, ru, q⟩
theorem t_att {a : E} {f : Str} {cs es : List Str} {Q : VK} (hc : ∀ c ∈ cs, Cls X.K (He.ga X.K c) ∧ NoAttr X.K (He.ga X.K c) f) (he : ∀ c ∈ es, XfC X.K (He.ga X.K c) ∧ PySem.W.findIn X.K (cN X.K c) f = some none)
    (h : tE X.K cn cf W (.att a f cs es) σ H Q) : tAttX X.K f (tE X.K cn cf W a) σ H Q := by
  obtain ⟨B, G0, G, μ, S, ρ, w, er, h⟩ := h
  simp only [evE] at h
  refine tE_use w er h fun d G1 μ1 S1 H1 x l m w1 er1 r1 h1 => ?_
  replace h1 := After.bnd h1
  obtain ⟨v, hv, k⟩ := After.opt w1 h1
  have k := k G1 H1 (fun _ _ e => e) w1
  have fin : ∀ z, Rep X.K G1 μ1 z v → Q z H1 := fun z r => After.now w1 k z r
  cases r1 with
  | ref hm =>
    rename_i n a
    simp only [attO] at hv
    cases ho : S1.obj n with
    | none => rw [ho] at hv; cases hv
    | some p =>
      rw [ho] at hv
      simp only [Option.bind_some] at hv
      split at hv
      · rename_i hcc
        obtain ⟨a', dx, vfs, m', _, _, e, r⟩ := w1.objAt (obj_get ho)
        rw [hm] at m'; cases m'
        obtain ⟨u, hu, ru⟩ := r.get hv
        obtain ⟨c1, c2⟩ := hc p.1 (List.contains_iff_mem.mp hcc)
        exact .inl ⟨a, _, dx, vfs, u, rfl, e, c1, c2, hu, fin u ru⟩
      · cases hv
  | exn0 ha =>
    simp only [attO] at hv
    split at hv
    · simp at hv
    · cases hv
  | exnF ha hd hl rs =>
    simp only [attO] at hv
    split at hv
    · rename_i hcc
      obtain ⟨u, hu, ru⟩ := zip_get rs hv
      obtain ⟨c1, c2⟩ := he _ (List.contains_iff_mem.mp hcc)
      exact .inr ⟨_, _, _, _, u, rfl, c1, c2, w1.gh _ _ ha, w1.gh _ _ hd, hu, fin u ru⟩
    · cases hv
  | _ => cases hv
def IsV (K : PySem.W.Frag) (H : Hp) (x : V) (t : Value) : Prop := TyX K H x t ∨ ∃ (a D : Addr) (d : Option Addr), x = .ref a ∧ t = .ref D ∧ ExcC K D ∧ H a = some (ExK (.ref D) d a) ∧ (d = none ∨ ∃ dd fs, d = some dd ∧ H dd = some (.xd fs))
theorem call_isX : CallR X (.builtin "isinstance") (fun xs H Q => ∃ (x c : V) (t u : Value) (b : Bool), xs = [x, c] ∧ ClsV c u ∧ IsV X.K H x t ∧ PySem.W.kitOne X.K t u = some b ∧ Q (.bl b) H) := by
  intro pins s σ H xs us Q I r h
  obtain ⟨x, c, t, u, b, rfl, k, ty, e, q⟩ := h
  rcases ty with ty | ⟨a, D, d, rfl, rfl, C, ha, hd⟩
  · exact call_isi pins s σ H _ us Q I r ⟨x, c, t, u, b, rfl, k, ty, e, q⟩
  · exact call_isK (c := c) (fun w r => k.eq r) pins s σ H _ us Q I r ⟨a, D, d, b, rfl, C, ha, hd, e, q⟩
theorem inB_some {cs ds : List Str} {c : Str} {b : Bool} (h : inB cs ds c = some b) : (b = true ∧ c ∈ cs) ∨ (b = false ∧ c ∈ ds) := by
  unfold inB at h
  split at h
  · rename_i q
    cases h
    exact .inl ⟨rfl, List.contains_iff_mem.mp q⟩
  · split at h
    · rename_i q
      cases h
      exact .inr ⟨rfl, List.contains_iff_mem.mp q⟩
    · cases h
/-- the facts of a class that is asked for -/
structure Isb (K : PySem.W.Frag) (cv : Value) (cs ds : List Str) : Prop where
  yes : ∀ y ∈ cs, ExcC K (He.ga K y) ∧ PySem.W.exmOne K (cN K y) cv = some true ∧ PySem.W.kitOne K (cN K y) cv = some true
  no : ∀ y ∈ ds, ExcC K (He.ga K y) ∧ PySem.W.exmOne K (cN K y) cv = some false ∧ PySem.W.kitOne K (cN K y) cv = some false
  bt : ∀ T ∈ ["NoneType", "bool", "int", "str", "tuple", "list", "dict"], PySem.W.kitOne K (.type T) cv = some false
theorem Isb.at {K : PySem.W.Frag} {cv : Value} {cs ds : List Str} (s : Isb K cv cs ds) {c : Str} {b : Bool} (h : inB cs ds c = some b) : ExcC K (He.ga K c) ∧ PySem.W.exmOne K (cN K c) cv = some b ∧ PySem.W.kitOne K (cN K c) cv = some b := by
  rcases inB_some h with ⟨rfl, m⟩ | ⟨rfl, m⟩
  · exact s.yes c m
  · exact s.no c m
theorem t_isx {a : E} {cs ds : List Str} {c : V} {cv : Value} {Q : VK} (hk : ClsV c cv) (hs : Isb X.K cv cs ds) (h : tE X.K cn cf W (.isx a cs ds) σ H Q) :
    tCB (fun xs H Q => ∃ (x c : V) (t u : Value) (b : Bool), xs = [x, c] ∧ ClsV c u ∧ IsV X.K H x t ∧ PySem.W.kitOne X.K t u = some b ∧ Q (.bl b) H) (tCons (tE X.K cn cf W a) (tCons (L2.tC c) tNil)) σ H Q := by
  obtain ⟨B, G0, G, μ, S, ρ, w, er, h⟩ := h
  simp only [evE] at h
  refine tE_use w er h fun d G1 μ1 S1 H1 x l m w1 er1 r1 h1 => ?_
  replace h1 := After.bnd h1
  obtain ⟨b, hb, k⟩ := After.opt w1 h1
  have k := After.now w1 (k G1 H1 (fun _ _ e => e) w1) (.bl b) (.bl b)
  cases r1 with
  | non => simp only [isxO, Option.some.injEq] at hb; subst hb; exact ⟨_, c, _, cv, false, rfl, hk, .inl (.base .non), hs.bt "NoneType" (by simp), k⟩
  | bl t => simp only [isxO, Option.some.injEq] at hb; subst hb; exact ⟨_, c, _, cv, false, rfl, hk, .inl (.base (.bl t)), hs.bt "bool" (by simp), k⟩
  | int t => simp only [isxO, Option.some.injEq] at hb; subst hb; exact ⟨_, c, _, cv, false, rfl, hk, .inl (.base (.int t)), hs.bt "int" (by simp), k⟩
  | str t => simp only [isxO, Option.some.injEq] at hb; subst hb; exact ⟨_, c, _, cv, false, rfl, hk, .inl (.base (.str t)), hs.bt "str" (by simp), k⟩
  | lst e r => simp only [isxO, Option.some.injEq] at hb; subst hb; exact ⟨_, c, _, cv, false, rfl, hk, .inl (.base (.lst (w1.gh _ _ e))), hs.bt "list" (by simp), k⟩
  | dct0 e => simp only [isxO, Option.some.injEq] at hb; subst hb; exact ⟨_, c, _, cv, false, rfl, hk, .inl (.base (.dK (w1.gh _ _ e))), hs.bt "dict" (by simp), k⟩
  | tup e r =>
    simp only [isxO, Option.some.injEq] at hb
    subst hb
    refine ⟨_, c, _, cv, false, rfl, hk, .inl ?_, hs.bt "tuple" (by simp), k⟩
    exact (see_ty w1 (t := .tup) (b := true) (.tup e r) rfl)
  | exn0 e =>
    simp only [isxO] at hb
    obtain ⟨c1, _, c2⟩ := hs.at hb
    exact ⟨_, c, _, cv, b, rfl, hk, .inr ⟨_, _, none, rfl, rfl, c1, w1.gh _ _ e, .inl rfl⟩, c2, k⟩
  | exnF e e2 hl rs =>
    simp only [isxO] at hb
    obtain ⟨c1, _, c2⟩ := hs.at hb
    exact ⟨_, c, _, cv, b, rfl, hk, .inr ⟨_, _, _, rfl, rfl, c1, w1.gh _ _ e, .inr ⟨_, _, rfl, w1.gh _ _ e2⟩⟩, c2, k⟩
  | ref _ => cases hb
  | scr _ => cases hb
/-- what a call makes of what it gives, read at once -/
theorem After.cut {K : PySem.W.Frag} {B G0 G : Hp} {μ : Mu} {W : L2.WX} {σ : L2.St} {r : R Fv} {P : Fv → Hp → Mu → Store → Hp → Prop} (h : After K cn B G0 G μ σ W r P) : After K cn B G0 G μ [] (fun cl dd _ H' => W cl dd σ H') r P := by
  cases r with
  | ok v S2 => exact h
  | exc x S2 => exact h
  | bad => exact h
theorem t_mth {c m k : Str} {np : Nat} {a : E} {es : Es} {Q : VK} (hl : ∀ ρ S ds S', evEs cf es ρ S = .ok ds S' → ds.length = np) (h : tE X.K cn cf W (.mth c m k a es) σ H Q) :
    tMeth (He.ga X.K c) m (spOf X.K cn cf k (np + 1)) [] (WE W σ) (tE X.K cn cf W a) (tEs X.K cn cf W es) σ H Q := by
  obtain ⟨B, G0, G, μ, S, ρ, w, er, h⟩ := h
  simp only [evE] at h
  refine tE_use w er h fun d G1 μ1 S1 H1 x l mm w1 er1 r1 h1 => ?_
  replace h1 : After X.K cn B G0 G1 μ1 σ W (if isObjN S1 d c m = true then M.bnd (evEs cf es ρ) (fun ds => cf k (d :: ds)) S1 else .bad) _ := h1
  split at h1
  · rename_i ho
    cases r1 with
    | ref hm =>
      rename_i n p
      simp only [isObjN] at ho
      cases ho' : S1.obj n with
      | none => rw [ho'] at ho; cases ho
      | some q =>
        rw [ho'] at ho
        simp only [Bool.and_eq_true, decide_eq_true_eq] at ho
        obtain ⟨rfl, hno⟩ := ho
        obtain ⟨a', dx, vfs, m', _, _, e, r⟩ := w1.objAt (obj_get ho')
        rw [hm] at m'; cases m'
        refine ⟨p, dx, vfs, rfl, e, r.none (Option.isNone_iff_eq_none.mp hno), ?_⟩
        refine ⟨B, G0, G1, μ1, S1, ρ, w1, er1, ?_⟩
        have hb := After.bnd h1
        cases e2 : evEs cf es ρ S1 with
        | ok ds S2 =>
          rw [e2] at hb
          intro G2 μ2 H2 l2 m2 w2 vs rs
          refine ⟨by show (vs ++ []).length + 1 = _; rw [List.append_nil, rs.len, hl _ _ _ _ e2], B, G0, G2, μ2, S2, .ref n :: ds, w2, .cons (.ref (m2 _ _ hm)) (by rw [List.append_nil]; exact rs), ?_⟩
          exact (hb G2 μ2 H2 l2 m2 w2).cut
        | exc x S2 => rw [e2] at hb; exact hb
        | bad => rw [e2] at hb; exact hb
    | _ => cases ho
  · exact h1.elim
theorem t_prp {c k : Str} {a : E} {Q : VK} (h : tE X.K cn cf W (.prp c k a) σ H Q) : tProp (He.ga X.K c) (spOf X.K cn cf k 1) [] (fun _ _ _ => False) (tE X.K cn cf W a) σ H Q := by
  obtain ⟨B, G0, G, μ, S, ρ, w, er, h⟩ := h
  simp only [evE] at h
  refine tE_use w er h fun d G1 μ1 S1 H1 x l mm w1 er1 r1 h1 => ?_
  replace h1 : After X.K cn B G0 G1 μ1 σ W (if isObj S1 d c = true then bareM (cf k [d]) S1 else .bad) _ := h1
  split at h1
  · rename_i ho
    cases r1 with
    | ref hm =>
      rename_i n p
      simp only [isObj] at ho
      cases ho' : S1.obj n with
      | none => rw [ho'] at ho; cases ho
      | some q =>
        rw [ho'] at ho
        simp only [decide_eq_true_eq] at ho
        subst ho
        obtain ⟨a', dx, vfs, m', _, _, e, r⟩ := w1.objAt (obj_get ho')
        rw [hm] at m'; cases m'
        exact ⟨p, dx, vfs, rfl, e, rfl, B, G0, G1, μ1, S1, [.ref n], w1, .cons (.ref hm) .nil, (h1.bare (σ' := σ)).cut⟩
    | _ => cases ho
  · exact h1.elim
theorem t_new {c k : Str} {np : Nat} {es : Es} {Q : VK} (hl : ∀ ρ S ds S', evEs cf es ρ S = .ok ds S' → ds.length = np) (h : tE X.K cn cf W (.new c k es) σ H Q) :
    tMakeX (He.ga X.K c) (spOf X.K cn cf k (np + 1)) (WE W) (tEs X.K cn cf W es) σ H Q := by
  obtain ⟨B, G0, G, μ, S, ρ, w, er, h⟩ := h
  simp only [evE] at h
  refine ⟨B, G0, G, μ, S, ρ, w, er, ?_⟩
  have hb := After.bnd h
  cases e2 : evEs cf es ρ S with
  | ok ds S2 =>
    rw [e2] at hb
    intro G2 μ2 H2 l2 m2 w2 vs rs x dx hx hdx ne
    obtain ⟨G3, μ3, l3, m3, w3, r3⟩ := w2.newO (c := c) hx hdx ne
    refine ⟨by show vs.length + 1 = _; rw [rs.len, hl _ _ _ _ e2], B, G0, G3, μ3, _, .ref S2.nx :: ds, w3, .cons r3 (rs.up l3 m3), ?_⟩
    have h3 := hb G2 μ2 H2 l2 m2 w2
    replace h3 : After X.K cn B G0 G2 μ2 σ W (M.bnd (cf k (.ref S2.nx :: ds)) _ (S2.new (.obj c []))) _ := h3
    have h4 := (After.bnd h3)
    revert h4
    cases cf k (.ref S2.nx :: ds) (S2.new (.obj c [])) with
    | ok v S4 =>
      intro h4 G5 μ5 H5 l5 m5 w5 z f
      have h5 := h4 G5 μ5 H5 (fun a o q => l5 a o (l3 a o q)) (fun n a q => m5 n a (m3 n a q)) w5
      cases v with
      | nw xs => exact h5.elim
      | fz d =>
        cases d with
        | non =>
          cases f
          refine ⟨rfl, After.now w5 h5 (.ref x) ?_⟩
          exact r3.up l5 m5
        | _ => exact h5.elim
    | exc y S4 => exact fun h4 G5 μ5 H5 cl dd l5 m5 w5 ex => h4 G5 μ5 H5 cl dd (fun a o q => l5 a o (l3 a o q)) (fun n a q => m5 n a (m3 n a q)) w5 ex
    | bad => exact fun h4 => h4
  | exc x S2 => rw [e2] at hb; exact hb
  | bad => rw [e2] at hb; exact hb
theorem t_xmk0 {c : Str} {Q : VK} (h : tE X.K cn cf W (.xmk c [] .nil) σ H Q) : ∀ a, H a = none → Q (.ref a) (upd H a (ExK (cN X.K c) none a)) := by
  obtain ⟨B, G0, G, μ, S, ρ, w, er, h⟩ := h
  simp only [evE, evEs] at h
  intro a ha
  obtain ⟨w2, le, gp⟩ := w.newG (o := ExK (cN X.K c) none a) ha
  exact h _ μ _ le (fun _ _ e => e) w2 (.ref a) (.exn0 upd_same)
theorem t_xmkN {c : Str} {np : Nat} {es : Es} {Q : VK} (hl : ∀ ρ S ds S', evEs cf es ρ S = .ok ds S' → ds.length = np) (hn : np ≤ 900) (h : tE X.K cn cf W (.xmk c [] es) σ H Q) :
    tEs X.K cn cf W es σ H fun vs H1 => vs.length ≤ 900 ∧ ∀ a, H1 a = none → Q (.ref a) (upd H1 a (ExK (cN X.K c) none a)) := by
  obtain ⟨B, G0, G, μ, S, ρ, w, er, h⟩ := h
  simp only [evE] at h
  refine ⟨B, G0, G, μ, S, ρ, w, er, ?_⟩
  have hb := After.bnd h
  cases e2 : evEs cf es ρ S with
  | ok ds S2 =>
    rw [e2] at hb
    intro G2 μ2 H2 l2 m2 w2 vs rs
    refine ⟨by rw [rs.len, hl _ _ _ _ e2]; exact hn, fun a ha => ?_⟩
    have h3 := hb G2 μ2 H2 l2 m2 w2
    obtain ⟨w3, le, gp⟩ := w2.newG (o := ExK (cN X.K c) none a) ha
    dsimp only at h3
    split at h3
    · exact h3 _ μ2 _ le (fun _ _ e => e) w3 (.ref a) (.exn0 upd_same)
    · exact h3.elim
  | exc x S2 => rw [e2] at hb; exact hb
  | bad => rw [e2] at hb; exact hb
theorem t_xmkF {c f : Str} {fs : List Str} {es : Es} {Q : VK} (hl : ∀ ρ S ds S', evEs cf es ρ S = .ok ds S' → ds.length = (f :: fs).length) (h : tE X.K cn cf W (.xmk c (f :: fs) es) σ H Q) :
    tXi (He.ga X.K c) (f :: fs) (tEs X.K cn cf W es) σ H Q := by
  obtain ⟨B, G0, G, μ, S, ρ, w, er, h⟩ := h
  simp only [evE] at h
  refine ⟨B, G0, G, μ, S, ρ, w, er, ?_⟩
  have hb := After.bnd h
  cases e2 : evEs cf es ρ S with
  | ok ds S2 =>
    rw [e2] at hb
    intro G2 μ2 H2 l2 m2 w2 vs rs
    have hvl : vs.length = (f :: fs).length := by rw [rs.len, hl _ _ _ _ e2]
    refine ⟨hvl, fun a dx ha hdx ne => ?_⟩
    have h3 := hb G2 μ2 H2 l2 m2 w2
    obtain ⟨w3, le3, gp3⟩ := w2.newG (o := .xd ((f :: fs).zip vs)) hdx
    have ha' : upd H2 dx (.xd ((f :: fs).zip vs)) a = none := by rw [upd_ne (Ne.symm ne)]; exact ha
    obtain ⟨w4, le4, gp4⟩ := w3.newG (o := ExK (.ref (He.ga X.K c)) (some dx) a) ha'
    dsimp only at h3
    split at h3
    · rw [if_neg (by simp), if_pos (hl _ _ _ _ e2).symm] at h3
      refine h3 _ μ2 _ (fun b o q => le4 b o (le3 b o q)) (fun _ _ e => e) w4 (.ref a) ?_
      exact .exnF upd_same (le4 _ _ upd_same) hvl.symm (rs.up (fun b o q => le4 b o (le3 b o q)) fun _ _ e => e)
    · exact h3.elim
  | exc x S2 => rw [e2] at hb; exact hb
  | bad => rw [e2] at hb; exact hb
/-- list.count -/
theorem t_mct {a b : E} {Q : VK} (h : tE X.K cn cf W (.mct a b) σ H Q) : tBM X.K "list" (rMt X.K .count) (tE X.K cn cf W a) (tCons (tE X.K cn cf W b) tNil) σ H Q := by
  obtain ⟨B, G0, G, μ, S, ρ, w, er, h⟩ := h
  simp only [evE] at h
  refine tE_use w er h fun d G1 μ1 S1 H1 x l m w1 er1 r1 h1 => ?_
  cases r1 with
  | @lst p ys xs hp rs =>
    refine ⟨.inl ⟨rfl, _, SqL.of (w1.gh _ _ hp)⟩, tE_use w1 er1 h1 fun d G2 μ2 S2 H2 y l2 m2 w2 er2 r2 h2 => ?_⟩
    obtain ⟨v, hv, k⟩ := After.opt w2 h2
    exact ⟨B, G0, G2, μ2, S2, [.lst xs, d], v, w2, .cons (.lst (l2 _ _ hp) (rs.up l2 m2)) (.cons r2 .nil), hv, fun z G' H' l' w' f => k G' H' l' w' z f⟩
  | _ => exact h1.elim
end
end Pe
set_option Elab.async false
set_option linter.all false
set_option maxRecDepth 100000
set_option maxHeartbeats 4000000
namespace Pe
open PySem PySem.Spec PyProof.Rows L2
theorem meth_form {o : Expr} {m : Str} {apos pos : Pos} {args : List Expr} {env : Env} (hbase : attributeBase o m env (eval o env) = eval o env)
    (hfew : methodCallForm (args.length + ([] : List Keyword).length) (backTo pos (starEach args env)) (backToKw pos (keywordEach [] env)) = true) (hline : (apos.endLine == pos.line) = true) :
    eval (.Call (.Attribute o m apos) args [] pos) env = (do
      let ov ← eval o env
      standAt apos.atName
      let (f, first) ← holding [ov] (getMethod ov m (do return (← importBound o env).getD true))
      callWith pos f first (backTo pos (starEach args env)) (backToKw pos (keywordEach [] env))) := by
  have hpos : methodCallPos true o env apos pos = pure pos := by unfold methodCallPos; simp [hline]
  rw [arm_eval_Call, hbase]
  unfold methodCall
  simp only [hfew, hpos]
  rfl
section
variable {c : Cc} {lv : Nat} {cn : Cn} {cf : Cf} {W : L2.WX} {sc so : Scope} {X : Cx}
theorem pe_callS0 {CX : CXT} {k : Nat} {f : Addr} {fd : FuncData} {ps : List Str} {sp : Sp} {E : L2.St → XK} {x : Str} {p pos : Pos} (F : FnOk X.prog X.w X.K X.mg X.base CX k f fd ps sp) (hr : Room k X.A) (hg : Gl X x) (hm : X.mg x = some (.ref f)) (hk : PySem.W.keepIn X.K (.ref f) = true) (hb : Binds X.K fd ps []) (hx : ∀ σ, PassesAt CX X σ (E σ))
    (hdb : (x == ("__debug__" : Str)) = false) : PE X (.Call (.Name x p) [] [] pos) (tCallS sp E tNil) := by
  refine ⟨fun pins s σ H Q I h => ?_⟩
  refine wpAny_Call_Name_kw (ld_glob I hg hm ?_ hdb)
  exact PySem.W.callWith_K0 I.kIn hk (run_fnS (us := []) F hr hb (hx σ) I .nil h)
theorem nil_len {ρ : En} {S : Store} {ds : List D} {S' : Store} (h : evEs cf .nil ρ S = .ok ds S') : ds.length = 0 := by
  simp only [evEs, M.ret, R.ok.injEq] at h
  rw [← h.1]; rfl
theorem t_nilE {σ : L2.St} {H : Hp} {Q : List V → Hp → Prop} (h : tEs X.K cn cf W .nil σ H Q) : tNil σ H Q := t_nil h
theorem pe_cCls (g : Gd c lv cn cf W sc so X) {r : Expr → E} (hr : AllOk cn cf W X r) {f : Str} {args : List Expr} {p pos : Pos} {m : E} (h : cCls r c sc f args = some m) : PE X (.Call (.Name f p) args [] pos) (tE X.K cn cf W m) := by
  unfold cCls at h
  split at h
  · rename_i k np hn
    split at h
    · rename_i hc
      simp only [Bool.and_eq_true] at hc
      split at h
      · rename_i hl
        cases h
        obtain ⟨fa, fd, ps, hm, M, hps, hb, F⟩ := g.kl.new f k np hn
        cases args with
        | nil =>
          refine pe_imp (pe_makeX0 M F g.room (g.gl hc.1).1 hm hb (fun σ => passAt g.tk σ) (g.gl hc.1).2.1) fun σ H Q q => ?_
          have q' := t_new (fun ρ S ds S' hh => (cEs_len (es := []) rfl hh).trans hl) q
          exact t_nilE q'
        | cons e es =>
          have hn' := hc.2
          unfold nost at hn'
          simp only [List.all_cons, Bool.and_eq_true, Bool.not_eq_true'] at hn'
          have hs := star_cons (X := X) (r := es) hn'.1
          have hp : (backTo pos (starEach es X.env)).any (·.1) = false := by rw [back_any]; exact nost_each (by unfold nost; exact hn'.2)
          exact pe_imp (pe_makeX M F g.room (g.gl hc.1).1 hm hb (fun σ => passAt g.tk σ) (pa_ok hr _) (g.gl hc.1).2.1 hs hp) fun σ H Q q => t_new (fun ρ S ds S' hh => (cEs_len hc.2 hh).trans hl) q
      · cases h; exact pe_no
    · cases h; exact pe_no
  · split at h
    · rename_i ns hn
      split at h
      · rename_i hc
        simp only [Bool.and_eq_true, Bool.or_eq_true, decide_eq_true_eq] at hc
        obtain ⟨⟨⟨h1, h2⟩, h3⟩, h4⟩ := hc
        cases h
        have hlen : ∀ ρ S ds S', evEs cf (cEs r args) ρ S = .ok ds S' → ds.length = args.length := fun ρ S ds S' hh => cEs_len h2 hh
        cases ns with
        | nil =>
          obtain ⟨e1, e2, e3, e4, e5⟩ := g.kl.exc f hn
          cases args with
          | nil => exact pe_imp (pe_xv0 PySem.F.excBase_ValueError e2 e1 e3 (g.gl h1).1 (g.gl h1).2.1) fun σ H Q q => t_xmk0 q
          | cons e es =>
            have hn' := h2
            unfold nost at hn'
            simp only [List.all_cons, Bool.and_eq_true, Bool.not_eq_true'] at hn'
            have hs := star_cons (X := X) (r := es) hn'.1
            have hp : (backTo pos (starEach es X.env)).any (·.1) = false := by rw [back_any]; exact nost_each (by unfold nost; exact hn'.2)
            exact pe_imp (pe_xvN PySem.F.excBase_ValueError e2 e1 e3 (g.gl h1).1 (pa_ok hr _) hs hp (g.gl h1).2.1) fun σ H Q q => t_xmkN hlen h3 q
        | cons a as =>
          obtain ⟨file, e1, T, e3, px⟩ := g.kl.exf f a as hn
          have h4 : args.length = (a :: as).length := by
            rcases h4 with q | q
            · cases q
            · exact q
          cases args with
          | nil => cases h4
          | cons e es =>
            have hn' := h2
            unfold nost at hn'
            simp only [List.all_cons, Bool.and_eq_true, Bool.not_eq_true'] at hn'
            have hs := star_cons (X := X) (r := es) hn'.1
            have hp : (backTo pos (starEach es X.env)).any (·.1) = false := by rw [back_any]; exact nost_each (by unfold nost; exact hn'.2)
            exact pe_imp (pe_xi T px (g.room.mono (Nat.le_add_left _ _)) e3 (g.gl h1).1 e1 (pa_ok hr _) (g.gl h1).2.1 hs hp) fun σ H Q q => t_xmkF (fun ρ S ds S' hh => (hlen ρ S ds S' hh).trans h4) q
      · cases h; exact pe_no
    · split at h
      · rename_i np ht
        split at h
        · rename_i hc
          simp only [Bool.and_eq_true, decide_eq_true_eq] at hc
          obtain ⟨⟨rfl, he⟩, hg⟩ := hc
          cases h
          have := List.isEmpty_iff.mp he
          subst this
          obtain ⟨a, fd, ps, hm, hk, hps, hb, F⟩ := g.fns.fn f 0 ht
          exact pe_imp (pe_callS0 F (g.room.mono (Nat.le_succ _)) (g.gl hg).1 hm hk hb (fun σ => passAt g.tk σ) (g.gl hg).2.1) fun σ H Q q => t_nilE (t_call (fun ρ S ds S' hh => nil_len hh) q)
        · cases h
      · split at h
        · rename_i a t pt
          split at h
          · rename_i cs ds hsub
            split at h
            · rename_i hc
              simp only [Bool.and_eq_true, decide_eq_true_eq, Bool.not_eq_true'] at hc
              obtain ⟨⟨⟨⟨rfl, h2⟩, h3⟩, h4⟩, h5⟩ := hc
              cases h
              obtain ⟨cv, u, hk, hrel, hm, hy, hn, hbt⟩ := g.kl.sub t cs ds hsub
              have hi : bootBuiltins sIsi = some (.builtin "isinstance") := by decide +kernel
              obtain ⟨b1, b2, b3, b4⟩ := g.free h2 hi
              have hst : starEach [a, .Name t pt] X.env = (false, eval a X.env) :: starEach [.Name t pt] X.env := star_cons h3
              have hg := g.gl h4
              have pt' : PE X (.Name t pt) (L2.tC cv) := by
                rcases hm with hm | ⟨hm, hv⟩
                · exact pe_glob hg.1 hm hrel hg.2.1
                · exact pe_bltn hg.1 hm hv hrel hg.2.2 hg.2.1
              exact pe_imp (pe_callB call_isX b1 b2 hi (pa_cons (hr a).1 (pa_cons pt' pa_nil rfl) hst) b4 b3 hst rfl) fun σ H Q q => t_isx hk ⟨hy, hn, hbt⟩ q
            · cases h; exact pe_no
          · cases h
        · cases h
theorem pe_cMth (g : Gd c lv cn cf W sc so X) {r : Expr → E} (hr : AllOk cn cf W X r) {o : Expr} {m : Str} {args : List Expr} {ap cp : Pos} {e : E} (h : cMth r c o m ap cp args = some e) : PE X (.Call (.Attribute o m ap) args [] cp) (tE X.K cn cf W e) := by
  unfold cMth at h
  split at h
  · rename_i C k np hm
    split at h
    · rename_i hc
      simp only [Bool.and_eq_true, decide_eq_true_eq] at hc
      obtain ⟨⟨⟨⟨h1, h2⟩, h3⟩, h4⟩, h5⟩ := hc
      cases h
      obtain ⟨f, fd, ps, cl, M, hps, hb, F⟩ := g.kl.mth m C k np hm
      have hall : (backTo cp (starEach args X.env)).all (fun x => !x.1) = true := by
        have q : (backTo cp (starEach args X.env)).any (·.1) = false := by rw [back_any]; exact nost_each h3
        rw [List.all_eq_true]
        intro x hx
        rw [List.any_eq_false] at q
        simpa using q x hx
      have hfew : methodCallForm (args.length + ([] : List Keyword).length) (backTo cp (starEach args X.env)) (backToKw cp (keywordEach [] X.env)) = true := by
        unfold methodCallForm
        simp only [hall, List.length_nil, Nat.add_zero, Bool.true_and]
        have e1 : (backToKw cp (keywordEach [] X.env)) = [] := rfl
        rw [e1]
        simp only [List.all_nil, List.isEmpty_nil, if_true, Nat.add_zero, Bool.true_and, decide_eq_true_eq]
        omega
      cases args with
      | nil =>
        refine pe_imp (pe_methX0 (hr o).1 cl M F (g.room.mono (Nat.le_succ _)) hb (fun σ => passAt g.tk σ) (meth_form (sup_base h1) hfew h2)) fun σ H Q q => ?_
        obtain ⟨B, G0, G, μ, S, ρ, w, er, q'⟩ := t_mth (fun ρ S ds S' hh => (cEs_len (es := []) rfl hh).trans h4) q
        refine ⟨B, G0, G, μ, S, ρ, w, er, q'.imp fun v G' μ' S' H' l m w' hh z f => ?_⟩
        obtain ⟨a, dx, fs, e1, e2, e3, e4⟩ := hh z f
        exact ⟨a, dx, fs, e1, e2, e3, t_nilE e4⟩
      | cons a as =>
        have hn' := h3
        unfold nost at hn'
        simp only [List.all_cons, Bool.and_eq_true, Bool.not_eq_true'] at hn'
        have hs := star_cons (X := X) (r := as) hn'.1
        have hp : (backTo cp (starEach as X.env)).any (·.1) = false := by rw [back_any]; exact nost_each (by unfold nost; exact hn'.2)
        exact pe_imp (pe_methX (hr o).1 cl M F (g.room.mono (Nat.le_succ _)) hb (fun σ => passAt g.tk σ) (pa_ok hr _) hs hp (meth_form (sup_base h1) hfew h2)) fun σ H Q q => t_mth (fun ρ S ds S' hh => (cEs_len h3 hh).trans h4) q
    · cases h; exact pe_no
  · split at h
    · rename_i hk
      simp only [decide_eq_true_eq] at hk
      subst hk
      split at h
      · rename_i a
        split at h
        · rename_i hc
          simp only [Bool.and_eq_true, Bool.not_eq_true'] at hc
          obtain ⟨⟨h1, h2⟩, h3⟩ := hc
          cases h
          have hst : starEach [a] X.env = [(false, eval a X.env)] := star_cons (r := []) h3
          have e1 : sCount = ("count" : Str) := by decide +kernel
          rw [e1]
          exact pe_imp (pe_bm F.plainAttrs_list F.slot_list_count F.type_list_count m_count (hr o).1 (pa_cons (hr a).1 pa_nil hst) (sup_base h1) (by rw [hst]; rfl) h2 hst rfl) fun σ H Q q => t_mct q
        · cases h; exact pe_no
      · cases h; exact pe_no
    · cases h
theorem pe_cAtt (g : Gd c lv cn cf W sc so X) {r : Expr → E} (hr : AllOk cn cf W X r) {o : Expr} {f : Str} {pos : Pos} : PE X (.Attribute o f pos) (tE X.K cn cf W (cAtt r c o f)) := by
  unfold cAtt
  split
  · rename_i hb
    split
    · rename_i C k hp
      obtain ⟨p, gg, fd, ps, cl, P, hps, hbd, F⟩ := g.kl.prp f C k hp
      exact pe_imp (pe_prop (E := fun _ _ _ => False) (hr o).1 cl P F g.room hbd .nil (fun _ _ _ _ _ _ _ ⟨_, _, _, _, _, _, _, _, _, _, _, _, z⟩ => z) (sup_base hb)) fun σ H Q q => t_prp q
    · split
      · rename_i cs es ha
        obtain ⟨h1, h2⟩ := g.kl.att f cs es ha
        exact pe_imp (pe_attX (hr o).1 (sup_base hb)) fun σ H Q q => t_att h1 h2 q
      · exact pe_no
  · exact pe_no
end
end Pe
set_option Elab.async false
set_option linter.all false
set_option maxRecDepth 100000
set_option maxHeartbeats 4000000
namespace Pe
open PySem PySem.Spec PyProof.Rows L2
abbrev NoE : Value → Shared → Prop := fun _ _ => False
/-- what stands inside a clause, run from a state, ends in K -/
abbrev Bd := (Shared → Prop) → Shared → Prop
section
variable (prog : Program) (w : World) (A : Around) (env : Env) (lc : Expr)
def BdOut (k : Nat) (i1 : Expr) (acc : Value) : Bd := fun K s => wpAny (model prog w) A (eval i1 env) (fun x s₄ => wpAny (model prog w) A (pyIter x) (fun it1 s₅ =>
  codeAny (model prog w) A (.compStart lc k it1 acc env) (fun r s' => match r with
    | .ok _ => K s'
    | .error _ => False) s₅) NoE s₄) NoE s
def BdIn (elt : Expr) (acc : Value) : Bd := fun K s => wpAny (model prog w) A (eval elt env) (fun x s₄ => wpAny (model prog w) A (call (.builtin "list.append") [acc, x]) (fun _ s₅ => K s₅) NoE s₄) NoE s
def TurnRule (k : Nat) (t : Expr) (ifs : List Expr) (acc : Value) (BODY : Bd) : Prop :=
  ∀ (it : Value) (R : Result → Shared → Prop) (I : Nat → Shared → Prop),
    (∀ n s, I n s → wpAny (model prog w) A (pyNext it) (fun r s₁ => match r with
      | none => R (.ok .next) s₁
      | some v => wpAny (model prog w) A (letOwnedTupleGo t it v) (fun _ s₁' => wpAny (model prog w) A (assign t env v) (fun _ s₂ =>
          wpAny (model prog w) A (forIn ifs true fun c r => if r = true then do let ok ← isTrue c env (eval c env); pure (ForInStep.yield ok) else pure (ForInStep.yield r)) (fun ok s₃ =>
            if ok = true then BODY (fun s' => ∃ m, m < n ∧ I m s') s₃ else ∃ m, m < n ∧ I m s₃) NoE s₂) NoE s₁') NoE s₁) NoE s) →
    ∀ n s, I n s → codeAny (model prog w) A (.compLoop lc k it acc env) R s
end
section
variable {prog : Program} {w : World} {A : Around} {env : Env} {t0 i1 elt : Expr} {ifs0 : List Expr} {gs : List Comprehension} {scope : Scope} {pos : Pos} {acc : Value} {k : Nat} {p0 p1 : Pos}
theorem turn_out (hs : ∀ x, foldedSetIterable i1 env x = pure x)
    (heq : ∀ it, compTurn (.ListComp elt gs scope pos) k it acc env = (do
      standAt p0
      match ← pyNext it with
      | none => pure (.done .next)
      | some v =>
        letOwnedTupleGo t0 it v
        assign t0 env v
        let mut ok := true
        for c in ifs0 do
          if ok then ok ← isTrue c env (eval c env)
        if ok then
          let x ← eval i1 env
          standAt p1
          let x ← foldedSetIterable i1 env x
          let _ ← runOwn (.compStart (.ListComp elt gs scope pos) (k + 1) (← holding [x] (pyIter x)) acc env) env
        again (.compLoop (.ListComp elt gs scope pos) k it acc env))) :
    TurnRule prog w A env (.ListComp elt gs scope pos) k t0 ifs0 acc (BdOut prog w A env (.ListComp elt gs scope pos) (k + 1) i1 acc) := by
  intro it R I turn n s h
  refine codeAny_loop rfl I (fun n s hI => ?_) n h
  show wpAny _ A ((compTurn (.ListComp elt gs scope pos) k it acc env).onRaise (fun x => do noteFrame x env; theTreesLotGoes x)) _ _ s
  refine wpAny_noted ?_
  rw [heq]
  refine wpAny_bind (wpAny_standAt (wpAny_bind (wpAny_mono (turn n s hI) (fun r s₁ h₁ => ?_) fun _ _ z => z.elim)))
  cases r with
  | none => exact wpAny_pure h₁
  | some v =>
    refine wpAny_bind (wpAny_mono h₁ (fun _ s₁' h₁' => ?_) fun _ _ z => z.elim)
    refine wpAny_bind (wpAny_mono h₁' (fun _ s₂ h₂ => wpAny_bind (wpAny_mono h₂ (fun ok s₃ h₃ => ?_) fun _ _ z => z.elim)) fun _ _ z => z.elim)
    cases ok with
    | false => exact wpAny_pure ⟨rfl, h₃⟩
    | true =>
      refine wpAny_bind (wpAny_mono h₃ (fun x s₄ h₄ => ?_) fun _ _ z => z.elim)
      refine wpAny_bind (wpAny_standAt (wpAny_bind (wpAny_of_eq (hs x) (wpAny_bind (wpAny_holding (wpAny_mono h₄ (fun it1 s₅ h₅ => ?_) fun _ _ z => z.elim))))))
      refine wpAny_bind (wpAny_runOwn ?_)
      rw [Around.mark_none]
      refine codeAny_mono h₅ fun r s' hr => ?_
      cases r with
      | ok f =>
        first
          | exact wpAny_pure ⟨rfl, hr⟩
          | exact wpAny_bind (wpAny_pure (wpAny_pure ⟨rfl, hr⟩))
      | error e => exact hr.elim
theorem turn_in
    (heq : ∀ it, compTurn (.ListComp elt gs scope pos) k it acc env = (do
      standAt p0
      match ← pyNext it with
      | none => pure (.done .next)
      | some v =>
        letOwnedTupleGo t0 it v
        assign t0 env v
        let mut ok := true
        for c in ifs0 do
          if ok then ok ← isTrue c env (eval c env)
        if ok then
          (do let _ ← call (.builtin "list.append") [acc, ← eval elt env])
        again (.compLoop (.ListComp elt gs scope pos) k it acc env))) :
    TurnRule prog w A env (.ListComp elt gs scope pos) k t0 ifs0 acc (BdIn prog w A env elt acc) := by
  intro it R I turn n s h
  refine codeAny_loop rfl I (fun n s hI => ?_) n h
  show wpAny _ A ((compTurn (.ListComp elt gs scope pos) k it acc env).onRaise (fun x => do noteFrame x env; theTreesLotGoes x)) _ _ s
  refine wpAny_noted ?_
  rw [heq]
  refine wpAny_bind (wpAny_standAt (wpAny_bind (wpAny_mono (turn n s hI) (fun r s₁ h₁ => ?_) fun _ _ z => z.elim)))
  cases r with
  | none => exact wpAny_pure h₁
  | some v =>
    refine wpAny_bind (wpAny_mono h₁ (fun _ s₁' h₁' => ?_) fun _ _ z => z.elim)
    refine wpAny_bind (wpAny_mono h₁' (fun _ s₂ h₂ => wpAny_bind (wpAny_mono h₂ (fun ok s₃ h₃ => ?_) fun _ _ z => z.elim)) fun _ _ z => z.elim)
    cases ok with
    | false => exact wpAny_pure ⟨rfl, h₃⟩
    | true => exact wpAny_bind (wpAny_bind (wpAny_mono h₃ (fun x s₄ h₄ => wpAny_bind (wpAny_mono h₄ (fun _ s₅ h₅ => wpAny_pure (wpAny_pure ⟨rfl, h₅⟩)) fun _ _ z => z.elim)) fun _ _ z => z.elim))
end
section
variable {prog : Program} {w : World} {A : Around} {env : Env} {t0 i0 t1 i1 t2 i2 elt : Expr} {ifs0 ifs1 ifs2 : List Expr} {scope : Scope} {pos : Pos} {acc it : Value} {R : Result → Shared → Prop} {s : Shared}
abbrev lc3 (elt t0 i0 t1 i1 t2 i2 : Expr) (ifs0 ifs1 ifs2 : List Expr) (scope : Scope) (pos : Pos) : Expr := .ListComp elt [⟨t0, i0, ifs0, 0⟩, ⟨t1, i1, ifs1, 0⟩, ⟨t2, i2, ifs2, 0⟩] scope pos
theorem turn3_0 (hs : ∀ x, foldedSetIterable i1 env x = pure x) : TurnRule prog w A env (lc3 elt t0 i0 t1 i1 t2 i2 ifs0 ifs1 ifs2 scope pos) 0 t0 ifs0 acc (BdOut prog w A env (lc3 elt t0 i0 t1 i1 t2 i2 ifs0 ifs1 ifs2 scope pos) 1 i1 acc) :=
  turn_out (p0 := i0.pos) (p1 := i1.pos) hs fun it => by rfl
theorem turn3_1 (hs : ∀ x, foldedSetIterable i2 env x = pure x) : TurnRule prog w A env (lc3 elt t0 i0 t1 i1 t2 i2 ifs0 ifs1 ifs2 scope pos) 1 t1 ifs1 acc (BdOut prog w A env (lc3 elt t0 i0 t1 i1 t2 i2 ifs0 ifs1 ifs2 scope pos) 2 i2 acc) :=
  turn_out (p0 := i1.pos) (p1 := i2.pos) hs fun it => by rfl
theorem turn3_2 : TurnRule prog w A env (lc3 elt t0 i0 t1 i1 t2 i2 ifs0 ifs1 ifs2 scope pos) 2 t2 ifs2 acc (BdIn prog w A env elt acc) :=
  turn_in (p0 := i2.pos) fun it => by rfl
theorem start3_1 (h0 : codeAny (model prog w) A (.compLoop (lc3 elt t0 i0 t1 i1 t2 i2 ifs0 ifs1 ifs2 scope pos) 1 it acc env) R s)
    (h : wpAny (model prog w) A (pyIter it) (fun it' s' => codeAny (model prog w) A (.compLoop (lc3 elt t0 i0 t1 i1 t2 i2 ifs0 ifs1 ifs2 scope pos) 1 it' acc env) R s') NoE s) :
    codeAny (model prog w) A (.compStart (lc3 elt t0 i0 t1 i1 t2 i2 ifs0 ifs1 ifs2 scope pos) 1 it acc env) R s := by
  refine codeAny_of_tree ?_
  show wpAny _ _ ((compStart (lc3 elt t0 i0 t1 i1 t2 i2 ifs0 ifs1 ifs2 scope pos) 1 it acc env).onRaise (fun x => do noteFrame x env; standAt theWindowsPlace)) _ _ s
  refine wpAny_notedAt ?_
  unfold compStart
  show wpAny _ _ (ask >>= _) _ _ s
  refine wpAny_bind (wpAny_askSetting (wpAny_ite ?_))
  split
  · first
      | exact wpAny_bind (wpAny_pure (wpAny_pure (And.intro rfl h0)))
      | exact wpAny_pure (And.intro rfl h0)
  · first
      | exact wpAny_bind (wpAny_rule (wpAny_bind (wpAny_standAt (wpAny_bind (wpAny_mono h (fun it' s' h' => wpAny_pure (And.intro rfl h')) fun _ _ z => z.elim)))))
      | (refine wpAny_bind (wpAny_rule ?_); show wpAny _ _ (standAt i1.pos >>= _) _ _ s; exact wpAny_bind (wpAny_standAt (wpAny_bind (wpAny_mono h (fun it' s' h' => wpAny_pure (And.intro rfl h')) fun _ _ z => z.elim))))
theorem start3_2 (h0 : codeAny (model prog w) A (.compLoop (lc3 elt t0 i0 t1 i1 t2 i2 ifs0 ifs1 ifs2 scope pos) 2 it acc env) R s)
    (h : wpAny (model prog w) A (pyIter it) (fun it' s' => codeAny (model prog w) A (.compLoop (lc3 elt t0 i0 t1 i1 t2 i2 ifs0 ifs1 ifs2 scope pos) 2 it' acc env) R s') NoE s) :
    codeAny (model prog w) A (.compStart (lc3 elt t0 i0 t1 i1 t2 i2 ifs0 ifs1 ifs2 scope pos) 2 it acc env) R s := by
  refine codeAny_of_tree ?_
  show wpAny _ _ ((compStart (lc3 elt t0 i0 t1 i1 t2 i2 ifs0 ifs1 ifs2 scope pos) 2 it acc env).onRaise (fun x => do noteFrame x env; standAt theWindowsPlace)) _ _ s
  refine wpAny_notedAt ?_
  unfold compStart
  show wpAny _ _ (ask >>= _) _ _ s
  refine wpAny_bind (wpAny_askSetting (wpAny_ite ?_))
  split
  · first
      | exact wpAny_bind (wpAny_pure (wpAny_pure (And.intro rfl h0)))
      | exact wpAny_pure (And.intro rfl h0)
  · first
      | exact wpAny_bind (wpAny_rule (wpAny_bind (wpAny_standAt (wpAny_bind (wpAny_mono h (fun it' s' h' => wpAny_pure (And.intro rfl h')) fun _ _ z => z.elim)))))
      | (refine wpAny_bind (wpAny_rule ?_); show wpAny _ _ (standAt i2.pos >>= _) _ _ s; exact wpAny_bind (wpAny_standAt (wpAny_bind (wpAny_mono h (fun it' s' h' => wpAny_pure (And.intro rfl h')) fun _ _ z => z.elim))))
end
end Pe
set_option Elab.async false
set_option linter.all false
set_option maxRecDepth 100000
set_option maxHeartbeats 4000000
namespace Pe
open PySem PySem.Spec PyProof.Rows L2
def bodyOk (X : Cx) (BODY : Bd) (vsI : List Nat) (bT : L2.St → Hp → (Hp → Prop) → Prop) : Prop :=
  ∀ (pins : List (Addr × Obj)) (σ : L2.St) (H : Hp) (s : Shared) (Nx : Hp → Prop), Inv X pins σ H s → bT σ H Nx → BODY (fun s' => ∃ H', Inv X pins (L2.wipe σ vsI) H' s' ∧ Nx H') s
def BdMono (BODY : Bd) : Prop := ∀ (K K' : Shared → Prop) (s : Shared), (∀ s, K s → K' s) → BODY K s → BODY K' s
/-- a clause's turns -/
def lvT (J : L2.It) (g : TG) (tt : TT) (vsA : List Nat) (bT : L2.St → Hp → (Hp → Prop) → Prop) (σ : L2.St) (Nx : Hp → Prop) (W1 : Nat → Nat → Hp → Prop) : Prop :=
  ∀ j k H, W1 j k H → (J.stop j H ∧ Nx H) ∨ (J.go j H ∧ ∃ Nx1 : Hp → Prop, (∀ H', Nx1 H' → ∃ k', k' < k ∧ W1 (j + 1) k' H') ∧ ∀ x H', J.yld j H x H' → g x (L2.wipe σ vsA) H' fun σ3 H5 => L2.wipe σ3 vsA = L2.wipe σ vsA ∧ tt σ3 H5 fun b H6 => if b = true then bT σ3 H6 Nx1 else Nx1 H6)
section
variable {X : Cx} {lc t : Expr} {lv : Nat} {ifs : List Expr} {acc : Value} {BODY : Bd} {g : TG} {tt : TT} {vsA vsI : List Nat} {bT : L2.St → Hp → (Hp → Prop) → Prop} {pins : List (Addr × Obj)} {it : Addr} {fp : List Addr} {tn : Nat → Heap → Prop} {J : L2.It} {σ : L2.St} {H : Hp} {s : Shared} {Nx : Hp → Prop} {W1 : Nat → Nat → Hp → Prop} {m1 : Nat}
theorem mono_in {prog : Program} {w : World} {A : Around} {env : Env} {elt : Expr} : BdMono (BdIn prog w A env elt acc) := fun K K' s h q =>
  wpAny_mono q (fun x s4 h4 => wpAny_mono h4 (fun _ s5 h5 => h _ h5) fun _ _ z => z) fun _ _ z => z
theorem mono_out {prog : Program} {w : World} {A : Around} {env : Env} {k : Nat} {i1 : Expr} : BdMono (BdOut prog w A env lc k i1 acc) := fun K K' s h q =>
  wpAny_mono q (fun x s4 h4 => wpAny_mono h4 (fun _ s5 h5 => codeAny_mono h5 fun r s' hr => by
    cases r with
    | ok f => exact h _ hr
    | error e => exact hr) fun _ _ z => z) fun _ _ z => z
theorem level_ok (hc : X.calm = true) (hxe : X.xe = NoE) (TR : TurnRule X.prog X.w X.A X.env lc lv t ifs acc BODY) (mono : BdMono BODY) (pg : PG X t g) (pt : PTs X ifs tt) (hB : bodyOk X BODY vsI bT) (hsub : ∀ i ∈ vsI, i ∈ vsA)
    (T : Turn X.prog X.w X.K t J fp it tn) (turn1 : lvT J g tt vsA bT σ Nx W1) (I11 : Inv X pins (L2.wipe σ vsA) H s) (st : tn 0 s.heap) (nf : ∀ b ∈ fp, H b = none) (stat : ∀ H' : Hp, (∀ b ∈ fp, H' b = none) → ∀ b ∈ fp, FpOk X pins H' b) (w1 : W1 0 m1 H) :
    codeAny (model X.prog X.w) X.A (.compLoop lc lv (.ref it) acc X.env) (fun r s' => match r with
      | .ok f => f = .next ∧ ∃ H', Inv X pins (L2.wipe σ vsA) H' s' ∧ Nx H'
      | .error _ => False) s := by
  refine TR (.ref it) _ (fun k s' => ∃ j H', Inv X pins (L2.wipe σ vsA) H' s' ∧ tn j s'.heap ∧ (∀ b ∈ fp, H' b = none) ∧ W1 j k H') ?_ m1 s ⟨0, H, I11, st, nf, w1⟩
  rintro k s12 ⟨j, H12, I12, st12, n12, w12⟩
  rcases turn1 j k H12 w12 with ⟨stop1, nx1⟩ | ⟨go1, Nx1, hNx1, step1⟩
  · refine wpAny_mono (T.done X rfl rfl rfl hc j _ s12 (L2.wipe σ vsA) H12 NoE I12 (stat _ n12) st12 stop1) (fun r s13 hh => ?_) fun _ _ z => z
    obtain ⟨hr, I13⟩ := hh
    subst hr
    exact ⟨rfl, H12, I13, nx1⟩
  · refine wpAny_mono (T.item X rfl rfl rfl hc j _ s12 (L2.wipe σ vsA) H12 NoE I12 (stat _ n12) st12 go1) (fun r s13 hh => ?_) fun _ _ z => z
    obtain ⟨u1, hr, h13⟩ := hh
    subst hr
    refine wpAny_mono h13 (fun _ s14 hh => ?_) fun _ _ z => z
    obtain ⟨x1, H14, I14, r14, y14, st14, n14⟩ := hh
    have I14' := I14.pinned (stat _ n14) (T.obj _ _ st14)
    have p1 := pg.run _ s14 (L2.wipe σ vsA) H14 x1 u1 _ I14' r14 (step1 x1 H14 y14)
    rw [hxe] at p1
    refine wpAny_mono p1 (fun _ s15 hh => ?_) fun _ _ z => z
    obtain ⟨σ15, H15, I15, hw15, q15⟩ := hh
    have p2 := pt.run _ s15 σ15 H15 _ I15 q15
    rw [hxe] at p2
    refine wpAny_mono p2 (fun b1 s16 hh => ?_) fun _ _ z => z
    obtain ⟨H16, I16, q16⟩ := hh
    have fin1 : ∀ {σ' : L2.St} {s' : Shared} {H' : Hp}, Inv X (pins ++ pinsAt fp s14.heap) σ' H' s' → (L2.wipe σ vsA).length = σ'.length → (∀ (j : Nat) v, (L2.wipe σ vsA)[j]? = some (some v) → σ'[j]? = some (some v)) → Nx1 H' →
        ∃ m, m < k ∧ ∃ j H', Inv X pins (L2.wipe σ vsA) H' s' ∧ tn j s'.heap ∧ (∀ b ∈ fp, H' b = none) ∧ W1 j m H' := fun {σ' s' H'} I' hl hk nx => by
      obtain ⟨m', hm, w'⟩ := hNx1 H' nx
      have pin' : ∀ b ∈ fp, ∀ o, s14.heap.get? b = some o → s'.heap.get? b = some o ∧ H' b = none := fun b hb o e =>
        let z := I'.pin (b, o) (List.mem_append_right _ (List.mem_append_right _ (mem_pinsAt hb e)))
        ⟨z.1, z.2.1⟩
      refine ⟨m', hm, j + 1, H', I'.unpinned.weak hl hk, T.keep _ _ _ st14 fun b hb o e => (pin' b hb o e).1, fun b hb => ?_, w'⟩
      obtain ⟨o, e, _⟩ := T.obj _ _ st14 b hb
      exact (pin' b hb o e).2
    have e15 : (L2.wipe σ vsA).length = σ15.length := by rw [← hw15, wipe_length]
    have k15 : ∀ (j : Nat) v, (L2.wipe σ vsA)[j]? = some (some v) → σ15[j]? = some (some v) := fun j v e => by
      rw [← hw15] at e
      exact (wipe_some e).1
    cases b1 with
    | false =>
      simp only [Bool.false_eq_true, if_false] at q16 ⊢
      exact fin1 I16 e15 k15 q16
    | true =>
      simp only [if_true] at q16 ⊢
      refine mono _ _ _ (fun s' hh => ?_) (hB _ _ _ _ _ I16 q16)
      obtain ⟨H'', I'', nx⟩ := hh
      refine fin1 I'' (e15.trans (wipe_length σ15 vsI).symm) (fun j v e => ?_) nx
      rw [← hw15] at e
      obtain ⟨a1, a2⟩ := wipe_some e
      rw [wipe_out fun z => a2 (hsub j z)]
      exact a1
/-- the innermost -/
def bIn (te : TE) (D : Addr) : L2.St → Hp → (Hp → Prop) → Prop := fun σ H Nx => te σ H fun y H7 => ∃ acc, H7 D = some (.lst acc) ∧ acc.length < sizeLine ∧ Nx (upd H7 D (.lst (acc ++ [y])))
theorem body_in (hxe : X.xe = NoE) {elt : Expr} {te : TE} {D : Addr} (he : PE X elt te) : bodyOk X (BdIn X.prog X.w X.A X.env elt (.ref D)) [] (bIn te D) := by
  intro pins σ H s Nx I q
  have p := he.run pins s σ H _ I q
  rw [hxe] at p
  refine wpAny_mono p (fun z s1 hh => ?_) fun _ _ z => z
  obtain ⟨y, H1, I1, r1, acc, hD, hz, nx⟩ := hh
  exact app_ok I1 hD hz r1 fun s2 I2 => ⟨_, I2, nx⟩
/-- a further clause inside -/
def bOut (wi : TI) (g : TG) (tt : TT) (vsA : List Nat) (bT : L2.St → Hp → (Hp → Prop) → Prop) : L2.St → Hp → (Hp → Prop) → Prop := fun σ H Nx => wi σ H fun J H4 => ∃ W1 : Nat → Nat → Hp → Prop, (∃ m, W1 0 m H4) ∧ lvT J g tt vsA bT σ Nx W1
theorem body_out (hc : X.calm = true) (hxe : X.xe = NoE) {i1 : Expr} {wi : TI} (hi : PI X t i1 wi) (TR : TurnRule X.prog X.w X.A X.env lc lv t ifs acc BODY) (mono : BdMono BODY) (pg : PG X t g) (pt : PTs X ifs tt) (hB : bodyOk X BODY vsI bT) (hsub : ∀ i ∈ vsI, i ∈ vsA)
    (start : ∀ (itv : Value) (R : Result → Shared → Prop) (s : Shared), codeAny (model X.prog X.w) X.A (.compLoop lc lv itv acc X.env) R s → wpAny (model X.prog X.w) X.A (pyIter itv) (fun it' s' => codeAny (model X.prog X.w) X.A (.compLoop lc lv it' acc X.env) R s') NoE s → codeAny (model X.prog X.w) X.A (.compStart lc lv itv acc X.env) R s) :
    bodyOk X (BdOut X.prog X.w X.A X.env lc lv i1 acc) vsA (bOut wi g tt vsA bT) := by
  intro pins σ H s Nx I q
  have p := hi.run pins s σ H _ I q
  rw [hxe] at p
  refine wpAny_mono p (fun xv s1 h1 => ?_) fun _ _ z => z
  refine wpAny_mono h1 (fun itv s2 h2 => ?_) fun _ _ z => z
  obtain ⟨it1, fp1, tn1, J1, H11, e1, I11, T1, st11, f11, W1, ⟨m1, w1⟩, turn1⟩ := h2
  subst e1
  have stat1 : ∀ H' : Hp, (∀ b ∈ fp1, H' b = none) → ∀ b ∈ fp1, FpOk X pins H' b := fun H' hn b hb => ⟨hn b hb, (f11 b hb).2⟩
  have L := level_ok (m1 := m1) hc hxe TR mono pg pt hB hsub T1 turn1 (I11.weak (wipe_length _ _) (fun j v e => (wipe_some e).1)) st11 (fun b hb => (f11 b hb).1) stat1 w1
  have L' := codeAny_mono L (R' := fun r s' => match r with
    | .ok _ => ∃ H', Inv X pins (L2.wipe σ vsA) H' s' ∧ Nx H'
    | .error _ => False) fun r s' hr => by
      cases r with
      | ok f => exact hr.2
      | error e => exact hr
  exact start _ _ _ L' (T1.self X.A 0 _ _ _ st11 L')
end
end Pe
set_option Elab.async false
set_option linter.all false
set_option maxRecDepth 100000
set_option maxHeartbeats 4000000
namespace Pe
open PySem PySem.Spec PyProof.Rows L2
def tLcN (wi : TI) (g : TG) (tt : TT) (vs : List Nat) (bT : Addr → L2.St → Hp → (Hp → Prop) → Prop) : TE := fun σ H Q => wi σ H fun J H1 => ∀ D, H1 D = none → ∃ W : Nat → Nat → Hp → Prop, (∃ m, W 0 m (upd H1 D (.lst []))) ∧ lvT J g tt vs (bT D) σ (fun H => Q (.ref D) H) W
section
variable {X : Cx}
theorem lcN_core {pins : List (Addr × Obj)} {s : Shared} {σ : L2.St} {H : Hp} {Q : VK} {elt tg iter : Expr} {ifs : List Expr} {rest : List Comprehension} {scope : Scope} {own : List (Str × Nat)} {pos pos' : Pos} {wi : TI} {g : TG} {tt : TT} {bT : Addr → L2.St → Hp → (Hp → Prop) → Prop} {vsI : List Nat} {Bf : Env → Value → Bd} {use : Option (Value → Sem Unit)} {Qf : Value → Shared → Prop}
    (hc : X.calm = true) (hN : X.N.Nodup) (I : Inv X pins σ H s) (hi : PI X tg iter wi) (ok : BlkOk X.N X.env.scope scope own) (hsub : ∀ i ∈ vsI, i ∈ own.map (·.2))
    (hg : ∀ (s : Shared) (H : Hp) (C : Addr) (cl : List (Str × Addr)) (fp : List Addr), PG (X.blk s H scope (compEnvC scope cl C X.env) fp) tg g) (ht : ∀ (s : Shared) (H : Hp) (C : Addr) (cl : List (Str × Addr)) (fp : List Addr), PTs (X.blk s H scope (compEnvC scope cl C X.env) fp) ifs tt)
    (hTR : ∀ (C : Addr) (cl : List (Str × Addr)) (acc : Value), TurnRule X.prog X.w X.A (compEnvC scope cl C X.env) (.ListComp elt (⟨tg, iter, ifs, 0⟩ :: rest) scope pos) 0 tg ifs acc (Bf (compEnvC scope cl C X.env) acc))
    (hm : ∀ env acc, BdMono (Bf env acc))
    (hB : ∀ (s : Shared) (H : Hp) (C : Addr) (cl : List (Str × Addr)) (fp : List Addr) (D : Addr), bodyOk (X.blk s H scope (compEnvC scope cl C X.env) fp) (Bf (compEnvC scope cl C X.env) (.ref D)) vsI (bT D)) (hs : ∀ x, foldedSetIterable iter X.env x = pure x)
    (h : tLcN wi g tt (own.map (·.2)) bT σ H Q)
    (hRR : ∀ D C s' m H', Inv X pins σ H' s' → Q (.ref D) H' → s'.heap.Ns C m → FpOk X pins H' C → compPost (model X.prog X.w) X.A X.xe use Qf (.ref D) C (.ok .next) s') :
    wpAny (model X.prog X.w) X.A (comprehension (.ListComp elt (⟨tg, iter, ifs, 0⟩ :: rest) scope pos) scope X.env pos' (newList []) false (eval iter X.env) use) Qf X.xe s := by
  have hfree : ∀ y ∈ scope.names, y.2 = .free → ∃ c, X.env.cells.lookup y.1 = some c := fun y hy e => by
    rcases ok.free y hy e with k | k
    · exact I.ok.has _ (.inl k)
    · exact I.ok.has _ (.inr k)
  refine wpAny_comprehension_free (use := use) rfl hs (closure_ok hfree) ok.kind (fun y hy e => by rw [ok.uniq y hy, e])
    (thn (hi.run pins s σ H _ I h) fun xv s1 hx => thn hx fun itv s2 h2 => ?_)
  obtain ⟨it, fp, tn, J, H2, e, I2, T, st2, f2, q⟩ := h2
  subst e
  refine wpAny_newObj_type (newEnv_comp ?_) (by show 0 ≤ sizeLine; decide)
  generalize hD : s2.heap.objs.size = D
  have hDn : H2 D = none := I2.hok.fresh (Nat.le_of_eq hD)
  obtain ⟨W, ⟨m0, w0⟩, turn⟩ := q D hDn
  generalize hs3 : ({ s2 with heap := s2.heap.push { cls := .type "list", data := .seq ([] : List Value).toArray } } : Shared) = s3
  have I3 : Inv X pins σ (upd H2 D (.lst [])) s3 := by
    rw [← hs3]
    refine I2.laid (t' := s2.toks) (fun b o e => Heap.get?_push_of_some _ e) (Nat.le_of_eq hD) ⟨Nat.zero_le _, [], 0, .nil, ?_⟩
    rw [← hD]
    exact Heap.get?_push_size _ rfl
  have h3 : s3.heap = s2.heap.push { cls := .type "list", data := .seq ([] : List Value).toArray } := by rw [← hs3]
  have sz : ∀ b ∈ fp, b < s2.heap.objs.size := fun b hb => by
    obtain ⟨o, e, _⟩ := T.obj _ _ st2 b hb
    exact Heap.lt_size e
  have f3 : ∀ b ∈ fp, FpOk X pins (upd H2 D (.lst [])) b ∧ b < s3.heap.objs.size := fun b hb => by
    have hlt := sz b hb
    refine ⟨⟨?_, (f2 b hb).2⟩, by rw [h3, Heap.size_push]; exact Nat.lt_succ_of_lt hlt⟩
    rw [upd_ne (by rw [← hD]; exact Nat.ne_of_lt hlt)]
    exact (f2 b hb).1
  have st3 : tn 0 s3.heap := T.keep _ _ _ st2 fun b _ o e => by rw [h3]; exact Heap.get?_push_of_some _ e
  have I4 := block_start I3 ok hN f3
  have nfp : ∀ b ∈ fp, (upd H2 D (.lst [])) b = none := fun b hb => (f3 b hb).1.1
  show codeAny _ _ (.compStart (.ListComp elt (⟨tg, iter, ifs, 0⟩ :: rest) scope pos) 0 (.ref it) (.ref D) (compEnvC scope (cellsFrom (s3.heap.objs.size + 1) scope.names (cloFrom X.env.cells scope.names [])) s3.heap.objs.size X.env)) (compPost (model X.prog X.w) X.A X.xe use Qf (.ref D) s3.heap.objs.size) { s3 with heap := pushCells (s3.heap.push { cls := .type "dict", data := .dict #[] }) scope.names }
  generalize hs4 : ({ s3 with heap := pushCells (s3.heap.push { cls := .type "dict", data := .dict #[] }) scope.names } : Shared) = s4 at I4 ⊢
  have st4 : tn 0 s4.heap := T.keep _ _ _ st3 fun b _ o e => by rw [← hs4]; exact pushCells_keeps _ _ _ _ (Heap.get?_push_of_some _ e)
  have stat : ∀ H' : Hp, (∀ b ∈ fp, H' b = none) → ∀ b ∈ fp, FpOk (X.blk s3 (upd H2 D (.lst [])) scope (compEnvC scope (cellsFrom (s3.heap.objs.size + 1) scope.names (cloFrom X.env.cells scope.names [])) s3.heap.objs.size X.env) fp) [] H' b := fun H' hn b hb =>
    ⟨hn b hb, (I4.ok.exf b hb).1, I4.ok.exfs b hb, .inl hb, fun x c e => (I4.ok.exf b hb).2 x c e, fun p hp => absurd (show p ∈ ([] : List (Addr × Obj)) ++ [] from hp) (by simp)⟩
  have lvl := level_ok (X := X.blk s3 (upd H2 D (.lst [])) scope (compEnvC scope (cellsFrom (s3.heap.objs.size + 1) scope.names (cloFrom X.env.cells scope.names [])) s3.heap.objs.size X.env) fp) (m1 := m0) hc rfl
    (hTR s3.heap.objs.size (cellsFrom (s3.heap.objs.size + 1) scope.names (cloFrom X.env.cells scope.names [])) (.ref D)) (hm _ _) (hg _ _ _ _ _) (ht _ _ _ _ _) (hB _ _ _ _ _ D) hsub T turn I4 st4 nfp stat w0
  have loop : codeAny (model X.prog X.w) X.A (.compLoop (.ListComp elt (⟨tg, iter, ifs, 0⟩ :: rest) scope pos) 0 (.ref it) (.ref D) (compEnvC scope (cellsFrom (s3.heap.objs.size + 1) scope.names (cloFrom X.env.cells scope.names [])) s3.heap.objs.size X.env)) (compPost (model X.prog X.w) X.A X.xe use Qf (.ref D) s3.heap.objs.size) s4 := by
    refine codeAny_mono lvl fun r s6 hr => ?_
    cases r with
    | error e => exact hr.elim
    | ok f =>
      obtain ⟨rfl, H5, I6, qq⟩ := hr
      have I7 : Inv X pins σ H5 s6 := I3.call' (ch := fp) I6.os I6.base I6.hok I6.bare fun b hb => ⟨(f3 b hb).1.2.2.2.1, (f3 b hb).1.2.1, (f3 b hb).1.2.2.2.2.1, (f3 b hb).1.2.2.2.2.2⟩
      have nC : H5 s3.heap.objs.size = none := I6.free
      obtain ⟨m, hn, _⟩ := I6.loc
      have hn : s6.heap.Ns s3.heap.objs.size m := hn
      exact hRR D s3.heap.objs.size s6 m H5 I7 qq hn (I3.fpOk (Nat.le_refl _) nC)
  exact codeAny_compStart_list loop (T.self X.A 0 _ _ _ st4 loop)
end
end Pe
set_option Elab.async false
set_option linter.all false
set_option maxRecDepth 100000
set_option maxHeartbeats 4000000
namespace Pe
open PySem PySem.Spec PyProof.Rows L2
section
variable {X : Cx} {cn : Cn} {cf : Cf} {W : L2.WX} {σ : L2.St} {H : Hp}
/-- one clause's turns: what stands inside is told by hin -/
theorem lv_turns {B G0 G1 H1 : Hp} {μ1 : Mu} {S1 S2 : Store} {D : Addr} {t : T} {c : Oe} {vsA : List Nat} {J : L2.It} {xs acc acc' : List Pe.D} {vs : List V} {ρ : En} {inner : En → List Pe.D → M (List Pe.D)} {bT : L2.St → Hp → (Hp → Prop) → Prop} {Nx : Hp → Prop}
    (g0D : G0 D = none) (hns : ∀ i ∈ t.ns, i ∈ vsA) (w1 : Wd X.K (upd B D (.lst vs)) G0 G1 μ1 S1 H1) (er : EnvR X.K G1 μ1 ρ σ) (ra : Reps X.K G1 μ1 vs acc) (wk : Wk X.K G1 μ1 J xs)
    (ht : turns t (fun ρ' acc => M.bnd (evC cf c ρ') fun b => if b = true then inner ρ' acc else M.ret acc) (Pe.wipe ρ vsA) xs acc S1 = .ok acc' S2)
    (hin : ∀ (G' : Hp) (μ' : Mu) (H' : Hp) (Sx Sy : Store) (ρ1 : En) (σ1 : L2.St) (a a2 : List Pe.D) (us : List V), Wd X.K (upd B D (.lst us)) G0 G' μ' Sx H' → EnvR X.K G' μ' ρ1 σ1 → Reps X.K G' μ' us a → inner ρ1 a Sx = .ok a2 Sy →
      ∀ Nx1 : Hp → Prop, (∀ (G'' : Hp) (μ'' : Mu) (H'' : Hp) (us2 : List V), Le G' G'' → LeM μ' μ'' → Wd X.K (upd B D (.lst us2)) G0 G'' μ'' Sy H'' → Reps X.K G'' μ'' us2 a2 → Nx1 H'') → bT σ1 H' Nx1)
    (hN : ∀ (G' : Hp) (μ' : Mu) (H' : Hp) (us : List V), Le G1 G' → LeM μ1 μ' → Wd X.K (upd B D (.lst us)) G0 G' μ' S2 H' → Reps X.K G' μ' us acc' → Nx H') :
    ∃ W1 : Nat → Nat → Hp → Prop, (∃ m, W1 0 m H1) ∧ lvT J (gT X.K t) (tC X.K cn cf NoX c) vsA bT σ Nx W1 := by
  generalize hbd : (fun ρ' acc => M.bnd (evC cf c ρ') fun b => if b = true then inner ρ' acc else M.ret acc : En → List Pe.D → M (List Pe.D)) = bd at ht
  refine ⟨fun i m H' => m = xs.length - i ∧ i ≤ xs.length ∧ ∃ G' μ' S' a us, Le G1 G' ∧ LeM μ1 μ' ∧ Wd X.K (upd B D (.lst us)) G0 G' μ' S' H' ∧ Reps X.K G' μ' us a ∧ turns t bd (Pe.wipe ρ vsA) (xs.drop i) a S' = .ok acc' S2,
    ⟨_, rfl, Nat.zero_le _, G1, μ1, S1, acc, vs, fun _ _ e => e, fun _ _ e => e, w1, ra, by simpa using ht⟩, ?_⟩
  rintro i m H' ⟨rfl, hi', G', μ', S', a, us, lG, lM, w', r', ht'⟩
  have lH : Le G1 H' := fun a o q => w'.gh _ _ (lG _ _ q)
  by_cases hlt : i < xs.length
  · right
    refine ⟨wk.go i H' lH hlt, fun H'' => i + 1 ≤ xs.length ∧ ∃ G' μ' S' a us, Le G1 G' ∧ LeM μ1 μ' ∧ Wd X.K (upd B D (.lst us)) G0 G' μ' S' H'' ∧ Reps X.K G' μ' us a ∧ turns t bd (Pe.wipe ρ vsA) (xs.drop (i + 1)) a S' = .ok acc' S2,
      fun H'' q => ⟨xs.length - (i + 1), by omega, rfl, q⟩, fun x H2 hy => ?_⟩
    rw [List.drop_eq_getElem_cons hlt] at ht'
    simp only [turns] at ht'
    obtain ⟨ρ1, Sa, hb, ht2⟩ := bnd_ok ht'
    obtain ⟨hbT, rfl⟩ := opt_ok hb
    obtain ⟨acc1, Sb, hbody, ht3⟩ := bnd_ok ht2
    rw [← hbd] at hbody
    obtain ⟨b, Sc, hc, hbody⟩ := bnd_ok hbody
    obtain ⟨Gx, lx, wx, rx⟩ := yld_world w' lG lM wk (List.getElem?_eq_getElem hlt) hy
    have lG2 : Le G1 Gx := fun a o q => lx _ _ (lG _ _ q)
    refine gT_keepW hns (gT_ok wx.gh rx ((er.up lG2 lM).wipe vsA) hbT fun σ' er1 => ?_)
    refine ⟨_, G0, Gx, μ', _, ρ1, wx, er1, ?_⟩
    rw [hc]
    intro G3 μ3 H3 l3 m3 w3
    have l13 : Le G1 G3 := fun a o q => l3 _ _ (lG2 _ _ q)
    have m13 : LeM μ1 μ3 := fun n a q => m3 _ _ (lM _ _ q)
    have r3 : Reps X.K G3 μ3 us a := r'.up (fun a o q => l3 _ _ (lx _ _ q)) m3
    show if b = true then _ else _
    split
    · rename_i hbt
      rw [if_pos hbt] at hbody
      exact hin G3 μ3 H3 Sc Sb ρ1 σ' a acc1 us w3 (er1.up l3 m3) r3 hbody _ fun G4 μ4 H4 us2 l4 m4 w4 r4 =>
        ⟨by omega, G4, μ4, _, acc1, us2, fun a o q => l4 _ _ (l13 _ _ q), fun n a q => m4 _ _ (m13 _ _ q), w4, r4, ht3⟩
    · rename_i hbf
      rw [if_neg hbf] at hbody
      obtain ⟨rfl, rfl⟩ := ret_ok hbody
      exact ⟨by omega, G3, μ3, _, a, us, l13, m13, w3, r3, ht3⟩
  · left
    have hie : i = xs.length := by omega
    subst hie
    rw [List.drop_length] at ht'
    simp only [turns] at ht'
    obtain ⟨rfl, rfl⟩ := ret_ok ht'
    exact ⟨wk.stop _ H' lH (Nat.le_refl _), hN G' μ' H' us lG lM w' r'⟩
/-- what a clause and those behind it ask -/
def bG (K : PySem.W.Frag) (cn : Cn) (cf : Cf) (e : E) (D : Addr) : Gs → L2.St → Hp → (Hp → Prop) → Prop
  | .last it t c => bOut (tI K cn cf NoX it) (gT K t) (tC K cn cf NoX c) t.ns (bIn (tE K cn cf NoX e) D)
  | .more it t c r => bOut (tI K cn cf NoX it) (gT K t) (tC K cn cf NoX c) (t.ns ++ r.tns) (bG K cn cf e D r)
theorem in_last {B G0 : Hp} {D : Addr} {e : E} (g0D : G0 D = none) (G' : Hp) (μ' : Mu) (H' : Hp) (Sx Sy : Store) (ρ1 : En) (σ1 : L2.St) (a a2 : List Pe.D) (us : List V) (w : Wd X.K (upd B D (.lst us)) G0 G' μ' Sx H') (er : EnvR X.K G' μ' ρ1 σ1) (ra : Reps X.K G' μ' us a)
    (h : (M.bnd (mD (evE cf e ρ1)) fun d => if a.length < sizeMax then M.ret (a ++ [d]) else M.no) Sx = .ok a2 Sy)
    (Nx1 : Hp → Prop) (hN : ∀ (G'' : Hp) (μ'' : Mu) (H'' : Hp) (us2 : List V), Le G' G'' → LeM μ' μ'' → Wd X.K (upd B D (.lst us2)) G0 G'' μ'' Sy H'' → Reps X.K G'' μ'' us2 a2 → Nx1 H'') : bIn (tE X.K cn cf NoX e) D σ1 H' Nx1 := by
  obtain ⟨d, Sh, hd, hbody⟩ := bnd_ok h
  refine tE_of w er ?_
  rw [hd]
  intro G8 μ8 H8 l8 m8 w8 z rz
  split at hbody
  · rename_i hz
    obtain ⟨rfl, rfl⟩ := ret_ok hbody
    exact ⟨us, w8.bh _ _ upd_same, by rw [ra.len]; exact hz, hN G8 μ8 _ (us ++ [z]) l8 m8 (w8.setB g0D) ((ra.up l8 m8).app (.cons rz .nil))⟩
  · cases hbody
theorem gs_ok {B G0 : Hp} {D : Addr} {e : E} (g0D : G0 D = none) : ∀ (r : Gs) (G' : Hp) (μ' : Mu) (H' : Hp) (Sx Sy : Store) (ρ1 : En) (σ1 : L2.St) (a a2 : List Pe.D) (us : List V), Wd X.K (upd B D (.lst us)) G0 G' μ' Sx H' → EnvR X.K G' μ' ρ1 σ1 → Reps X.K G' μ' us a →
    evG cf r (fun ρ => mD (evE cf e ρ)) ρ1 (Pe.wipe ρ1 r.tns) a Sx = .ok a2 Sy →
    ∀ Nx1 : Hp → Prop, (∀ (G'' : Hp) (μ'' : Mu) (H'' : Hp) (us2 : List V), Le G' G'' → LeM μ' μ'' → Wd X.K (upd B D (.lst us2)) G0 G'' μ'' Sy H'' → Reps X.K G'' μ'' us2 a2 → Nx1 H'') → bG X.K cn cf e D r σ1 H' Nx1
  | .last it t c, G', μ', H', Sx, Sy, ρ1, σ1, a, a2, us, w, er, ra, h, Nx1, hN => by
    simp only [evG, Gs.tns] at h
    obtain ⟨ys, Sd, hi1, hin⟩ := bnd_ok h
    refine .inl ⟨_, G0, G', μ', _, ρ1, w, er, ?_⟩
    rw [hi1]
    intro G4 μ4 H4 l4 m4 w4 J1 wk1
    exact lv_turns g0D (fun _ h => h) w4 (er.up l4 m4) (ra.up l4 m4) wk1 hin (in_last g0D) fun G5 μ5 H5 us5 l5 m5 w5 r5 => hN G5 μ5 H5 us5 (fun a o q => l5 _ _ (l4 _ _ q)) (fun n a q => m5 _ _ (m4 _ _ q)) w5 r5
  | .more it t c r, G', μ', H', Sx, Sy, ρ1, σ1, a, a2, us, w, er, ra, h, Nx1, hN => by
    simp only [evG, Gs.tns] at h
    obtain ⟨ys, Sd, hi1, hin⟩ := bnd_ok h
    refine .inl ⟨_, G0, G', μ', _, ρ1, w, er, ?_⟩
    rw [hi1]
    intro G4 μ4 H4 l4 m4 w4 J1 wk1
    exact lv_turns (inner := fun ρ' acc => evG cf r (fun ρ => mD (evE cf e ρ)) ρ' (Pe.wipe ρ' r.tns) acc) g0D (fun _ h => List.mem_append_left _ h) w4 (er.up l4 m4) (ra.up l4 m4) wk1 hin (gs_ok g0D r) fun G5 μ5 H5 us5 l5 m5 w5 r5 => hN G5 μ5 H5 us5 (fun a o q => l5 _ _ (l4 _ _ q)) (fun n a q => m5 _ _ (m4 _ _ q)) w5 r5
theorem t_lcG {own : List Nat} {it : It} {t : T} {c : Oe} {r : Gs} {e : E} {Q : VK} (hns : ∀ i ∈ t.ns, i ∈ own) (h : tE X.K cn cf W (.lc own (.more it t c r) e) σ H Q) :
    tLcN (tI X.K cn cf W it) (gT X.K t) (tC X.K cn cf NoX c) own (fun D => bG X.K cn cf e D r) σ H Q := by
  obtain ⟨B, G0, G, μ, S, ρ, w, er, h⟩ := h
  simp only [evE] at h
  obtain ⟨ds, S2, hr, h1⟩ := bare_ok (After.bnd h)
  simp only [evG] at hr
  obtain ⟨xs, S1, hi, ht⟩ := bnd_ok hr
  refine .inl ⟨B, G0, G, μ, S, ρ, w, er, ?_⟩
  rw [hi]
  intro G1 μ1 H1 l1 m1 w1 J wk D hD
  obtain ⟨w1', bD, g0D⟩ := w1.addB (o := .lst []) hD
  exact lv_turns (inner := fun ρ' acc => evG cf r (fun ρ => mD (evE cf e ρ)) ρ' (Pe.wipe ρ' r.tns) acc) g0D hns w1' (er.up l1 m1) .nil wk ht (gs_ok g0D r) fun G5 μ5 H5 us5 l5 m5 w5 r5 => by
    obtain ⟨wd, fv⟩ := w5.dropB bD g0D r5
    have h2 := h1 G5 μ5 H5 (fun a o q => l5 _ _ (l1 _ _ q)) (fun n a q => m5 _ _ (m1 _ _ q)) wd
    exact After.now wd h2 _ fv
end
end Pe
set_option Elab.async false
set_option linter.all false
set_option maxRecDepth 100000
set_option maxHeartbeats 4000000
namespace Pe
open PySem PySem.Spec PyProof.Rows L2
section
variable {X : Cx} {elt tg iter tg1 iter1 tg2 iter2 : Expr} {ifs ifs1 ifs2 : List Expr} {scope : Scope} {own : List (Str × Nat)} {pos : Pos} {wi wi1 wi2 : TI} {g g1 g2 : TG} {tt tt1 tt2 : TT} {te : TE} {vs1 vs2 : List Nat}
/-- what the clauses and the item are, in any block -/
structure Cl3 (X : Cx) (scope : Scope) (tg tg1 iter1 tg2 iter2 elt : Expr) (ifs ifs1 ifs2 : List Expr) (wi1 wi2 : TI) (g g1 g2 : TG) (tt tt1 tt2 : TT) (te : TE) : Prop where
  g0 : ∀ (s : Shared) (H : Hp) (C : Addr) (cl : List (Str × Addr)) (fp : List Addr), PG (X.blk s H scope (compEnvC scope cl C X.env) fp) tg g
  t0 : ∀ (s : Shared) (H : Hp) (C : Addr) (cl : List (Str × Addr)) (fp : List Addr), PTs (X.blk s H scope (compEnvC scope cl C X.env) fp) ifs tt
  i1 : ∀ (s : Shared) (H : Hp) (C : Addr) (cl : List (Str × Addr)) (fp : List Addr), PI (X.blk s H scope (compEnvC scope cl C X.env) fp) tg1 iter1 wi1
  g1 : ∀ (s : Shared) (H : Hp) (C : Addr) (cl : List (Str × Addr)) (fp : List Addr), PG (X.blk s H scope (compEnvC scope cl C X.env) fp) tg1 g1
  t1 : ∀ (s : Shared) (H : Hp) (C : Addr) (cl : List (Str × Addr)) (fp : List Addr), PTs (X.blk s H scope (compEnvC scope cl C X.env) fp) ifs1 tt1
  i2 : ∀ (s : Shared) (H : Hp) (C : Addr) (cl : List (Str × Addr)) (fp : List Addr), PI (X.blk s H scope (compEnvC scope cl C X.env) fp) tg2 iter2 wi2
  g2 : ∀ (s : Shared) (H : Hp) (C : Addr) (cl : List (Str × Addr)) (fp : List Addr), PG (X.blk s H scope (compEnvC scope cl C X.env) fp) tg2 g2
  t2 : ∀ (s : Shared) (H : Hp) (C : Addr) (cl : List (Str × Addr)) (fp : List Addr), PTs (X.blk s H scope (compEnvC scope cl C X.env) fp) ifs2 tt2
  e : ∀ (s : Shared) (H : Hp) (C : Addr) (cl : List (Str × Addr)) (fp : List Addr), PE (X.blk s H scope (compEnvC scope cl C X.env) fp) elt te
  s1 : ∀ env x, foldedSetIterable iter1 env x = pure x
  s2 : ∀ env x, foldedSetIterable iter2 env x = pure x
theorem lc3_core {pins : List (Addr × Obj)} {s : Shared} {σ : L2.St} {H : Hp} {Q : VK} {pos' : Pos} {use : Option (Value → Sem Unit)} {Qf : Value → Shared → Prop}
    (hc : X.calm = true) (hN : X.N.Nodup) (I : Inv X pins σ H s) (hi : PI X tg iter wi) (ok : BlkOk X.N X.env.scope scope own) (hv : ∀ i ∈ vs1 ++ vs2, i ∈ own.map (·.2)) (C3 : Cl3 X scope tg tg1 iter1 tg2 iter2 elt ifs ifs1 ifs2 wi1 wi2 g g1 g2 tt tt1 tt2 te)
    (hs : ∀ x, foldedSetIterable iter X.env x = pure x)
    (h : tLcN wi g tt (own.map (·.2)) (fun D => bOut wi1 g1 tt1 (vs1 ++ vs2) (bOut wi2 g2 tt2 vs2 (bIn te D))) σ H Q)
    (hRR : ∀ D C s' m H', Inv X pins σ H' s' → Q (.ref D) H' → s'.heap.Ns C m → FpOk X pins H' C → compPost (model X.prog X.w) X.A X.xe use Qf (.ref D) C (.ok .next) s') :
    wpAny (model X.prog X.w) X.A (comprehension (lc3 elt tg iter tg1 iter1 tg2 iter2 ifs ifs1 ifs2 scope pos) scope X.env pos' (newList []) false (eval iter X.env) use) Qf X.xe s := by
  refine lcN_core (Bf := fun env acc => BdOut X.prog X.w X.A env (lc3 elt tg iter tg1 iter1 tg2 iter2 ifs ifs1 ifs2 scope pos) 1 iter1 acc) hc hN I hi ok hv C3.g0 C3.t0 (fun C cl acc => turn3_0 (C3.s1 _)) (fun env acc => mono_out) (fun s H C cl fp D => ?_) hs h hRR
  exact body_out (X := X.blk s H scope (compEnvC scope cl C X.env) fp) hc rfl (C3.i1 s H C cl fp) (turn3_1 (C3.s2 _)) mono_out (C3.g1 s H C cl fp) (C3.t1 s H C cl fp)
    (body_out (X := X.blk s H scope (compEnvC scope cl C X.env) fp) hc rfl (C3.i2 s H C cl fp) turn3_2 mono_in (C3.g2 s H C cl fp) (C3.t2 s H C cl fp) (body_in rfl (C3.e s H C cl fp)) (fun i h => by cases h) fun itv R s h1 h2 => start3_2 h1 h2)
    (fun i h => List.mem_append_right _ h) fun itv R s h1 h2 => start3_1 h1 h2
theorem pe_lc3 (hc : X.calm = true) (hN : X.N.Nodup) (hi : PI X tg iter wi) (ok : BlkOk X.N X.env.scope scope own) (hv : ∀ i ∈ vs1 ++ vs2, i ∈ own.map (·.2)) (C3 : Cl3 X scope tg tg1 iter1 tg2 iter2 elt ifs ifs1 ifs2 wi1 wi2 g g1 g2 tt tt1 tt2 te)
    (hs : ∀ x, foldedSetIterable iter X.env x = pure x) : PE X (lc3 elt tg iter tg1 iter1 tg2 iter2 ifs ifs1 ifs2 scope pos) (tLcN wi g tt (own.map (·.2)) (fun D => bOut wi1 g1 tt1 (vs1 ++ vs2) (bOut wi2 g2 tt2 vs2 (bIn te D)))) := by
  refine ⟨fun pins s σ H Q I h => ?_⟩
  unfold lc3
  rw [eval_ListComp]
  refine lc3_core hc hN I hi ok hv C3 hs h fun D C s' m H' I' q hn f => ⟨m, hn, fun h'' sb => ?_⟩
  obtain ⟨f0, f1, f2, f3, f4, f5⟩ := f
  exact ⟨.ref D, H', I'.turned (t' := s'.toks) (fun b o hb e => (sb.2 b hb).trans e) f0 f1 f3 f4 f5, rfl, q⟩
theorem ps_setLc3 {i : Nat} {y : Str} {py spos : Pos} (hc : X.calm = true) (hN : X.N.Nodup) (hy : X.N[i]? = some y) (hyl : X.env.scope.names.lookup y = some .local)
    (hsw : swapsWith (lc3 elt tg iter tg1 iter1 tg2 iter2 ifs ifs1 ifs2 scope pos) (some (.Name y py)) spos.line X.env = pure true) (hi : PI X tg iter wi) (ok : BlkOk X.N X.env.scope scope own) (hv : ∀ i ∈ vs1 ++ vs2, i ∈ own.map (·.2))
    (C3 : Cl3 X scope tg tg1 iter1 tg2 iter2 elt ifs ifs1 ifs2 wi1 wi2 g g1 g2 tt tt1 tt2 te) (hs : ∀ x, foldedSetIterable iter X.env x = pure x) :
    PS X (.Assign [.Name y py] (lc3 elt tg iter tg1 iter1 tg2 iter2 ifs ifs1 ifs2 scope pos) spos) (tAsg (tLcN wi g tt (own.map (·.2)) (fun D => bOut wi1 g1 tt1 (vs1 ++ vs2) (bOut wi2 g2 tt2 vs2 (bIn te D)))) (gName i)) := by
  refine ⟨fun pins s σ H D I h => ?_⟩
  rw [exec_Assign_Name_used _ _ _ _ hsw]
  refine wpAny_bind (wpAny_standAt (wpAny_bind ?_))
  show wpAny _ X.A (do let _ ← comprehension (lc3 elt tg iter tg1 iter1 tg2 iter2 ifs ifs1 ifs2 scope pos) scope X.env (firstIterPos [⟨tg, iter, ifs, 0⟩, ⟨tg1, iter1, ifs1, 0⟩, ⟨tg2, iter2, ifs2, 0⟩] pos) (newList []) false (eval iter X.env) (some (assign (.Name y py) X.env))) _ _ s
  have h : tLcN wi g tt (own.map (·.2)) (fun D => bOut wi1 g1 tt1 (vs1 ++ vs2) (bOut wi2 g2 tt2 vs2 (bIn te D))) σ H (fun x H1 => gName i x σ H1 D.nx) := h
  refine wpAny_bind (thn (lc3_core (Qf := fun _ s' => SP X pins D .next s') hc hN I hi ok hv C3 hs h fun L C s' m H' I' q hn f => ?_) fun _ s' hq => wpAny_pure (wpAny_pure hq))
  show wpAny _ _ (assign (.Name y py) X.env (.ref L)) _ _ _
  refine wpAny_assign_Name (store_ok2 (v := V.ref L) I' hN hy (.inl hyl) rfl (fun s2 I2 ⟨a, sb, ha⟩ => ?_) (.inr hyl))
  obtain ⟨f0, f1, f2, f3, f4, f5⟩ := f
  have haC : C ≠ a := by
    rcases ha with z | z
    · rw [z]; exact f1
    · exact fun e => f4 y a z e.symm
  refine ⟨m, hn.sameBut sb haC, fun h3 sb3 => ?_⟩
  exact ⟨_, H', I2.turned (t' := s2.toks) (fun b o hb e => (sb3.2 b hb).trans e) f0 f1 f3 f4 f5, q⟩
end
end Pe
set_option Elab.async false
set_option linter.all false
set_option maxRecDepth 100000
set_option maxHeartbeats 4000000
namespace Pe
open PySem PySem.Spec PyProof.Rows L2
def dV : D → V
  | .str x => .str x
  | .int i => .int i
  | _ => .non
theorem dV_rep {K : PySem.W.Frag} {G : Hp} {μ : Mu} {d : D} (h : dCon d = true) : Rep K G μ (dV d) d := by
  cases d <;> first | exact .str _ | exact .int _ | cases h
def kvsOf (ks : List Str) (vs : List D) : List (Key × V) := (ks.zip vs).map fun p => (Sum.inr p.1, dV p.2)
theorem mergeK_new : ∀ (more acc : List (Key × V)), (more.map (·.1)).Nodup → (∀ p ∈ more, ∀ q ∈ acc, q.1 ≠ p.1) → mergeK acc more = acc ++ more
  | [], acc, _, _ => by simp [mergeK]
  | p :: r, acc, hn, hd => by
    have hn' := List.nodup_cons.mp (show (p.1 :: r.map (·.1)).Nodup from hn)
    have e1 : putK acc p.1 p.2 = acc ++ [p] := by
      unfold putK
      rw [if_neg]
      simp only [List.any_eq_true, decide_eq_true_eq, not_exists, not_and]
      exact fun q hq => hd p List.mem_cons_self q hq
    show mergeK (putK acc p.1 p.2) r = _
    rw [e1, mergeK_new r _ hn'.2 (fun q hq z hz => ?_), List.append_assoc]
    · rfl
    · rcases List.mem_append.mp hz with hz | hz
      · exact hd q (List.mem_cons_of_mem _ hq) z hz
      · rcases List.mem_singleton.mp hz with rfl
        exact fun e => hn'.1 (by rw [e]; exact List.mem_map_of_mem hq)
theorem kvs_keys {ks : List Str} {vs : List D} (hl : ks.length = vs.length) : (kvsOf ks vs).map (·.1) = ks.map Sum.inr := by
  unfold kvsOf
  rw [List.map_map]
  have : ((fun x : Key × V => x.1) ∘ fun p : Str × D => ((Sum.inr p.1 : Key), dV p.2)) = Sum.inr ∘ Prod.fst := rfl
  rw [this, ← List.map_map, List.map_fst_zip (by omega)]
theorem merge_kvs {ks : List Str} {vs : List D} (hl : ks.length = vs.length) (hn : ks.Nodup) : mergeK [] (kvsOf ks vs) = kvsOf ks vs := by
  rw [mergeK_new _ _ (by rw [kvs_keys hl]; exact List.Pairwise.map _ (fun a b h e => h (Sum.inr.inj e)) hn) (fun _ _ _ hq => by cases hq)]
  rfl
theorem kvs_val {x : Str} {d : D} : ∀ {ks : List Str} {vs : List D}, (ks.zip vs).lookup x = some d → valV (kvsOf ks vs) (.inr x) = some (dV d)
  | [], _, h => by simp at h
  | k :: ks, [], h => by simp at h
  | k :: ks, v :: vs, h => by
    rw [List.zip_cons_cons, List.lookup_cons] at h
    show valV ((Sum.inr k, dV v) :: kvsOf ks vs) _ = _
    cases e : x == k with
    | true =>
      rw [e] at h
      cases h
      exact valV_pos (by rw [eq_of_beq e])
    | false =>
      rw [e] at h
      rw [valV_neg (by intro z; have := Sum.inr.inj z; subst this; simp at e)]
      exact kvs_val h
section
variable {X : Cx}
theorem dxPs : ∀ {keys : List (Option Expr)} {values : List Expr} {ks : List Str} {vs : List D} {pos : Pos}, dxKeys keys = some ks → dxVals values = some vs → ks.length = vs.length → PPs X pos keys values ((ks.zip vs).map fun p => (L2.tC (V.str p.1), L2.tC (dV p.2))) ∧ keys.length = values.length ∧ keys.length = ks.length ∧ keys.all (·.isSome) = true
  | [], values, ks, vs, pos, h1, h2, hl => by
    cases h1
    cases vs with
    | cons _ _ => cases hl
    | nil =>
      have : values = [] := by
        unfold dxVals at h2
        split at h2
        · rfl
        · cases e : dxVals _ <;> rw [e] at h2 <;> cases h2
        · cases e : dxVals _ <;> rw [e] at h2 <;> cases h2
        · cases h2
      subst this
      exact ⟨pps_nil, rfl, rfl, rfl⟩
  | k :: keys, values, ks, vs, pos, h1, h2, hl => by
    unfold dxKeys at h1
    split at h1
    · rename_i e; cases e
    · rename_i kk j p r e
      cases e
      cases e2 : dxKeys keys with
      | none => rw [e2] at h1; cases h1
      | some ks' =>
        rw [e2] at h1
        cases h1
        unfold dxVals at h2
        split at h2
        · cases h2; cases hl
        · rename_i v j2 p2 r2
          cases e3 : dxVals r2 with
          | none => rw [e3] at h2; cases h2
          | some vs' =>
            rw [e3] at h2
            cases h2
            obtain ⟨i1, i2, i3, i4⟩ := dxPs (pos := pos) e2 e3 (by simpa using hl)
            exact ⟨pps_cons pe_str pe_str i1, by simp [i2], by simp [i3], by simpa using i4⟩
        · rename_i v j2 p2 r2
          cases e3 : dxVals r2 with
          | none => rw [e3] at h2; cases h2
          | some vs' =>
            rw [e3] at h2
            cases h2
            obtain ⟨i1, i2, i3, i4⟩ := dxPs (pos := pos) e2 e3 (by simpa using hl)
            exact ⟨pps_cons pe_str pe_int i1, by simp [i2], by simp [i3], by simpa using i4⟩
        · cases h2
    · cases h1
theorem tPairs_con {σ : L2.St} {H : Hp} {Q : List (V × V) → Hp → Prop} : ∀ {l : List (Str × D)}, Q (l.map fun p => (V.str p.1, dV p.2)) H → tPairs (l.map fun p => (L2.tC (V.str p.1), L2.tC (dV p.2))) σ H Q
  | [], h => h
  | p :: l, h => by
    show tPairs (l.map fun p => (L2.tC (V.str p.1), L2.tC (dV p.2))) σ H fun ps H3 => Q ((V.str p.1, dV p.2) :: ps) H3
    exact tPairs_con (l := l) (Q := fun ps H3 => Q ((V.str p.1, dV p.2) :: ps) H3) h
def tDx (ks : List Str) (vs : List D) : TE := fun _ H Q => ∀ p, H p = none → Q (.ref p) (upd H p (.dK (kvsOf ks vs)))
theorem upd_upd {H : Hp} {p : Addr} {a b : HO} : upd (upd H p a) p b = upd H p b := by
  funext x
  by_cases h : x = p
  · subst h; rw [upd_same, upd_same]
  · rw [upd_ne h, upd_ne h, upd_ne h]
theorem pe_dx {a : Expr} {ks : List Str} {vs : List D} (h : dxArg a = some (ks, vs)) : PE X a (tDx ks vs) ∧ vs.all dCon = true := by
  unfold dxArg at h
  split at h
  · rename_i keys values pos
    split at h
    · rename_i k v h1 h2
      split at h
      · rename_i hc
        simp only [Bool.and_eq_true, decide_eq_true_eq, Bool.not_eq_true'] at hc
        obtain ⟨⟨⟨⟨c1, c2⟩, c3⟩, c4⟩, c5⟩ := hc
        cases h
        obtain ⟨i1, i2, i3, i4⟩ := dxPs (X := X) (pos := pos) h1 h2 c1
        refine ⟨pe_imp (pe_disp i1 i4 i2 (fun z => ?_) (by rw [i3]; exact c4)) fun σ H Q q p hp => ?_, c5⟩
        · rw [z] at i3
          cases ks with
          | nil => cases c3
          | cons _ _ => cases i3
        · refine tPairs_con ⟨upd_same, kvsOf ks vs, ?_, ?_, ?_⟩
          · unfold kvsOf
            rw [List.map_map]
            rfl
          · unfold kvsOf
            rw [List.length_map, List.length_zip]; omega
          · rw [upd_upd, merge_kvs c1 c2]
            exact q p hp
      · cases h
    · cases h
  · cases h
end
theorem After.upG2 {α : Type} {K : PySem.W.Frag} {cn : Str → Option Value} {B G0 G G2 : Hp} {μ : Mu} {σ : L2.St} {W : L2.WX} {r : R α} {P : α → Hp → Mu → Store → Hp → Prop} (h : After K cn B G0 G μ σ W r P) (l : Le G G2) : After K cn B G0 G2 μ σ W r P := by
  cases r with
  | ok a S' => exact fun G' μ' H' le lm w => h G' μ' H' (fun a o q => le a o (l a o q)) lm w
  | exc x S' => exact fun G' μ' H' cl dd le lm w ex => h G' μ' H' cl dd (fun a o q => le a o (l a o q)) lm w ex
  | bad => exact h
section
variable {X : Cx} {cn : Cn} {cf : Cf} {W : L2.WX} {σ : L2.St} {H : Hp}
theorem lookup_all {vs : List D} {x : Str} {d : D} (ha : vs.all dCon = true) : ∀ {ks : List Str}, (ks.zip vs).lookup x = some d → dCon d = true := by
  intro ks h
  induction ks generalizing vs with
  | nil => simp at h
  | cons k ks ih =>
    cases vs with
    | nil => simp at h
    | cons v vs =>
      simp only [List.all_cons, Bool.and_eq_true] at ha
      rw [List.zip_cons_cons, List.lookup_cons] at h
      cases e : x == k with
      | true => rw [e] at h; cases h; exact ha.1
      | false => rw [e] at h; exact ih ha.2 h
theorem t_dix {ks : List Str} {vs : List D} {b : E} {Q : VK} (hv : vs.all dCon = true) (h : tE X.K cn cf W (.dix ks vs b) σ H Q) : tDGet (tDx ks vs) (tE X.K cn cf W b) σ H Q := by
  obtain ⟨B, G0, G, μ, S, ρ, w, er, h⟩ := h
  simp only [evE] at h
  intro p hp
  obtain ⟨w2, le, gp⟩ := w.newG (o := .dK (kvsOf ks vs)) hp
  refine tE_use w2 (er.up le fun _ _ e => e) (h.upG2 le) fun d G1 μ1 S1 H1 x l m w1 er1 r1 h1 => ?_
  replace h1 := After.bnd h1
  obtain ⟨v, hd, k⟩ := After.opt w1 h1
  have k := k G1 H1 (fun _ _ e => e) w1
  unfold dixO at hd
  split at hd
  · rename_i y
    cases r1
    exact ⟨p, dV v, rfl, .inl ⟨kvsOf ks vs, .inr y, .inl (w1.gh _ _ (l _ _ upd_same)), rfl, (kvs_val hd).symm⟩, After.now w1 k _ (dV_rep (lookup_all hv hd))⟩
  · cases hd
end
end Pe
set_option Elab.async false
set_option linter.all false
set_option maxRecDepth 100000
set_option maxHeartbeats 4000000
namespace Pe
open PySem PySem.Spec PyProof.Rows L2
section
variable {c : Cc} {lv : Nat} {cn : Cn} {cf : Cf} {W : L2.WX} {sc so : Scope} {X : Cx}
theorem Gd.blk (g : Gd c lv cn cf W sc so X) (scope : Scope) (s : Shared) (H : Hp) (C : Addr) (cl : List (Str × Addr)) (fp : List Addr) : Gd c lv cn cf NoX (relS scope sc) scope (X.blk s H scope (compEnvC scope cl C X.env) fp) where
  fns := g.fns
  scp := by rw [← g.scp]; rfl
  nN := g.nN
  nd := g.nd
  calm := g.calm
  room := g.room
  kl := g.kl
  ow := fun x hx => by
    rcases hx with hx | hx
    · exact ⟨.inl (lookup_relS_keep (by decide) hx), .inr (lookup_relS_keep (by decide) hx)⟩
    · refine ⟨.inr (lookup_relS_keep (by decide) hx), .inl ?_⟩
      show (scope.names.lookup x == some .cell) = true
      rw [hx]; rfl
  tk := fun _ _ ⟨_, _, _, _, _, _, _, _, _, _, _, _, _, _, _, _, w⟩ => w.elim
theorem allIn_ok {xs ys : List Nat} (h : allIn xs ys = true) : ∀ i ∈ xs, i ∈ ys := by
  unfold allIn at h
  simpa using h
theorem set_hs {iter : Expr} (h : notSet iter = true) (env : Env) (x : Value) : foldedSetIterable iter env x = pure x := by
  cases iter <;> first | rfl | cases h
/-- the parts of a list comprehension -/
theorem pe_cLc (g : Gd c lv cn cf W sc so X) {q r : Expr → E} (hq : AllOk cn cf W X q) {elt : Expr} {gs : List Comprehension} {scope : Scope} {pos : Pos}
    (hr : ∀ s H C cl fp, AllOk cn cf NoX (X.blk s H scope (compEnvC scope cl C X.env) fp) r) : PE X (.ListComp elt gs scope pos) (tE X.K cn cf W (cLc q r c sc elt gs scope)) := by
  unfold cLc
  dsimp only
  by_cases hb : blkC c.N sc scope (ownOf c.N scope) = true
  · rw [if_pos hb]
    have ok : BlkOk X.N X.env.scope scope (ownOf c.N scope) := by rw [g.nN, g.scp]; exact blkOk_by hb
    split
    · rename_i tg iter ifs
      split
      · rename_i t ht
        split
        · rename_i hc
          simp only [Bool.and_eq_true] at hc
          exact pe_imp (pe_lc g.calm (by rw [g.nN]; exact g.nd) (pi_cIt g hq) ok (fun s H C cl fp => tg_ok (g.blk scope s H C cl fp) ht) (fun s H C cl fp => pts_ok (hr s H C cl fp)) (fun s H C cl fp => (hr s H C cl fp elt).1) fun x => set_hs hc.2 _ x)
            fun σ H Q z => t_lc1 (allIn_ok hc.1) z
        · exact pe_no
      · exact pe_no
    · rename_i tg iter ifs tg1 iter1 ifs1
      split
      · rename_i t t1 ht ht1
        split
        · rename_i hc
          simp only [Bool.and_eq_true] at hc
          obtain ⟨⟨⟨h1, h2⟩, h3⟩, h4⟩ := hc
          exact pe_imp (pe_lc2 g.calm (by rw [g.nN]; exact g.nd) (pi_cIt g hq) ok (allIn_ok h2) (fun s H C cl fp => tg_ok (g.blk scope s H C cl fp) ht) (fun s H C cl fp => pts_ok (hr s H C cl fp))
            (fun s H C cl fp => pi_cIt (g.blk scope s H C cl fp) (hr s H C cl fp)) (fun s H C cl fp => tg_ok (g.blk scope s H C cl fp) ht1) (fun s H C cl fp => pts_ok (hr s H C cl fp)) (fun s H C cl fp => (hr s H C cl fp elt).1) (fun x => set_hs h3 _ x) fun env x => set_hs h4 env x)
            fun σ H Q z => t_lc2 (allIn_ok h1) z
        · exact pe_no
      · exact pe_no
    · rename_i tg iter ifs tg1 iter1 ifs1 tg2 iter2 ifs2
      split
      · rename_i t t1 t2 ht ht1 ht2
        split
        · rename_i hc
          simp only [Bool.and_eq_true] at hc
          obtain ⟨⟨⟨⟨⟨h1, h2⟩, h3⟩, h4⟩, h5⟩, h6⟩ := hc
          refine pe_imp (pe_lc3 (wi1 := tI X.K cn cf NoX (cIt r c (relS scope sc) tg1 iter1)) (wi2 := tI X.K cn cf NoX (cIt r c (relS scope sc) tg2 iter2)) (g := gT X.K t) (g1 := gT X.K t1) (g2 := gT X.K t2) (tt := tC X.K cn cf NoX (cIfs r ifs)) (tt1 := tC X.K cn cf NoX (cIfs r ifs1)) (tt2 := tC X.K cn cf NoX (cIfs r ifs2)) (te := tE X.K cn cf NoX (r elt)) (vs1 := t1.ns) (vs2 := t2.ns) g.calm (by rw [g.nN]; exact g.nd) (pi_cIt g hq) ok (fun i hi => (List.mem_append.mp hi).elim (allIn_ok h2 i) (allIn_ok h3 i)) ⟨fun s H C cl fp => tg_ok (g.blk scope s H C cl fp) ht, fun s H C cl fp => pts_ok (hr s H C cl fp), fun s H C cl fp => pi_cIt (g.blk scope s H C cl fp) (hr s H C cl fp), fun s H C cl fp => tg_ok (g.blk scope s H C cl fp) ht1, fun s H C cl fp => pts_ok (hr s H C cl fp),
            fun s H C cl fp => pi_cIt (g.blk scope s H C cl fp) (hr s H C cl fp), fun s H C cl fp => tg_ok (g.blk scope s H C cl fp) ht2, fun s H C cl fp => pts_ok (hr s H C cl fp), fun s H C cl fp => (hr s H C cl fp elt).1, fun env x => set_hs h5 env x, fun env x => set_hs h6 env x⟩ fun x => set_hs h4 _ x)
            fun σ H Q z => ?_
          have z' := t_lcG (allIn_ok h1) z
          simp only [bG, Gs.tns] at z'
          exact z'
        · exact pe_no
      · exact pe_no
    · exact pe_no
  · rw [if_neg hb]; exact pe_no
theorem bool_ok {f : Expr → E} (h : AllOk cn cf W X f) (o : BoolOp) (pos : Pos) : ∀ vs : List Expr, PE X (.BoolOp o vs pos) (tE X.K cn cf W (cBool o (vs.map f))) ∧ (vs ≠ [] → PW X (.BoolOp o vs pos) (tT X.K cn cf W (cBool o (vs.map f))))
  | [] => ⟨pe_no, fun z => absurd rfl z⟩
  | [a] => by
    refine ⟨pe_one (h a).1, fun _ => ?_⟩
    cases o
    · exact pw_and1 (h a).2
    · exact pw_or1 (h a).2
  | a :: b :: r => by
    obtain ⟨i1, i2⟩ := bool_ok h o pos (b :: r)
    cases o
    · exact ⟨pe_imp (pe_andT (h a).1 i1) fun σ H Q q => t_and q, fun _ => ⟨fun whole pins s σ H Q I q => (pw_and (h a).2 (i2 (by simp))).run whole pins s σ H Q I (t_andT q)⟩⟩
    · exact ⟨pe_imp (pe_orT (h a).1 i1) fun σ H Q q => t_or q, fun _ => ⟨fun whole pins s σ H Q I q => (pw_or (h a).2 (i2 (by simp))).run whole pins s σ H Q I (t_orT q)⟩⟩
theorem bool_pok {f : Expr → E} (h : AllOk cn cf W X f) (o : BoolOp) (pos : Pos) (vs : List Expr) : POk cn cf W X (.BoolOp o vs pos) (cBool o (vs.map f)) := by
  obtain ⟨i1, i2⟩ := bool_ok h o pos vs
  refine ⟨i1, ?_⟩
  cases vs with
  | nil => exact pt_no
  | cons a r => exact (i2 (by simp)).pt
end
/-- every written expression -/
theorem cE_ok (c : Cc) (lv : Nat) (cn : Cn) (cf : Cf) : ∀ (n : Nat) (W : L2.WX) (sc so : Scope) (X : Cx), Gd c lv cn cf W sc so X → AllOk cn cf W X (cE c n sc)
  | 0, W, sc, so, X, g, e => p_no
  | n + 1, W, sc, so, X, g, e => by
    have ih := cE_ok c lv cn cf n W sc so X g
    cases e with
    | Constant k j pos =>
      cases k with
      | int i => exact p_of (pe_imp pe_int fun σ H Q q => t_cst (fun G μ => .int i) q) fun _ => rfl
      | bool b => exact p_of (pe_imp pe_bl fun σ H Q q => t_cst (fun G μ => .bl b) q) fun _ => rfl
      | none => exact p_of (pe_imp pe_non fun σ H Q q => t_cst (fun G μ => .non) q) fun _ => rfl
      | str x => exact p_of (pe_imp pe_str fun σ H Q q => t_cst (fun G μ => .str x) q) fun _ => rfl
      | _ => exact p_no
    | Name x pos => exact p_of (pe_name g) fun _ => rfl
    | BinOp a o b pos =>
      simp only [cE]
      split
      · rename_i p hp
        exact p_of (pe_imp (pe_op (bop_ok hp) (ih a).1 (ih b).1) fun σ H Q q => t_op2 q) fun _ => rfl
      · exact p_no
    | UnaryOp o a pos =>
      simp only [cE]
      cases o
      · exact p_no
      · exact ⟨pe_imp (pe_notT (ih a).1) fun σ H Q q => t_not q, pt_imp (pt_not (ih a).2) fun σ H Q q => t_notT q⟩
      · exact p_no
      · exact p_of (pe_imp (pe_un u_neg (ih a).1) fun σ H Q q => t_neg q) fun _ => rfl
    | BoolOp o vs pos =>
      simp only [cE]
      exact bool_pok ih o pos vs
    | IfExp a b d pos =>
      simp only [cE]
      exact ⟨pe_imp (pe_ifExp (ih a).2 (ih b).1 (ih d).1) fun σ H Q q => t_ite q, pt_imp (pt_ite (ih a).2 (ih b).2 (ih d).2) fun σ H Q q => t_iteT q⟩
    | Compare a ops bs pos =>
      simp only [cE]
      split
      · rename_i o b
        split
        · exact p_no
        · rename_i hb
          exact ⟨pe_imp (pe_cmpR (cop_ok g.hu o) (ih a).1 (ih b).1 (by simpa using hb)) fun σ H Q q => t_op2 q, pt_imp (pt_cmpR (cop_ok g.hu o) (ih a).1 (ih b).1 (by simpa using hb)) fun σ H Q q => t_cmpT q⟩
      · rename_i o p b d
        split
        · exact p_no
        · rename_i hb
          exact ⟨pe_imp (pe_chain (cop_ok g.hu o) (cop_ok g.hu p) (ih a).1 (ih b).1 (ih d).1 (by simpa using hb)) fun σ H Q q => chain_bl q, pt_imp (pt_chain (cop_ok g.hu o) (cop_ok g.hu p) (ih a).1 (ih b).1 (ih d).1 (by simpa using hb)) fun σ H Q q => chain_blT q⟩
      · exact p_no
    | Tuple es k pos =>
      simp only [cE]
      exact p_of (pe_imp (pe_tup (pa_ok ih es)) fun σ H Q q => t_tup q) fun _ => rfl
    | List es pos =>
      simp only [cE]
      exact p_of (pe_imp (pe_lst (pa_ok ih es)) fun σ H Q q => t_lst q) fun _ => rfl
    | Dict ks vs pos =>
      simp only [cE]
      split
      · exact p_of (pe_imp pe_dnewK fun σ H Q q => t_dc0 q) fun _ => rfl
      · exact p_no
    | Subscript a b pos =>
      have hix : PlainIx b → POk cn cf W X (.Subscript a b pos) (match dxArg a with
        | some (ks, vs) => .dix ks vs (cE c n sc b)
        | none => .op2 .ix (cE c n sc a) (cE c n sc b)) := fun hp => by
        cases e : dxArg a with
        | none => exact p_of (pe_imp (pe_ix o_ix (ih a).1 (ih b).1 hp) fun σ H Q q => t_op2 q) fun _ => rfl
        | some kv =>
          obtain ⟨ks, vs⟩ := kv
          obtain ⟨h1, h2⟩ := pe_dx (X := X) e
          exact p_of (pe_imp (pe_dget (by have := g.hu; omega) h1 (ih b).1 hp) fun σ H Q q => t_dix h2 q) fun _ => rfl
      cases b with
      | Slice lo hi st p2 =>
        cases st with
        | none =>
          have h1 : PO X lo (tO X.K cn cf W (cPart (cE c n sc) lo)) := by
            cases lo with
            | none => exact ⟨fun pins s σ H Q I q => po_none.run pins s σ H Q I (t_no q)⟩
            | some e => exact ⟨fun pins s σ H Q I q => (po_some (ih e).1).run pins s σ H Q I (t_so q)⟩
          have h2 : PO X hi (tO X.K cn cf W (cPart (cE c n sc) hi)) := by
            cases hi with
            | none => exact ⟨fun pins s σ H Q I q => po_none.run pins s σ H Q I (t_no q)⟩
            | some e => exact ⟨fun pins s σ H Q I q => (po_some (ih e).1).run pins s σ H Q I (t_so q)⟩
          exact p_of (pe_imp (pe_slice o_cut (ih a).1 h1 h2) fun σ H Q q => t_slc q) fun _ => rfl
        | some e =>
          simp only [cE]
          split
          · split
            · rename_i he
              unfold isOne at he
              split at he
              · exact p_of (pe_imp (pe_revL (ih a).1) fun σ H Q q => t_rev q) fun _ => rfl
              · cases he
            · exact p_no
          · exact p_no
      | _ => exact hix fun _ _ => rfl
    | Call f args kws cp =>
      simp only [cE]
      cases kws with
      | cons _ _ => exact p_no
      | nil =>
        cases f with
        | Name f p =>
          simp only
          split
          · rename_i m hm
            exact p_of (pe_cCls g ih hm) fun _ => rfl
          · exact p_of (pe_cCall g ih) fun _ => rfl
        | Attribute o m ap =>
          simp only
          split
          · rename_i m hm
            exact p_of (pe_cMth g ih hm) fun _ => rfl
          · exact p_of (pe_cMeth g ih) fun _ => rfl
        | _ => exact p_no
    | Attribute o f pos =>
      simp only [cE]
      exact p_of (pe_cAtt g ih) fun _ => rfl
    | ListComp elt gs scope pos =>
      simp only [cE]
      exact p_of (pe_cLc g ih fun s H C cl fp => cE_ok c lv cn cf n NoX (relS scope sc) scope _ (g.blk scope s H C cl fp)) fun _ => rfl
    | _ => exact p_no
end Pe
set_option Elab.async false
set_option linter.all false
set_option maxRecDepth 100000
set_option maxHeartbeats 4000000
namespace Pe
open PySem PySem.Spec PyProof.Rows L2
section
variable {K : PySem.W.Frag} {B G0 G H : Hp} {μ : Mu} {S : Store}
/-- a new list becomes a cell -/
theorem Wd.own (w : Wd K B G0 G μ S H) {z : V} {xs : List D} (f : FvOk K B G μ S H z (.nw xs)) : ∃ μ', LeM μ μ' ∧ Wd K B G0 G μ' (S.new (.lst xs)) H ∧ Rep K G μ' z (.ref S.nx) := by
  obtain ⟨p, vs, rfl, hp, gp, bp, np, r⟩ := f
  have hnx : μ S.nx = none := by
    cases e : μ S.nx with
    | none => rfl
    | some a => exact absurd (w.nx _ _ e) (Nat.lt_irrefl _)
  have lm : LeM μ fun n => if n = S.nx then some p else μ n := fun n a e => by
    have hn : n ≠ S.nx := fun z => by rw [z, hnx] at e; cases e
    show (if n = S.nx then some p else μ n) = some a
    rw [if_neg hn]; exact e
  refine ⟨_, lm, ⟨w.gh, w.bh, w.g0, w.gb, fun n a e => ?_, fun n m c c' a h1 h2 e1 e2 => ?_, fun n c h => ?_⟩, .ref (by show (if S.nx = S.nx then some p else _) = _; rw [if_pos rfl])⟩
  · show n < S.nx + 1
    by_cases hn : n = S.nx
    · omega
    · replace e : (if n = S.nx then some p else μ n) = some a := e
      rw [if_neg hn] at e
      have := w.nx n a e
      omega
  · rw [get_new] at h1 h2
    replace e1 : (if n = S.nx then some p else μ n) = some a := e1
    replace e2 : (if m = S.nx then some p else μ m) = some a := e2
    by_cases hn : n = S.nx <;> by_cases hm : m = S.nx
    · omega
    · rw [if_pos hn] at e1; cases e1
      rw [if_neg hm] at e2 h2
      exact absurd e2 (np m c' h2)
    · rw [if_pos hm] at e2; cases e2
      rw [if_neg hn] at e1 h1
      exact absurd e1 (np n c h1)
    · rw [if_neg hn] at e1 h1
      rw [if_neg hm] at e2 h2
      exact w.inj n m c c' a h1 h2 e1 e2
  · rw [get_new] at h
    by_cases hn : n = S.nx
    · rw [if_pos hn] at h
      cases h
      exact ⟨p, by show (if n = S.nx then some p else μ n) = some p; rw [if_pos hn], gp, bp, vs, hp, r.up (fun _ _ e => e) lm⟩
    · rw [if_neg hn] at h
      obtain ⟨a, m, ga, ba, ok⟩ := w.cel n c h
      exact ⟨a, by show (if n = S.nx then some p else μ n) = some a; rw [if_neg hn]; exact m, ga, ba, ok.up (fun _ _ e => e) lm rfl⟩
/-- a cell's list -/
theorem Wd.cell (w : Wd K B G0 G μ S H) {n : Nat} {xs : List D} (h : S.get n = some (.lst xs)) : ∃ a vs, μ n = some a ∧ G a = none ∧ B a = none ∧ H a = some (.lst vs) ∧ Reps K G μ vs xs := by
  obtain ⟨a, m, ga, ba, vs, e, r⟩ := w.cel n _ h
  exact ⟨a, vs, m, ga, ba, e, r⟩
/-- a cell is written -/
theorem Wd.put (w : Wd K B G0 G μ S H) {n : Nat} {a : Addr} {xs ys : List D} {vs : List V} (h : S.get n = some (.lst xs)) (m : μ n = some a) (r : Reps K G μ vs ys) : Wd K B G0 G μ (S.put n (.lst ys)) (upd H a (.lst vs)) := by
  obtain ⟨a', vs', m', ga, ba, ha, _⟩ := w.cell h
  rw [m] at m'; cases m'
  refine ⟨fun b u e => ?_, fun b u e => ?_, w.g0, w.gb, w.nx, fun k l c c' b h1 h2 e1 e2 => ?_, fun k c hk => ?_⟩
  · rw [upd_ne (ne_of_none e ga)]; exact w.gh b u e
  · rw [upd_ne (ne_of_none e ba)]; exact w.bh b u e
  · have g1 : ∃ c, S.get k = some c := by
      rw [get_put] at h1
      by_cases hk : k = n
      · subst hk; exact ⟨_, h⟩
      · rw [if_neg hk] at h1; exact ⟨_, h1⟩
    have g2 : ∃ c, S.get l = some c := by
      rw [get_put] at h2
      by_cases hk : l = n
      · subst hk; exact ⟨_, h⟩
      · rw [if_neg hk] at h2; exact ⟨_, h2⟩
    obtain ⟨c1, g1⟩ := g1
    obtain ⟨c2, g2⟩ := g2
    exact w.inj k l c1 c2 b g1 g2 e1 e2
  · rw [get_put] at hk
    by_cases hn : k = n
    · subst hn
      rw [if_pos rfl, h] at hk
      cases hk
      exact ⟨a, m, ga, ba, vs, upd_same, r⟩
    · rw [if_neg hn] at hk
      obtain ⟨b, mb, gb', bb, ok⟩ := w.cel k c hk
      have hb : b ≠ a := fun z => hn (w.inj k n c _ a hk h (by rw [mb, z]) m)
      exact ⟨b, mb, gb', bb, ok.up (fun _ _ e => e) (fun _ _ e => e) (upd_ne hb)⟩
/-- a cell is let go: its list is held by nobody else -/
theorem Wd.del (w : Wd K B G0 G μ S H) {n : Nat} {a : Addr} {xs : List D} (h : S.get n = some (.lst xs)) (m : μ n = some a) : Wd K B G0 G μ (S.del n) H ∧ FvOk K B G μ (S.del n) H (.ref a) (.nw xs) := by
  obtain ⟨a', vs, m', ga, ba, ha, r⟩ := w.cell h
  rw [m] at m'; cases m'
  have old : ∀ {k : Nat} {c : Cell}, (S.del n).get k = some c → S.get k = some c ∧ k ≠ n := fun {k c} hk => by
    rw [get_del] at hk
    by_cases hn : k = n
    · rw [if_pos hn] at hk; cases hk
    · rw [if_neg hn] at hk; exact ⟨hk, hn⟩
  refine ⟨⟨w.gh, w.bh, w.g0, w.gb, w.nx, fun k l c c' b h1 h2 e1 e2 => w.inj k l c c' b (old h1).1 (old h2).1 e1 e2, fun k c hk => w.cel k c (old hk).1⟩, a, vs, rfl, ha, ga, ba, fun k c hk z => ?_, r⟩
  exact (old hk).2 (w.inj k n c _ a (old hk).1 h z m)
end
section
variable {X : Cx} {cn : Cn} {cf : Cf} {W : L2.WX} {σ : L2.St} {H : Hp}
theorem t_mk {a : E} {Q : VK} (h : tE X.K cn cf W (.mk a) σ H Q) : tE X.K cn cf W a σ H Q := by
  obtain ⟨B, G0, G, μ, S, ρ, w, er, h⟩ := h
  simp only [evE] at h
  refine ⟨B, G0, G, μ, S, ρ, w, er, (After.bnd h).imp fun v G1 μ1 S1 H1 l m w1 h1 z f => ?_⟩
  cases v with
  | fz d => exact After.now w1 h1 z f
  | nw xs =>
    obtain ⟨μ', lm, w2, r⟩ := w1.own f
    exact h1 G1 μ' H1 (fun _ _ e => e) lm w2 z r
theorem t_frz {i : Nat} {Q : VK} (h : tE X.K cn cf W (.frz i) σ H Q) : tVar i σ H Q := by
  obtain ⟨B, G0, G, μ, S, ρ, w, er, h⟩ := h
  simp only [evE] at h
  cases hd : ρ[i]? with
  | none => rw [hd] at h; exact h.elim
  | some o =>
    cases o with
    | none => rw [hd] at h; exact h.elim
    | some d =>
      rw [hd] at h
      obtain ⟨v, hv, r⟩ := er.2 i d hd
      refine ⟨v, hv, ?_⟩
      cases d with
      | ref n =>
        cases r
        rename_i a m
        simp only at h
        cases hg : S.get n with
        | none => rw [hg] at h; exact h.elim
        | some c =>
          cases c with
          | lst xs =>
            rw [hg] at h
            obtain ⟨w', f⟩ := w.del hg m
            exact After.now w' h _ f
          | dct _ => rw [hg] at h; exact h.elim
          | obj _ _ => rw [hg] at h; exact h.elim
      | _ => exact After.now w h v r
end
end Pe
set_option Elab.async false
set_option linter.all false
set_option maxRecDepth 100000
set_option maxHeartbeats 4000000
namespace Pe
open PySem PySem.Spec PyProof.Rows L2
abbrev WU (E : XK) : L2.WX := fun cl d _ H => E cl d H
def EndP (K : PySem.W.Frag) (B : Hp) (D : Ends) : Fl × En → Hp → Mu → Store → Hp → Prop := fun p G' μ' S' H' => match p.1 with
  | .nx => ∀ σ', EnvR K G' μ' p.2 σ' → D.nx σ' H'
  | .rt v => ∀ z, FvOk K B G' μ' S' H' z v → D.rt z H'
section
variable (K : PySem.W.Frag) (cn : Cn) (cf : Cf) (E : XK)
def tS (m : S) : TS := fun D σ H => ∃ B G0 G μ S ρ, Wd K B G0 G μ S H ∧ EnvR K G μ ρ σ ∧ After K cn B G0 G μ σ (WU E) (evS cf m ρ S) (EndP K B D)
def tSs (m : Ss) : TS := fun D σ H => ∃ B G0 G μ S ρ, Wd K B G0 G μ S H ∧ EnvR K G μ ρ σ ∧ After K cn B G0 G μ σ (WU E) (evSs cf m ρ S) (EndP K B D)
end
section
variable {X : Cx} {cn : Cn} {cf : Cf} {E : XK} {σ : L2.St} {H : Hp} {D : Ends}
theorem After.sig {α : Type} {K : PySem.W.Frag} {B G0 G : Hp} {μ : Mu} {σ σ' : L2.St} {r : R α} {P : α → Hp → Mu → Store → Hp → Prop} (h : After K cn B G0 G μ σ (WU E) r P) : After K cn B G0 G μ σ' (WU E) r P := h
theorem rt_now {K : PySem.W.Frag} {B G0 G H : Hp} {μ : Mu} {S : Store} {v : Fv} {ρ' : En} (σ : L2.St) (E : XK) (w : Wd K B G0 G μ S H) (h : After K cn B G0 G μ σ (WU E) (.ok (.rt v, ρ') S) (EndP K B D)) : ∀ z, FvOk K B G μ S H z v → D.rt z H := After.now w h
theorem t_asg {i : Nat} {e : Pe.E} (h : tS X.K cn cf E (.asg i e) D σ H) : tAsg (tE X.K cn cf (WU E) e) (gName i) D σ H := by
  obtain ⟨B, G0, G, μ, S, ρ, w, er, h⟩ := h
  simp only [evS] at h
  exact tE_use w er h fun d G1 μ1 S1 H1 z l m w1 er1 r1 h1 => After.now w1 h1 _ (er1.set r1)
/-- a tuple of names takes a tuple -/
theorem t_asu {ts : List Nat} {e : Pe.E} (h : tS X.K cn cf E (.asu ts e) D σ H) : tE X.K cn cf (WU E) e σ H fun x H1 => (∃ a xs, x = .ref a ∧ (SqT X.K H1 a xs ∨ SqL X.K H1 a xs) ∧ xs.length = ts.length ∧ gT.gNames ts xs σ H1 D.nx) := by
  obtain ⟨B, G0, G, μ, S, ρ, w, er, h⟩ := h
  simp only [evS] at h
  refine tE_use w er h fun d G1 μ1 S1 H1 z l m w1 er1 r1 h1 => ?_
  obtain ⟨ρ', hb, k⟩ := After.opt w1 (After.bnd h1)
  have q := After.now w1 (k G1 H1 (fun _ _ e => e) w1)
  have len : ∀ {ts : List Nat} {ds : List Pe.D} {ρ : En}, bindAll ts ds ρ = some ρ' → ts.length = ds.length := by
    intro ts
    induction ts with
    | nil => intro ds ρ h; cases ds with
      | nil => rfl
      | cons _ _ => simp [bindAll] at h
    | cons i is ih => intro ds ρ h; cases ds with
      | nil => simp [bindAll] at h
      | cons d ds => simp only [bindAll] at h; simp [ih h]
  have s1 := see_ok w1 r1
  generalize S1.see d = d' at s1 hb
  cases s1 <;> simp only [reduceCtorEq] at hb
  · rename_i a xs ds hx rs
    exact ⟨a, xs, rfl, .inr (SqL.of hx), by rw [rs.len]; exact (len hb).symm, gNames_ok (σ := σ) rs er1 hb q⟩
  · rename_i a xs ds hx rs
    exact ⟨a, xs, rfl, .inl (seqT_le w1.gh hx), by rw [rs.len]; exact (len hb).symm, gNames_ok (σ := σ) rs er1 hb q⟩
theorem t_par2 {i j : Nat} {es : Es} (h : tS X.K cn cf E (.par [i, j] es) D σ H) : tPar i j (tEs X.K cn cf (WU E) es) D σ H := by
  obtain ⟨B, G0, G, μ, S, ρ, w, er, h⟩ := h
  simp only [evS] at h
  refine tEs_use w er h fun ds G1 μ1 S1 H1 vs l m w1 er1 r1 h1 => ?_
  obtain ⟨ρ', hb, k⟩ := After.opt w1 (After.bnd h1)
  have q := After.now w1 (k G1 H1 (fun _ _ e => e) w1)
  match ds, vs, r1, hb with
  | [d, e], _, .cons r (.cons r' .nil), hb =>
    simp only [bindAll, Option.some.injEq] at hb
    subst hb
    exact ⟨_, _, rfl, q _ ((er1.set r).set r')⟩
theorem t_par3 {i j k : Nat} {es : Es} (h : tS X.K cn cf E (.par [i, j, k] es) D σ H) : tPar3 i j k (tEs X.K cn cf (WU E) es) D σ H := by
  obtain ⟨B, G0, G, μ, S, ρ, w, er, h⟩ := h
  simp only [evS] at h
  refine tEs_use w er h fun ds G1 μ1 S1 H1 vs l m w1 er1 r1 h1 => ?_
  obtain ⟨ρ', hb, k⟩ := After.opt w1 (After.bnd h1)
  have q := After.now w1 (k G1 H1 (fun _ _ e => e) w1)
  match ds, vs, r1, hb with
  | [d, e, f], _, .cons r (.cons r' (.cons r2 .nil)), hb =>
    simp only [bindAll, Option.some.injEq] at hb
    subst hb
    exact ⟨_, _, _, rfl, q _ (((er1.set r).set r').set r2)⟩
theorem t_exp {e : Pe.E} (h : tS X.K cn cf E (.exp e) D σ H) : tDrop (tE X.K cn cf (WU E) e) D σ H := by
  obtain ⟨B, G0, G, μ, S, ρ, w, er, h⟩ := h
  simp only [evS] at h
  exact ⟨B, G0, G, μ, S, ρ, w, er, (After.bnd h).imp fun v G1 μ1 S1 H1 l m w1 h1 z f => After.now w1 h1 _ (er.up l m)⟩
theorem t_ret {e : Pe.E} (h : tS X.K cn cf E (.ret e) D σ H) : tRet (tE X.K cn cf (WU E) e) D σ H := by
  obtain ⟨B, G0, G, μ, S, ρ, w, er, h⟩ := h
  simp only [evS] at h
  exact ⟨B, G0, G, μ, S, ρ, w, er, (After.bnd h).imp fun v G1 μ1 S1 H1 l m w1 h1 z f => After.now w1 h1 z f⟩
theorem t_rtn (h : tS X.K cn cf E .rtn D σ H) : tRetN D σ H := by
  obtain ⟨B, G0, G, μ, S, ρ, w, er, h⟩ := h
  simp only [evS] at h
  exact After.now w h _ .non
theorem t_pas (h : tS X.K cn cf E .pas D σ H) : tNext D σ H := by
  obtain ⟨B, G0, G, μ, S, ρ, w, er, h⟩ := h
  simp only [evS] at h
  exact After.now w h _ er
theorem t_sno (h : tS X.K cn cf E .no D σ H) : False := by
  obtain ⟨B, G0, G, μ, S, ρ, w, er, h⟩ := h
  simp only [evS] at h
  exact h
theorem t_nilS (h : tSs X.K cn cf E .nil D σ H) : tNext D σ H := by
  obtain ⟨B, G0, G, μ, S, ρ, w, er, h⟩ := h
  simp only [evSs] at h
  exact After.now w h _ er
theorem t_seqS {s : S} {r : Ss} (h : tSs X.K cn cf E (.cons s r) D σ H) : tSeq (tS X.K cn cf E s) (tSs X.K cn cf E r) D σ H := by
  obtain ⟨B, G0, G, μ, S, ρ, w, er, h⟩ := h
  simp only [evSs] at h
  refine ⟨B, G0, G, μ, S, ρ, w, er, (After.bnd h).imp fun p G1 μ1 S1 H1 l m w1 h1 => ?_⟩
  obtain ⟨f, ρ'⟩ := p
  cases f with
  | nx => exact fun σ' er' => ⟨B, G0, G1, μ1, S1, ρ', w1, er', h1⟩
  | rt v => exact rt_now (cn := cn) (ρ' := ρ') σ E w1 h1
/-- the ghost step: a cell's list stays as it is from here on -/
theorem t_stl {i : Nat} {r : Ss} (h : tSs X.K cn cf E (.cons (.stl i) r) D σ H) : tSs X.K cn cf E r D σ H := by
  obtain ⟨B, G0, G, μ, S, ρ, w, er, h⟩ := h
  simp only [evSs, evS] at h
  have hb := After.bnd h
  unfold stlO at hb
  cases hd : ρ[i]? with
  | none => rw [hd] at hb; exact hb.elim
  | some o =>
    cases o with
    | none => rw [hd] at hb; exact hb.elim
    | some d =>
      rw [hd] at hb
      cases d with
      | ref n =>
        simp only at hb
        cases hg : S.get n with
        | none => rw [hg] at hb; exact hb.elim
        | some c =>
          cases c with
          | lst xs =>
            rw [hg] at hb
            obtain ⟨v, hv, r⟩ := er.2 i _ hd
            cases r
            rename_i a m
            obtain ⟨w', f⟩ := w.del hg m
            obtain ⟨G', l, w2, r2⟩ := w'.frz f
            refine ⟨B, G0, G', μ, _, _, w2, ?_, (hb G' μ H l (fun _ _ e => e) w2).sig⟩
            have e2 := (er.up l fun _ _ e => e).set (i := i) r2
            have : σ.set i (some (.ref a)) = σ := by
              apply List.ext_getElem?
              intro j
              by_cases hj : i = j
              · subst hj
                rw [List.getElem?_set_self (List.getElem?_eq_some_iff.mp hv).1]; exact hv.symm
              · rw [List.getElem?_set_ne hj]
            rwa [this] at e2
          | dct _ => rw [hg] at hb; exact hb.elim
          | obj _ _ => rw [hg] at hb; exact hb.elim
      | _ => exact ⟨B, G0, G, μ, S, ρ, w, er, After.now w hb⟩
theorem t_iff {c : Pe.E} {a b : Ss} (h : tS X.K cn cf E (.iff c a b) D σ H) : tIfS (tT X.K cn cf (WU E) c) (tSs X.K cn cf E a) (tSs X.K cn cf E b) D σ H := by
  obtain ⟨B, G0, G, μ, S, ρ, w, er, h⟩ := h
  simp only [evS] at h
  have h' : After X.K cn B G0 G μ σ (WU E) (M.bnd (cmpT cf c ρ) (fun t => if t = true then evSs cf a ρ else evSs cf b ρ) S) (EndP X.K B D) := by
    unfold cmpT
    rw [bnd_assoc]
    exact h
  refine tT_use w er h' fun t G1 μ1 S1 H1 l m w1 er1 h1 => ?_
  cases t with
  | true => exact ⟨B, G0, G1, μ1, S1, ρ, w1, er1, h1⟩
  | false => exact ⟨B, G0, G1, μ1, S1, ρ, w1, er1, h1⟩
theorem t_whl {c : Pe.E} {b : Ss} (h : tS X.K cn cf E (.whl c b) D σ H) : tWhile (tT X.K cn cf (WU E) c) (tSs X.K cn cf E b) D σ H := by
  obtain ⟨B, G0, G, μ, S, ρ, w, er, h⟩ := h
  simp only [evS] at h
  refine ⟨fun m σ H => ∃ G μ S ρ, Wd X.K B G0 G μ S H ∧ EnvR X.K G μ ρ σ ∧ After X.K cn B G0 G μ σ (WU E) (loopW (cmpT cf c) (evSs cf b) m ρ S) (EndP X.K B D), ⟨whMax, G, μ, S, ρ, w, er, h⟩, ?_⟩
  rintro m σ H ⟨G, μ, S, ρ, w, er, h⟩
  cases m with
  | zero => exact h.elim
  | succ m =>
    simp only [loopW] at h
    refine tT_use w er h fun t G1 μ1 S1 H1 l m' w1 er1 h1 => ?_
    cases t with
    | true =>
      rw [if_pos rfl] at h1 ⊢
      refine ⟨fun σ H => ∃ G μ S ρ, Wd X.K B G0 G μ S H ∧ EnvR X.K G μ ρ σ ∧ After X.K cn B G0 G μ σ (WU E) (loopW (cmpT cf c) (evSs cf b) m ρ S) (EndP X.K B D), fun σ' H' q => ⟨m, Nat.lt_succ_self m, q⟩, ?_⟩
      refine ⟨B, G0, G1, μ1, S1, ρ, w1, er1, (After.bnd h1).imp fun p G2 μ2 S2 H2 l2 m2 w2 h2 => ?_⟩
      obtain ⟨f, ρ'⟩ := p
      cases f with
      | nx => exact fun σ' er' => ⟨G2, μ2, S2, ρ', w2, er', h2⟩
      | rt v => exact rt_now (cn := cn) (ρ' := ρ') σ E w2 h2
    | false =>
      rw [if_neg (by decide)] at h1 ⊢
      exact After.now w1 h1 _ er1
theorem t_fr {t : T} {it : It} {b : Ss} (h : tS X.K cn cf E (.fr t it b) D σ H) : tFor (tI X.K cn cf (WU E) it) (gT X.K t) (tSs X.K cn cf E b) D σ H := by
  obtain ⟨B, G0, G, μ, S, ρ, w, er, h⟩ := h
  simp only [evS] at h
  cases hc : cellI it ρ with
  | some n =>
    rw [hc] at h
    simp only [pick] at h
    obtain ⟨i0, hit, hi0⟩ := cellI_some hc
    subst hit
    have h := After.bnd h
    cases hr : readC n S with
    | exc x S1 => unfold readC at hr; split at hr <;> cases hr
    | bad => rw [hr] at h; exact h.elim
    | ok xs S1 =>
    obtain ⟨rfl, hg⟩ := readC_ok hr
    rw [hr] at h
    obtain ⟨a, ha, _⟩ := w.cel n _ hg
    refine .inr ⟨i0, n, a, xs, B, G0, G, μ, _, ρ, rfl, w, er, hi0, hg, ha, fun G1 μ1 H1 l1 m1 w1 => ?_⟩
    have h1 := h G1 μ1 H1 l1 m1 w1
    refine ⟨fun i k σ H => k = xs.length - i ∧ i ≤ xs.length ∧ ∃ G' μ' S' ρ', Le G1 G' ∧ LeM μ1 μ' ∧ Wd X.K B G0 G' μ' S' H ∧ EnvR X.K G' μ' ρ' σ ∧ After X.K cn B G0 G' μ' σ (WU E) (loopC n xs t (evSs cf b) (xs.drop i) ρ' S') (EndP X.K B D),
      ⟨_, rfl, Nat.zero_le _, G1, μ1, _, ρ, fun _ _ e => e, fun _ _ e => e, w1, er.up l1 m1, by simpa using h1⟩, ?_⟩
    rintro i k σ' H' ⟨rfl, hi, G', μ', S', ρ', lG, lM, w', er', h'⟩
    have cell : S'.get n = some (.lst xs) → ∃ us, H' a = some (.lst us) ∧ Reps X.K G' μ' us xs := fun hgx => by
      obtain ⟨a', k1, _, _, us, hv, ru⟩ := w'.cel n _ hgx
      rw [lM _ _ (m1 _ _ ha)] at k1; cases k1
      exact ⟨us, hv, ru⟩
    by_cases hlt : i < xs.length
    · right
      rw [List.drop_eq_getElem_cons hlt] at h'
      simp only [loopC] at h'
      have h' := After.bnd h'
      cases hs : still n xs S' with
      | exc x S1 => unfold still at hs; split at hs; split at hs <;> cases hs; cases hs
      | bad => rw [hs] at h'; exact h'.elim
      | ok u S0 =>
      obtain ⟨rfl, hg'⟩ := still_ok hs
      rw [hs] at h'
      have h' := h' G' μ' H' (fun _ _ e => e) (fun _ _ e => e) w'
      obtain ⟨us, hus, rus⟩ := cell hg'
      obtain ⟨v, hv, rv⟩ := rus.get (List.getElem?_eq_getElem hlt)
      refine ⟨⟨us, v, SqL.of hus, hv⟩, fun σ H => xs.length - (i + 1) = xs.length - (i + 1) ∧ i + 1 ≤ xs.length ∧ ∃ G' μ' S' ρ', Le G1 G' ∧ LeM μ1 μ' ∧ Wd X.K B G0 G' μ' S' H ∧ EnvR X.K G' μ' ρ' σ ∧ After X.K cn B G0 G' μ' σ (WU E) (loopC n xs t (evSs cf b) (xs.drop (i + 1)) ρ' S') (EndP X.K B D),
        fun σ H q => ⟨_, by omega, q⟩, fun x H2 hy => ?_⟩
      obtain ⟨rfl, hyx⟩ := hy
      have := hyx us (SqL.of hus)
      rw [hv] at this; cases this
      obtain ⟨ρ1, hb, k1⟩ := After.opt w' (After.bnd h')
      refine gT_ok w'.gh rv er' hb fun σ2 er2 => ?_
      have q := k1 G' H2 (fun _ _ e => e) w'
      refine ⟨B, G0, G', μ', _, ρ1, w', er2, (After.bnd q).imp fun p G3 μ3 S3 H3 l3 m3 w3 h3 => ?_⟩
      obtain ⟨f, ρ2⟩ := p
      cases f with
      | nx => exact fun σ3 er3 => ⟨rfl, hlt, G3, μ3, S3, ρ2, fun a o q => l3 _ _ (lG _ _ q), fun n a q => m3 _ _ (lM _ _ q), w3, er3, h3⟩
      | rt v => exact rt_now (cn := cn) (ρ' := ρ2) σ E w3 h3
    · left
      have hie : i = xs.length := by omega
      subst hie
      rw [List.drop_length] at h'
      simp only [loopC] at h'
      have h' := After.bnd h'
      cases hs : still n xs S' with
      | exc x S1 => unfold still at hs; split at hs; split at hs <;> cases hs; cases hs
      | bad => rw [hs] at h'; exact h'.elim
      | ok u S0 =>
      obtain ⟨rfl, hg'⟩ := still_ok hs
      rw [hs] at h'
      have h' := h' G' μ' H' (fun _ _ e => e) (fun _ _ e => e) w'
      obtain ⟨us, hus, rus⟩ := cell hg'
      exact ⟨⟨us, SqL.of hus, by rw [rus.len]; exact Nat.le_refl _⟩, After.now w' h' _ er'⟩
  | none =>
  rw [hc] at h
  simp only [pick] at h
  refine .inl ⟨B, G0, G, μ, S, ρ, w, er, (After.bnd h).imp fun xs G1 μ1 S1 H1 l m w1 h1 J wk => ?_⟩
  refine ⟨fun i k σ H => k = xs.length - i ∧ i ≤ xs.length ∧ ∃ G' μ' S' ρ', Le G1 G' ∧ LeM μ1 μ' ∧ Wd X.K B G0 G' μ' S' H ∧ EnvR X.K G' μ' ρ' σ ∧ After X.K cn B G0 G' μ' σ (WU E) (loopF t (evSs cf b) (xs.drop i) ρ' S') (EndP X.K B D),
    ⟨_, rfl, Nat.zero_le _, G1, μ1, S1, ρ, fun _ _ e => e, fun _ _ e => e, w1, er.up l m, by simpa using h1⟩, ?_⟩
  rintro i k σ' H' ⟨rfl, hi, G', μ', S', ρ', lG, lM, w', er', h'⟩
  have lH : Le G1 H' := fun a o q => w'.gh _ _ (lG _ _ q)
  by_cases hlt : i < xs.length
  · right
    refine ⟨wk.go i H' lH hlt, fun σ H => xs.length - (i + 1) = xs.length - (i + 1) ∧ i + 1 ≤ xs.length ∧ ∃ G' μ' S' ρ', Le G1 G' ∧ LeM μ1 μ' ∧ Wd X.K B G0 G' μ' S' H ∧ EnvR X.K G' μ' ρ' σ ∧ After X.K cn B G0 G' μ' σ (WU E) (loopF t (evSs cf b) (xs.drop (i + 1)) ρ' S') (EndP X.K B D),
      fun σ H q => ⟨_, by omega, q⟩, fun x H2 hy => ?_⟩
    rw [List.drop_eq_getElem_cons hlt] at h'
    simp only [loopF] at h'
    obtain ⟨ρ1, hb, k1⟩ := After.opt w' (After.bnd h')
    obtain ⟨Gx, lx, wx, rx⟩ := yld_world w' lG lM wk (List.getElem?_eq_getElem hlt) hy
    refine gT_ok wx.gh rx (er'.up lx fun _ _ e => e) hb fun σ2 er2 => ?_
    have q := k1 Gx H2 lx wx
    refine ⟨B, G0, Gx, μ', S', ρ1, wx, er2, (After.bnd q).imp fun p G3 μ3 S3 H3 l3 m3 w3 h3 => ?_⟩
    obtain ⟨f, ρ2⟩ := p
    cases f with
    | nx => exact fun σ3 er3 => ⟨rfl, hlt, G3, μ3, S3, ρ2, fun a o q => l3 _ _ (lx _ _ (lG _ _ q)), fun n a q => m3 _ _ (lM _ _ q), w3, er3, h3⟩
    | rt v => exact rt_now (cn := cn) (ρ' := ρ2) σ E w3 h3
  · left
    have hie : i = xs.length := by omega
    subst hie
    rw [List.drop_length] at h'
    simp only [loopF] at h'
    exact ⟨wk.stop _ H' lH (Nat.le_refl _), After.now w' h' _ er'⟩
theorem t_app {o e : Pe.E} (h : tS X.K cn cf E (.app o e) D σ H) : tDrop (tBM X.K "list" rAppend (tE X.K cn cf (WU E) o) (tCons (tE X.K cn cf (WU E) e) tNil)) D σ H := by
  obtain ⟨B, G0, G, μ, S, ρ, w, er, h⟩ := h
  simp only [evS] at h
  refine tE_use w er h fun d G1 μ1 S1 H1 z l m w1 er1 r1 h1 => ?_
  have hb := After.bnd h1
  unfold isCell at hb
  cases d with
  | ref n =>
    simp only at hb
    cases hg : S1.get n with
    | none => rw [hg] at hb; exact hb.elim
    | some c =>
      cases c with
      | lst xs =>
        rw [hg] at hb
        cases r1
        rename_i a ma
        obtain ⟨a', vs, m1, ga, ba, ha, rs⟩ := w1.cell hg
        rw [ma] at m1; cases m1
        refine ⟨.inl ⟨rfl, vs, SqL.of ha⟩, ?_⟩
        refine tE_use w1 er1 (After.now w1 hb) fun v G2 μ2 S2 H2 y l2 m2 w2 er2 r2 h2 => ?_
        have hc := After.bnd h2
        unfold appO at hc
        simp only at hc
        cases hg2 : S2.get n with
        | none => rw [hg2] at hc; exact hc.elim
        | some c2 =>
          cases c2 with
          | lst ys =>
            rw [hg2] at hc
            simp only at hc
            obtain ⟨a', ws, m2', ga2, ba2, ha2, rs2⟩ := w2.cell hg2
            rw [m2 _ _ ma] at m2'; cases m2'
            split at hc
            · rename_i hz
              have w3 := w2.put hg2 (m2 _ _ ma) (rs2.app (.cons r2 .nil))
              refine ⟨a, ws, y, rfl, rfl, ha2, by rw [rs2.len]; exact hz, ?_⟩
              exact After.now w3 (hc G2 μ2 _ (fun _ _ e => e) (fun _ _ e => e) w3) _ er2
            · exact hc.elim
          | dct _ => rw [hg2] at hc; exact hc.elim
          | obj _ _ => rw [hg2] at hc; exact hc.elim
      | dct _ => rw [hg] at hb; exact hb.elim
      | obj _ _ => rw [hg] at hb; exact hb.elim
  | _ => exact hb.elim
theorem t_sti {o i e : Pe.E} (h : tS X.K cn cf E (.sti o i e) D σ H) : tAsg (tE X.K cn cf (WU E) e) (gSub (tE X.K cn cf (WU E) o) (tE X.K cn cf (WU E) i) rSetL) D σ H := by
  obtain ⟨B, G0, G, μ, S, ρ, w, er, h⟩ := h
  simp only [evS] at h
  refine tE_use w er h fun v G1 μ1 S1 H1 z l m w1 er1 r1 h1 => ?_
  refine tE_use w1 er1 h1 fun d G2 μ2 S2 H2 x l2 m2 w2 er2 r2 h2 => ?_
  refine tE_use w2 er2 h2 fun k G3 μ3 S3 H3 y l3 m3 w3 er3 r3 h3 => ?_
  have hc := After.bnd h3
  have r1' := (r1.up l2 m2).up l3 m3
  have r2' := r2.up l3 m3
  unfold stI at hc
  cases d with
  | ref n =>
    simp only at hc
    cases hg : S3.get n with
    | none => rw [hg] at hc; exact hc.elim
    | some c =>
      cases c with
      | lst xs =>
        rw [hg] at hc
        cases r3 <;> simp only at hc <;> first | exact hc.elim | skip
        rename_i k
        cases hj : L2.ixN xs.length k with
        | none => rw [hj] at hc; exact hc.elim
        | some j =>
          rw [hj] at hc
          cases r2'
          rename_i a ma
          obtain ⟨a', vs, m1, ga, ba, ha, rs⟩ := w3.cell hg
          rw [ma] at m1; cases m1
          have w4 := w3.put hg ma (Reps.set r1' j rs)
          refine ⟨a, vs, k, j, rfl, rfl, ha, by rw [rs.len]; exact hj, ?_⟩
          exact After.now w4 (hc G3 μ3 _ (fun _ _ e => e) (fun _ _ e => e) w4) _ er3
      | dct _ => rw [hg] at hc; exact hc.elim
      | obj _ _ => rw [hg] at hc; exact hc.elim
  | _ => exact hc.elim
end
end Pe
set_option Elab.async false
set_option linter.all false
set_option maxRecDepth 100000
set_option maxHeartbeats 4000000
namespace Pe
open PySem PySem.Spec PyProof.Rows L2
section
variable {X : Cx} {cn : Cn} {cf : Cf} {E : XK} {σ : L2.St} {H : Hp} {D : Ends}
theorem t_rse {c : Str} (h : tS X.K cn cf E (.rse c [] .nil) D σ H) : E (cN X.K c) none H := by
  obtain ⟨B, G0, G, μ, S, ρ, w, er, h⟩ := h
  simp only [evS, evEs] at h
  exact h G μ H (cN X.K c) none (fun _ _ e => e) (fun _ _ e => e) w ⟨rfl, .inl ⟨rfl, rfl, rfl⟩⟩
theorem t_rseF {c f : Str} {fs : List Str} {es : Es} (hl : ∀ ρ S ds S', evEs cf es ρ S = .ok ds S' → ds.length = (f :: fs).length) (h : tS X.K cn cf E (.rse c (f :: fs) es) D σ H) :
    tXiR (He.ga X.K c) (f :: fs) (tEs X.K cn cf (WU E) es) σ H fun cl dd H' => WU E cl dd σ H' := by
  obtain ⟨B, G0, G, μ, S, ρ, w, er, h⟩ := h
  simp only [evS] at h
  refine ⟨B, G0, G, μ, S, ρ, w, er, ?_⟩
  have hb := After.bnd h
  cases e2 : evEs cf es ρ S with
  | ok ds S2 =>
    rw [e2] at hb
    intro G2 μ2 H2 l2 m2 w2 vs rs
    have hvl : vs.length = (f :: fs).length := by rw [rs.len, hl _ _ _ _ e2]
    refine ⟨hvl, fun dx hdx => ?_⟩
    have h3 := hb G2 μ2 H2 l2 m2 w2
    obtain ⟨w3, le3, gp3⟩ := w2.newG (o := .xd ((f :: fs).zip vs)) hdx
    dsimp only at h3
    split at h3
    · rw [if_neg (by simp), if_pos (hl _ _ _ _ e2).symm] at h3
      exact h3 _ μ2 _ (cN X.K c) (some dx) le3 (fun _ _ e => e) w3 ⟨rfl, .inr ⟨dx, vs, rfl, upd_same, hvl.symm, rs.up le3 fun _ _ e => e⟩⟩
    · exact h3.elim
  | exc x S2 => rw [e2] at hb; exact hb
  | bad => rw [e2] at hb; exact hb
theorem t_sta {o e : Pe.E} {f : Str} {cs : List Str} (hc : ∀ c ∈ cs, Cls X.K (He.ga X.K c) ∧ NoAttr X.K (He.ga X.K c) f) (h : tS X.K cn cf E (.sta o f cs e) D σ H) : sFld X.K (tE X.K cn cf (WU E) o) (tE X.K cn cf (WU E) e) f D σ H := by
  obtain ⟨B, G0, G, μ, S, ρ, w, er, h⟩ := h
  simp only [evS] at h
  refine tE_use w er h fun v G1 μ1 S1 H1 y l1 m1 w1 er1 r1 h1 => ?_
  refine tE_use w1 er1 h1 fun d G2 μ2 S2 H2 x l2 m2 w2 er2 r2 h2 => ?_
  replace h2 := After.bnd h2
  cases r2 with
  | ref hm =>
    rename_i n a
    simp only [staO] at h2
    cases hg : S2.get n with
    | none => rw [hg] at h2; exact h2.elim
    | some c =>
      cases c with
      | obj c fs =>
        rw [hg] at h2
        simp only at h2
        split at h2
        · rename_i hcc
          simp only [Bool.and_eq_true, decide_eq_true_eq] at hcc
          obtain ⟨a', dx, vfs, m', _, _, e', r⟩ := w2.objAt hg
          rw [hm] at m'; cases m'
          obtain ⟨c1, c2⟩ := hc c (List.contains_iff_mem.mp hcc.2)
          refine ⟨a, _, dx, vfs, rfl, e', c1, c2, by rw [r.len]; omega, ?_⟩
          have r' := r.put (f := f) (r1.up l2 m2)
          have w3 := w2.putO (dx := dx) hg hm r'
          have h3 := h2 G2 μ2 _ (fun _ _ e => e) (fun _ _ e => e) w3
          exact After.now w3 h3 _ er2
        · exact h2.elim
      | lst _ => rw [hg] at h2; exact h2.elim
      | dct _ => rw [hg] at h2; exact h2.elim
  | _ => exact h2.elim
end
section
variable (K : PySem.W.Frag) (cn : Cn) (cf : Cf) (W : L2.WX)
def tSsW (m : Ss) : TS := fun D σ H => ∃ B G0 G μ S ρ, Wd K B G0 G μ S H ∧ EnvR K G μ ρ σ ∧ After K cn B G0 G μ σ W (evSs cf m ρ S) (EndP K B D)
end
section
variable {X : Cx} {cn : Cn} {cf : Cf} {W : L2.WX} {σ : L2.St} {H : Hp} {D : Ends}
theorem tw_no {r : Ss} (h : tSsW X.K cn cf W (.cons .no r) D σ H) : False := by
  obtain ⟨B, G0, G, μ, S, ρ, w, er, h⟩ := h
  simp only [evSs, evS] at h
  exact h
theorem tw_nil (h : tSsW X.K cn cf W .nil D σ H) : tNext D σ H := by
  obtain ⟨B, G0, G, μ, S, ρ, w, er, h⟩ := h
  simp only [evSs] at h
  exact After.now w h _ er
theorem tw_asg {i : Nat} {e : Pe.E} (h : tSsW X.K cn cf W (.cons (.asg i e) .nil) D σ H) : tAsg (tE X.K cn cf W e) (gName i) D σ H := by
  obtain ⟨B, G0, G, μ, S, ρ, w, er, h⟩ := h
  simp only [evSs, evS] at h
  rw [bnd_assoc] at h
  exact tE_use w er h fun d G1 μ1 S1 H1 z l m w1 er1 r1 h1 => After.now w1 h1 _ (er1.set r1)
theorem tw_exp {e : Pe.E} (h : tSsW X.K cn cf W (.cons (.exp e) .nil) D σ H) : tDrop (tE X.K cn cf W e) D σ H := by
  obtain ⟨B, G0, G, μ, S, ρ, w, er, h⟩ := h
  simp only [evSs, evS] at h
  rw [bnd_assoc] at h
  exact ⟨B, G0, G, μ, S, ρ, w, er, (After.bnd h).imp fun v G1 μ1 S1 H1 l m w1 h1 z f => After.now w1 h1 _ (er.up l m)⟩
theorem tw_iff {c : Pe.E} {a b : Ss} (h : tSsW X.K cn cf W (.cons (.iff c a b) .nil) D σ H) : tIfS (tT X.K cn cf W c) (tSsW X.K cn cf W a) (tSsW X.K cn cf W b) D σ H := by
  obtain ⟨B, G0, G, μ, S, ρ, w, er, h⟩ := h
  simp only [evSs] at h
  replace h := (After.bnd h).imp (P' := EndP X.K B D) fun p G' μ' S' H' l m w' hh => by
    obtain ⟨f, r⟩ := p
    cases f with
    | nx => exact After.now w' hh
    | rt v => exact After.now w' hh
  simp only [evS] at h
  have h' : After X.K cn B G0 G μ σ W (M.bnd (cmpT cf c ρ) (fun t => if t = true then evSs cf a ρ else evSs cf b ρ) S) (EndP X.K B D) := by
    unfold cmpT
    rw [bnd_assoc]
    exact h
  refine tT_use w er h' fun t G1 μ1 S1 H1 l m w1 er1 h1 => ?_
  cases t with
  | true => exact ⟨B, G0, G1, μ1, S1, ρ, w1, er1, h1⟩
  | false => exact ⟨B, G0, G1, μ1, S1, ρ, w1, er1, h1⟩
end
theorem EnvR.none {K : PySem.W.Frag} {G : Hp} {μ : Mu} {ρ : En} {σ : L2.St} {i : Nat} {x : Option V} (h : EnvR K G μ ρ σ) : EnvR K G μ (ρ.set i none) (σ.set i x) := by
  refine ⟨by simp [h.1], fun j e q => ?_⟩
  by_cases hj : i = j
  · subst hj
    have hl : i < ρ.length := by
      have := (List.getElem?_eq_some_iff.mp q).1
      simpa using this
    rw [List.getElem?_set_self hl] at q
    cases q
  · rw [List.getElem?_set_ne hj] at q
    rw [List.getElem?_set_ne hj]
    exact h.2 j e q
section
variable {X : Cx} {cn : Cn} {cf : Cf} {E : XK} {σ : L2.St} {H : Hp} {D : Ends}
/-- the suite: another name takes the exception -/
def tKeep (i j : Nat) : TS := tAsg (tVar i) (gName j)
theorem t_tri {b : Ss} {cs ds : List Str} {i j : Nat} {cv : Value} (hs : Isb X.K cv cs ds) (hi : i < X.N.length) (hlen : σ.length = X.N.length) (h : tS X.K cn cf E (.tri b cs ds i j) D σ H) :
    tSsW X.K cn cf (wAsK X.K cv i (fun _ _ _ => tKeep i j) (WU E) D) b D σ H := by
  obtain ⟨B, G0, G, μ, S, ρ, w, er, h⟩ := h
  simp only [evS] at h
  refine ⟨B, G0, G, μ, S, ρ, w, er, ?_⟩
  cases e : evSs cf b ρ S with
  | ok p S1 => rw [e] at h; exact h
  | exc x S1 =>
    rw [e] at h
    intro G1 μ1 H1 cl dd l1 m1 w1 ex
    simp only at h
    cases hb : inB cs ds x.c with
    | none => rw [hb] at h; exact h.elim
    | some t =>
      rw [hb] at h
      obtain ⟨c1, c2, c3⟩ := hs.at hb
      refine ⟨t, by rw [ex.1]; exact c2, fun ht a ha => ?_, fun hf => ?_⟩
      · subst ht
        simp only at h
        have hsi : (σ.set i (some (V.ref a)))[i]? = some (some (.ref a)) := List.getElem?_set_self (by rw [hlen]; exact hi)
        refine ⟨_, hsi, fun na => ?_⟩
        obtain ⟨w2, le, gp⟩ := w1.newG (o := ExK cl dd a) na
        have r : Rep X.K (upd G1 a (ExK cl dd a)) μ1 (.ref a) (.exn x.c x.ns x.xs) := by
          obtain ⟨ec, ee⟩ := ex
          subst ec
          obtain ⟨xc, xn, xx⟩ := x
          rcases ee with ⟨e1, e2, e3⟩ | ⟨d, vs, e1, e2, e3, e4⟩
          · simp only at e1 e2
            subst e1 e2 e3
            exact .exn0 upd_same
          · subst e1
            exact .exnF upd_same (le _ _ e2) e3 (e4.up le fun _ _ e => e)
        exact h (upd G1 a (ExK cl dd a)) μ1 _ (fun a o q => le a o (l1 a o q)) m1 w2 _ ((((er.up (fun a o q => le a o (l1 a o q)) m1).none).set r).clr)
      · subst hf
        exact h G1 μ1 H1 cl dd l1 m1 w1 ex
  | bad => rw [e] at h; exact h.elim
end
end Pe
set_option Elab.async false
set_option linter.all false
set_option maxRecDepth 100000
set_option maxHeartbeats 4000000
namespace Pe
open PySem PySem.Spec PyProof.Rows L2
/-- what is told with a def: the slots whose lists are cells; the names to be settled -/
structure Ds where
  ce : List Nat
  st : List Str
  ca : List Str := []
def Ds.stl (d : Ds) : List Str := if d.st.contains ⟨#[]⟩ then [] else d.st
def cV (r : Expr → E) (d : Ds) (i : Nat) (e : Expr) : E := if d.ce.contains i then .mk (r e) else r e
def cEsM (r : Expr → E) (d : Ds) : List Nat → List Expr → Es
  | i :: is, e :: es => .cons false (cV r d i e) (cEsM r d is es)
  | _, [] => .nil
  | [], e :: _ => .cons false .no .nil
def isLc : Expr → Bool
  | .ListComp _ _ _ _ => true
  | .SetComp _ _ _ _ => true
  | .DictComp _ _ _ _ _ => true
  | _ => false
def isSl : Expr → Bool
  | .Slice _ _ _ _ => true
  | _ => false
def namesOf (sc : Scope) (line : Nat) (ts : List Expr) : List Str := ts.filterMap fun
  | .Name id pos => if sc.names.lookup id == some .local && pos.line == line then some id else none
  | _ => none
/-- how a tuple of names takes a tuple that is written: whole (false), or name by name (true) -/
def swP (sc : Scope) (ts vs : List Expr) : Option (Option (List Str)) :=
  if !(ts.length == 2 || ts.length == 3) || vs.length != ts.length then some none
  else if !nost vs then some none
  else
    let names := namesOf sc ((ts.head?.map (·.pos.line)).getD 0) ts
    if names.length != ts.length || names.eraseDups.length != names.length then some none
    else if vs.all (foldedForSure 8) then some none
    else if vs.all (constantsAlone 8) then none
    else some (some names)
def sAppend : Str := ⟨#[97,112,112,101,110,100]⟩
mutual
/-- does a statement change the list that a name holds -/
def mutB (x : Str) : Stmt → Bool
  | .Expr (.Call (.Attribute (.Name y _) _ _) _ _ _) _ => decide (y = x)
  | .Assign [.Subscript (.Name y _) _ _] _ _ => decide (y = x)
  | .If _ a b _ => mutBs x a || mutBs x b
  | .For _ _ b _ _ => mutBs x b
  | .While _ b _ _ => mutBs x b
  | _ => false
def mutBs (x : Str) : List Stmt → Bool
  | [] => false
  | s :: r => mutB x s || mutBs x r
end
def isName (x : Str) : Expr → Bool
  | .Name y _ => decide (y = x)
  | _ => false
def asgB (x : Str) : Stmt → Bool
  | .Assign [.Name y _] _ _ => decide (y = x)
  | .Assign [.Tuple ts _ _] _ _ => ts.any (isName x)
  | _ => false
def ghosts (N : List Str) : List Str → Ss → Ss
  | [], r => r
  | x :: xs, r => match slot N x with
    | some i => .cons (.stl i) (ghosts N xs r)
    | none => ghosts N xs r
def cTupA (r : Expr → E) (sc : Scope) (d : Ds) (ts : List Expr) (is : List Nat) (e : Expr) : S := match e with
  | .Tuple vs _ _ => if nost vs then (match swP sc ts vs with
      | none => .no
      | some none => .asu is (.tup (cEsM r d is vs))
      | some (some _) => .par is (cEsM r d is vs))
    else .no
  | e => .asu is (r e)
/-- o[i], p[j] = a, b -/
def cSw (r : Expr → E) (ts : List Expr) (e : Expr) : S := match ts, e with
  | [.Subscript o i _, .Subscript p j _], .Tuple [a, b] _ _ => if isStar a || isStar b || isSl i || isSl j then .no else .asx [.ix (r o) (r i), .ix (r p) (r j)] (.cons false (r a) (.cons false (r b) .nil))
  | _, _ => .no
def cAsg (r : Expr → E) (c : Cc) (sc so : Scope) (d : Ds) (tg e : Expr) : S := match tg with
  | .Name x _ => if locB so x then (match slot c.N x with | some i => .asg i (cV r d i e) | none => .no) else .no
  | .Tuple ts _ _ => (match tgNames c.N so ts with
    | none => cSw r ts e
    | some is => cTupA r sc d ts is e)
  | .Subscript o i _ => if isLc e || isSl i then .no else .sti (r o) (r i) (r e)
  | .Attribute o f _ => if isLc e then .no else (match c.kt.att f with
    | some (cs, _) => .sta (r o) f cs (if d.ca.contains f then .mk (r e) else r e)
    | none => .no)
  | _ => .no
def cRet (r : Expr → E) (c : Cc) (sc : Scope) (d : Ds) (e : Expr) : E := match e with
  | .Name x _ => (match slot c.N x with
    | some i => if visB sc x && d.ce.contains i && !(x == (⟨#[95,95,100,101,98,117,103,95,95]⟩ : Str)) && !(x == (⟨#[95,95,99,108,97,115,115,100,105,99,116,95,95]⟩ : Str)) then .frz i else r e
    | none => r e)
  | e => r e
def cXp (r : Expr → E) (e : Expr) : S := match e with
  | .Constant (.str _) _ _ => .pas
  | .Call (.Attribute o m ap) [a] [] cp => if decide (m = sAppend) && noSup o && (ap.endLine == cp.line) && !isStar a then .app (r o) (r a) else .exp (r e)
  | e => if isLc e then .no else .exp (r e)
/-- raise X() -/
def cRaise (r : Expr → E) (c : Cc) (sc : Scope) : Expr → S
  | .Call (.Name x _) args [] _ => (match c.kt.exc x with
    | some [] => if glB sc x && args.isEmpty then .rse x [] .nil else .no
    | some ns => if glB sc x && nost args && decide (args.length = ns.length) then .rse x ns (cEs r args) else .no
    | _ => .no)
  | _ => .no
def cTa (r : Expr → E) (c : Cc) (so : Scope) (d : Ds) : List Expr → Expr → Ss
  | [.Name x _], e => if locB so x && !isLc e then (match slot c.N x with | some i => .cons (.asg i (cV r d i e)) .nil | none => .cons .no .nil) else .cons .no .nil
  | _, _ => .cons .no .nil
mutual
/-- the body of a try: one statement, or an if of such -/
def cT1 (r : Expr → E) (c : Cc) (so : Scope) (d : Ds) : Stmt → Ss
  | .Assign ts e _ => cTa r c so d ts e
  | .Expr e _ => if isLc e then .cons .no .nil else .cons (.exp (r e)) .nil
  | .If t a b _ => .cons (.iff (r t) (cT r c so d a) (cT r c so d b)) .nil
  | _ => .cons .no .nil
def cT (r : Expr → E) (c : Cc) (so : Scope) (d : Ds) : List Stmt → Ss
  | [] => .nil
  | s :: r' => match r' with
    | [] => cT1 r c so d s
    | _ => .cons .no .nil
end
def locL (sc : Scope) (x : Str) : Bool := match sc.names.lookup x with
  | some .local => true
  | _ => false
theorem locL_ok {sc : Scope} {x : Str} (h : locL sc x = true) : sc.names.lookup x = some .local := by
  unfold locL at h
  split at h
  · assumption
  · cases h
/-- try: m, except x as n: y = n -/
def cTry (m : Ss) (c : Cc) (sc so : Scope) : List ExceptHandler → S
  | [.ExceptHandler (some (.Name x _)) (some n) [.Assign [.Name y _] (.Name n' _) _] _] =>
    if decide (n' = n) && locL sc n && locB so y && glB sc x && !(n == (⟨#[95,95,100,101,98,117,103,95,95]⟩ : Str)) && !(n == (⟨#[95,95,99,108,97,115,115,100,105,99,116,95,95]⟩ : Str)) then
      (match slot c.N n, slot c.N y, c.kt.sub x with
        | some i, some j, some (cs, ds) => .tri m cs ds i j
        | _, _, _ => .no)
    else .no
  | _ => .no
mutual
def cS (c : Cc) (n : Nat) (sc so : Scope) (d : Ds) : Stmt → S
  | .Pass _ => .pas
  | .Return none _ => .rtn
  | .Return (some e) _ => .ret (cRet (cE c n sc) c sc d e)
  | .Assign [tg] e _ => cAsg (cE c n sc) c sc so d tg e
  | .If t a b _ => .iff (cE c n sc t) (cSs c n sc so d [] a) (cSs c n sc so d [] b)
  | .For tg it b [] _ => (match cTg c.N so tg with
    | some t => if notSet it then .fr t (cIt (cE c n sc) c sc tg it) (cSs c n sc so d [] b) else .no
    | none => .no)
  | .While t b [] _ => .whl (cE c n sc t) (cSs c n sc so d [] b)
  | .Expr e _ => cXp (cE c n sc) e
  | .Raise (some e) none _ => cRaise (cE c n sc) c sc e
  | .Try b hs [] [] _ => cTry (cT (cE c n sc) c so d b) c sc so hs
  | _ => .no
def cSs (c : Cc) (n : Nat) (sc so : Scope) (d : Ds) (seen : List Str) : List Stmt → Ss
  | [] => .nil
  | s :: r => .cons (cS c n sc so d s) (ghosts c.N (d.stl.filter fun x => (seen.contains x || asgB x s) && mutB x s && !mutBs x r) (cSs c n sc so d (seen ++ d.stl.filter fun x => asgB x s) r))
end
section
variable {c : Cc} {lv : Nat} {cn : Cn} {cf : Cf} {E : XK} {W : L2.WX} {sc so : Scope} {X : Cx} {d : Ds}
theorem ps_imp {st : Stmt} {t t' : TS} (h : PS X st t) (i : ∀ D σ H, t' D σ H → t D σ H) : PS X st t' := ⟨fun pins s σ H D I q => h.run pins s σ H D I (i D σ H q)⟩
theorem pss_imp {st : List Stmt} {t t' : TS} (h : PSs X st t) (i : ∀ D σ H, t' D σ H → t D σ H) : PSs X st t' := ⟨fun pins s σ H D I q => h.run pins s σ H D I (i D σ H q)⟩
theorem ps_no {st : Stmt} : PS X st (tS X.K cn cf E .no) := ⟨fun _ _ _ _ _ _ h => (t_sno h).elim⟩
theorem pe_cV {W : L2.WX} {r : Expr → Pe.E} {i : Nat} {e : Expr} (h : PE X e (tE X.K cn cf W (r e))) : PE X e (tE X.K cn cf W (cV r d i e)) := by
  unfold cV
  split
  · exact pe_imp h fun σ H Q q => t_mk q
  · exact h
theorem pa_cEsM {W : L2.WX} {r : Expr → Pe.E} (hr : AllOk cn cf W X r) : ∀ {is : List Nat} {es : List Expr}, nost es = true → PA X es (tEs X.K cn cf W (cEsM r d is es))
  | is, [], _ => by
    have e : cEsM r d is [] = .nil := by cases is <;> rfl
    rw [e]
    exact pa_imp pa_nil fun σ H Q q => t_nil q
  | [], e :: es, _ => ⟨fun pos pins s σ H Q I q => (no_E (t_cons q)).elim⟩
  | i :: is, e :: es, h => by
    unfold nost at h
    simp only [List.all_cons, Bool.and_eq_true, Bool.not_eq_true'] at h
    exact pa_imp (pa_cons (pe_cV (hr e).1) (pa_cEsM hr (by unfold nost; exact h.2)) (star_cons h.1)) fun σ H Q q => t_cons q
theorem pg_any {es : List Expr} {k : Nat} {p : Pos} {t : TGs} {n : Nat} (hc : X.calm = true) (h : PGs X es t) (hn : (assignEach es X.env).length = n) (hst : (assignEach es X.env).findIdx? (·.1) = none) :
    PG X (.Tuple es k p) (fun v σ H Q => ∃ a xs, v = .ref a ∧ (SqT X.K H a xs ∨ SqL X.K H a xs) ∧ xs.length = n ∧ t xs σ H Q) := by
  refine ⟨fun pins s σ H v u Q I r ⟨a, xs, e, hs, hl, q⟩ => ?_⟩
  rcases hs with hs | hs
  · exact (pg_tup hc h hn hst).run pins s σ H v u Q I r ⟨a, xs, e, hs, hl, q⟩
  · exact (pg_unl hc h hn hst).run pins s σ H v u Q I r ⟨a, xs, e, hs, hl, q⟩
theorem sw_no {e : Expr} {tg : Option Expr} {l : Nat} {env : Env} (h : isLc e = false) : swapsWith e tg l env = pure false := by
  cases e <;> first | rfl | cases h
/-- name = [..] -/
theorem ps_cLc (g : Gd c lv cn cf W sc so X) {q r : Expr → Pe.E} (hq : AllOk cn cf W X q) {elt : Expr} {gs : List Comprehension} {scope : Scope} {pos py spos : Pos} {i : Nat} {y : Str}
    (hr : ∀ s H C cl fp, AllOk cn cf NoX (X.blk s H scope (compEnvC scope cl C X.env) fp) r) (hy : X.N[i]? = some y) (hyl : X.env.scope.names.lookup y = some .local)
    (hsw : swapsWith (.ListComp elt gs scope pos) (some (.Name y py)) spos.line X.env = pure true) : PS X (.Assign [.Name y py] (.ListComp elt gs scope pos) spos) (tAsg (tE X.K cn cf W (cLc q r c sc elt gs scope)) (gName i)) := by
  have no : PS X (.Assign [.Name y py] (.ListComp elt gs scope pos) spos) (tAsg (tE X.K cn cf W .no) (gName i)) := ⟨fun _ _ _ _ _ _ h => (no_E h).elim⟩
  unfold cLc
  dsimp only
  by_cases hb : blkC c.N sc scope (ownOf c.N scope) = true
  · rw [if_pos hb]
    have ok : BlkOk X.N X.env.scope scope (ownOf c.N scope) := by rw [g.nN, g.scp]; exact blkOk_by hb
    split
    · rename_i tg iter ifs
      split
      · rename_i t ht
        split
        · rename_i hc
          simp only [Bool.and_eq_true] at hc
          exact ps_imp (ps_setLc g.calm (by rw [g.nN]; exact g.nd) hy hyl hsw (pi_cIt g hq) ok (fun s H C cl fp => tg_ok (g.blk scope s H C cl fp) ht) (fun s H C cl fp => pts_ok (hr s H C cl fp)) (fun s H C cl fp => (hr s H C cl fp elt).1) fun x => set_hs hc.2 _ x)
            fun D σ H z => t_lc1 (allIn_ok hc.1) z
        · exact no
      · exact no
    · rename_i tg iter ifs tg1 iter1 ifs1
      split
      · rename_i t t1 ht ht1
        split
        · rename_i hc
          simp only [Bool.and_eq_true] at hc
          obtain ⟨⟨⟨h1, h2⟩, h3⟩, h4⟩ := hc
          exact ps_imp (ps_setLc2 g.calm (by rw [g.nN]; exact g.nd) hy hyl hsw (pi_cIt g hq) ok (allIn_ok h2) (fun s H C cl fp => tg_ok (g.blk scope s H C cl fp) ht) (fun s H C cl fp => pts_ok (hr s H C cl fp))
            (fun s H C cl fp => pi_cIt (g.blk scope s H C cl fp) (hr s H C cl fp)) (fun s H C cl fp => tg_ok (g.blk scope s H C cl fp) ht1) (fun s H C cl fp => pts_ok (hr s H C cl fp)) (fun s H C cl fp => (hr s H C cl fp elt).1) (fun x => set_hs h3 _ x) fun env x => set_hs h4 env x)
            fun D σ H z => t_lc2 (allIn_ok h1) z
        · exact no
      · exact no
    · rename_i tg iter ifs tg1 iter1 ifs1 tg2 iter2 ifs2
      split
      · rename_i t t1 t2 ht ht1 ht2
        split
        · rename_i hc
          simp only [Bool.and_eq_true] at hc
          obtain ⟨⟨⟨⟨⟨h1, h2⟩, h3⟩, h4⟩, h5⟩, h6⟩ := hc
          refine ps_imp (ps_setLc3 (wi1 := tI X.K cn cf NoX (cIt r c (relS scope sc) tg1 iter1)) (wi2 := tI X.K cn cf NoX (cIt r c (relS scope sc) tg2 iter2)) (g := gT X.K t) (g1 := gT X.K t1) (g2 := gT X.K t2) (tt := tC X.K cn cf NoX (cIfs r ifs)) (tt1 := tC X.K cn cf NoX (cIfs r ifs1)) (tt2 := tC X.K cn cf NoX (cIfs r ifs2)) (te := tE X.K cn cf NoX (r elt)) (vs1 := t1.ns) (vs2 := t2.ns) g.calm (by rw [g.nN]; exact g.nd) hy hyl hsw (pi_cIt g hq) ok (fun i hi => (List.mem_append.mp hi).elim (allIn_ok h2 i) (allIn_ok h3 i)) ⟨fun s H C cl fp => tg_ok (g.blk scope s H C cl fp) ht, fun s H C cl fp => pts_ok (hr s H C cl fp), fun s H C cl fp => pi_cIt (g.blk scope s H C cl fp) (hr s H C cl fp), fun s H C cl fp => tg_ok (g.blk scope s H C cl fp) ht1, fun s H C cl fp => pts_ok (hr s H C cl fp),
            fun s H C cl fp => pi_cIt (g.blk scope s H C cl fp) (hr s H C cl fp), fun s H C cl fp => tg_ok (g.blk scope s H C cl fp) ht2, fun s H C cl fp => pts_ok (hr s H C cl fp), fun s H C cl fp => (hr s H C cl fp elt).1, fun env x => set_hs h5 env x, fun env x => set_hs h6 env x⟩ fun x => set_hs h4 _ x)
            fun D σ H z => ?_
          have z' := t_lcG (allIn_ok h1) z
          simp only [bG, Gs.tns] at z'
          exact z'
        · exact no
      · exact no
    · exact no
  · rw [if_neg hb]; exact no
theorem ps_name (g : Gd c lv cn cf W sc so X) {n : Nat} {x : Str} {i : Nat} {e : Expr} {px pos : Pos} (hl : locB so x = true) (hi : slot c.N x = some i) : PS X (.Assign [.Name x px] e pos) (tAsg (tE X.K cn cf W (cE c n sc e)) (gName i)) := by
  obtain ⟨o1, o2⟩ := g.ow x (locB_ok hl)
  have hN : X.N.Nodup := by rw [g.nN]; exact g.nd
  have hx : X.N[i]? = some x := by rw [g.nN]; exact slot_ok hi
  have o1' : L2.Loc X.env.scope x := by rw [g.scp]; exact o1
  have o2' : X.fn x = true ∨ X.env.scope.names.lookup x = some .local := by rw [g.scp]; exact o2
  have set : swapsWith e (some (.Name x px)) pos.line X.env = pure false → PS X (.Assign [.Name x px] e pos) (tAsg (tE X.K cn cf W (cE c n sc e)) (gName i)) := fun hs => ps_set hN hx o1' (cE_ok c lv cn cf n W sc so X g e).1 hs o2'
  by_cases hlc : isLc e = false
  · exact set (sw_no hlc)
  · cases n with
    | zero => exact ⟨fun _ _ _ _ _ _ h => (no_E h).elim⟩
    | succ n =>
    cases e <;> simp only [isLc, not_true_eq_false, not_false_eq_true, Bool.true_eq_false] at hlc
    · rename_i elt gs scope lp
      have hsw : swapsWith (.ListComp elt gs scope lp) (some (.Name x px)) pos.line X.env = pure (X.env.blockKind == .function && X.env.kindOf x == some .local && px.line == lp.line && !(scope.names.any fun (n, k) => n == x && (k == .local || k == .cell))) := rfl
      cases hb : (X.env.blockKind == .function && X.env.kindOf x == some .local && px.line == lp.line && !(scope.names.any fun (n, k) => n == x && (k == .local || k == .cell))) with
      | false => rw [hb] at hsw; exact set hsw
      | true =>
        rw [hb] at hsw
        simp only [Bool.and_eq_true] at hb
        have hk : X.env.scope.names.lookup x = some .local := by simpa [Env.kindOf] using hb.1.1.2
        exact ps_cLc g (cE_ok c lv cn cf n W sc so X g) (fun s H C cl fp => cE_ok c lv cn cf n NoX (relS scope sc) scope _ (g.blk scope s H C cl fp)) hx hk hsw
    · exact ⟨fun _ _ _ _ _ _ h => (no_E h).elim⟩
    · exact ⟨fun _ _ _ _ _ _ h => (no_E h).elim⟩
end
end Pe
set_option Elab.async false
set_option linter.all false
set_option maxRecDepth 100000
set_option maxHeartbeats 4000000
namespace Pe
open PySem PySem.Spec PyProof.Rows L2
theorem After.upG {α : Type} {K : PySem.W.Frag} {cn : Str → Option Value} {B G0 G G' : Hp} {μ μ' : Mu} {σ : L2.St} {W : L2.WX} {r : R α} {P : α → Hp → Mu → Store → Hp → Prop} (l : Le G G') (m : LeM μ μ') (h : After K cn B G0 G μ σ W r P) : After K cn B G0 G' μ' σ W r P := by
  cases r with
  | ok a S' => exact fun G2 μ2 H2 l2 m2 w2 => h G2 μ2 H2 (fun a o e => l2 _ _ (l _ _ e)) (fun a o e => m2 _ _ (m _ _ e)) w2
  | exc e S' => exact fun G2 μ2 H2 cl dd l2 m2 w2 x => h G2 μ2 H2 cl dd (fun a o e => l2 _ _ (l _ _ e)) (fun a o e => m2 _ _ (m _ _ e)) w2 x
  | bad => exact h
section
variable {X : Cx} {cn : Cn} {cf : Cf} {W : L2.WX} {σ : L2.St} {H : Hp} {B G0 G : Hp} {μ : Mu} {S : Store} {ρ : En}
theorem sub_use {o i : Pe.E} {α : Type} {k : M α} {P : α → Hp → Mu → Store → Hp → Prop} {v : V} {d : Pe.D} {Q : L2.St → Hp → Prop} (w : Wd X.K B G0 G μ S H) (er : EnvR X.K G μ ρ σ) (r : Rep X.K G μ v d)
    (h : After X.K cn B G0 G μ σ W (M.bnd (mD (evE cf o ρ)) (fun x => M.bnd (mD (evE cf i ρ)) fun y => M.bnd (stI x y d) fun _ => k) S) P)
    (q : ∀ G1 μ1 S1 H1, Le G G1 → LeM μ μ1 → Wd X.K B G0 G1 μ1 S1 H1 → EnvR X.K G1 μ1 ρ σ → After X.K cn B G0 G1 μ1 σ W (k S1) P → Q σ H1) : gSub (tE X.K cn cf W o) (tE X.K cn cf W i) rSetL v σ H Q := by
  refine tE_use w er h fun d2 G2 μ2 S2 H2 x l2 m2 w2 er2 r2 h2 => ?_
  refine tE_use w2 er2 h2 fun k' G3 μ3 S3 H3 y l3 m3 w3 er3 r3 h3 => ?_
  have hc := After.bnd h3
  have r1' := (r.up l2 m2).up l3 m3
  have r2' := r2.up l3 m3
  unfold stI at hc
  cases d2 with
  | ref n =>
    simp only at hc
    cases hg : S3.get n with
    | none => rw [hg] at hc; exact hc.elim
    | some c =>
      cases c with
      | lst xs =>
        rw [hg] at hc
        cases r3 <;> simp only at hc <;> first | exact hc.elim | skip
        rename_i k'
        cases hj : L2.ixN xs.length k' with
        | none => rw [hj] at hc; exact hc.elim
        | some j =>
          rw [hj] at hc
          cases r2'
          rename_i a ma
          obtain ⟨a', vs, m1, ga, ba, ha, rs⟩ := w3.cell hg
          rw [ma] at m1; cases m1
          have w4 := w3.put hg ma (Reps.set r1' j rs)
          refine ⟨a, vs, k', j, rfl, rfl, ha, by rw [rs.len]; exact hj, ?_⟩
          exact q G3 μ3 _ _ (fun a o e => l3 _ _ (l2 _ _ e)) (fun a o e => m3 _ _ (m2 _ _ e)) w4 er3 (hc G3 μ3 _ (fun _ _ e => e) (fun _ _ e => e) w4)
      | dct _ => rw [hg] at hc; exact hc.elim
      | obj _ _ => rw [hg] at hc; exact hc.elim
  | _ => exact hc.elim
end
section
variable {X : Cx} {cn : Cn} {cf : Cf} {E : XK} {D : Ends} {σ : L2.St} {H : Hp}
theorem es_two {a b : Pe.E} {ρ : En} {S : Store} {ds : List Pe.D} {S' : Store} (h : evEs cf (.cons false a (.cons false b .nil)) ρ S = .ok ds S') : ds.length = 2 := by
  simp only [evEs, M.bnd, M.ret] at h
  repeat' (split at h <;> try (cases h; done))
  all_goals (first | (cases h; rfl) | skip)
  all_goals (rename_i e1 e2; first | (repeat' (split at e2 <;> try (cases e2; done))) | skip)
  all_goals (first | (cases e2; cases h; rfl) | skip)
theorem t_asx2 {o i p j a b : Pe.E} (h : tS X.K cn cf E (.asx [.ix o i, .ix p j] (.cons false a (.cons false b .nil))) D σ H) :
    tAsg (tTup (tEs X.K cn cf (WU E) (.cons false a (.cons false b .nil)))) (gTup X.K 2 (gCons (gSub (tE X.K cn cf (WU E) o) (tE X.K cn cf (WU E) i) rSetL) (gCons (gSub (tE X.K cn cf (WU E) p) (tE X.K cn cf (WU E) j) rSetL) gNil))) D σ H := by
  obtain ⟨B, G0, G, μ, S, ρ, w, er, h⟩ := h
  simp only [evS] at h
  have hk : ∀ {α : Type} (k : List Pe.D → M α), M.bnd (evEs cf (.cons false a (.cons false b .nil)) ρ) k S = M.bnd (evEs cf (.cons false a (.cons false b .nil)) ρ) (fun ds => if ds.length = 2 then k ds else M.no) S := fun k => by
    unfold M.bnd
    cases e : evEs cf (.cons false a (.cons false b .nil)) ρ S with
    | ok ds S' => simp only [es_two e, if_true]
    | exc _ _ => rfl
    | bad => rfl
  rw [hk] at h
  refine tEs_use w er h fun ds G1 μ1 S1 H1 vs l m w1 er1 r1 h1 => ?_
  by_cases hl : ds.length = 2
  rotate_left
  · simp only [hl, if_false] at h1
    exact h1.elim
  simp only [hl, if_true] at h1
  have h2 := After.bnd h1
  match ds, vs, r1, hl with
  | [d1, d2], [v1, v2], .cons q1 (.cons q2 .nil), _ =>
    refine ⟨by show 2 ≤ _; decide, fun t ht => ?_⟩
    obtain ⟨w', le, gp⟩ := w1.newG (o := .tup [v1, v2]) ht
    have er' := er1.up le (fun _ _ e => e)
    have q1' := q1.up le (fun _ _ e => e)
    have q2' := q2.up le (fun _ _ e => e)
    have h3 := After.upG le (fun _ _ e => e) h2
    refine ⟨t, [v1, v2], rfl, SqT.of upd_same, rfl, v1, [v2], rfl, ?_⟩
    simp only [asxO] at h3
    refine sub_use w' er' q1' h3 fun G2 μ2 S2 H2 l2 m2 w2 er2 h4 => ?_
    refine ⟨v2, [], rfl, ?_⟩
    refine sub_use w2 er2 (q2'.up l2 m2) h4 fun G3 μ3 S3 H3 l3 m3 w3 er3 h5 => ?_
    refine ⟨rfl, ?_⟩
    have h6 := After.now w3 h5
    exact After.now w3 h6 _ er3
end
end Pe
set_option Elab.async false
set_option linter.all false
set_option maxRecDepth 100000
set_option maxHeartbeats 4000000
namespace Pe
open PySem PySem.Spec PyProof.Rows L2
section
variable {c : Cc} {lv : Nat} {cn : Cn} {cf : Cf} {E : XK} {W : L2.WX} {sc so : Scope} {X : Cx} {d : Ds}
theorem any_star {vs : List Expr} : vs.any isStar = !nost vs := by
  unfold nost
  induction vs with
  | nil => rfl
  | cons e r ih =>
    rw [List.any_cons, List.all_cons, ih]
    cases isStar e <;> rfl
theorem swP_ok {env : Env} {ts vs : List Expr} {k k' : Nat} {p p' : Pos} {r : Option (List Str)} (hs : env.scope = sc) (hb : env.blockKind = .function) (h : swP sc ts vs = some r) :
    swappedStores [.Tuple ts k p] (.Tuple vs k' p') env = pure r := by
  have key : swappedStores [.Tuple ts k p] (.Tuple vs k' p') env =
      (if (!(ts.length == 2 || ts.length == 3) || vs.length != ts.length || env.blockKind != .function) = true then pure none
      else if vs.any isStar = true then pure none
      else if ((namesOf env.scope ((ts.head?.map (·.pos.line)).getD 0) ts).length != ts.length || (namesOf env.scope ((ts.head?.map (·.pos.line)).getD 0) ts).eraseDups.length != (namesOf env.scope ((ts.head?.map (·.pos.line)).getD 0) ts).length) = true then pure none
      else if vs.all (foldedForSure 8) = true then pure none
      else if vs.all (constantsAlone 8) = true then (do unsupported "assign.tuple-of-constant-expressions:order-of-the-stores"; pure (some (namesOf env.scope ((ts.head?.map (·.pos.line)).getD 0) ts)))
      else pure (some (namesOf env.scope ((ts.head?.map (·.pos.line)).getD 0) ts))) := rfl
  rw [key, hs, hb, any_star]
  have hf : (ScopeKind.function != ScopeKind.function) = false := by decide
  rw [hf, Bool.or_false]
  unfold swP at h
  dsimp only at h
  by_cases h1 : (!(ts.length == 2 || ts.length == 3) || vs.length != ts.length) = true
  · rw [if_pos h1] at h ⊢
    cases h; rfl
  rw [if_neg h1] at h ⊢
  by_cases h2 : (!nost vs) = true
  · rw [if_pos h2] at h ⊢
    cases h; rfl
  rw [if_neg h2] at h ⊢
  by_cases h3 : ((namesOf sc ((ts.head?.map (·.pos.line)).getD 0) ts).length != ts.length || (namesOf sc ((ts.head?.map (·.pos.line)).getD 0) ts).eraseDups.length != (namesOf sc ((ts.head?.map (·.pos.line)).getD 0) ts).length) = true
  · rw [if_pos h3] at h ⊢
    cases h; rfl
  rw [if_neg h3] at h ⊢
  by_cases h4 : vs.all (foldedForSure 8) = true
  · rw [if_pos h4] at h ⊢
    cases h; rfl
  rw [if_neg h4] at h ⊢
  by_cases h5 : vs.all (constantsAlone 8) = true
  · rw [if_pos h5] at h; cases h
  rw [if_neg h5] at h ⊢
  cases h; rfl
/-- what swP says of the names -/
theorem swP_some {ts vs : List Expr} {ns : List Str} (h : swP sc ts vs = some (some ns)) : (ts.length = 2 ∨ ts.length = 3) ∧ vs.length = ts.length ∧ nost vs = true ∧ ns = namesOf sc ((ts.head?.map (·.pos.line)).getD 0) ts ∧ ns.length = ts.length ∧ ns.eraseDups.length = ns.length := by
  unfold swP at h
  dsimp only at h
  split at h
  · cases h
  rename_i h1
  split at h
  · cases h
  rename_i h2
  split at h
  · cases h
  rename_i h3
  split at h
  · cases h
  split at h
  · cases h
  cases h
  simp only [Bool.or_eq_true, Bool.not_eq_true', beq_iff_eq, bne_iff_ne, not_or, Bool.not_eq_false, Bool.or_eq_false_iff, not_and, ne_eq, Decidable.not_not] at h1 h2 h3
  refine ⟨?_, by simpa using h1.2, by simpa using h2, rfl, by simpa using h3.1, by simpa using h3.2⟩
  have := h1.1
  by_cases q : ts.length = 2
  · exact .inl q
  · exact .inr (by simpa [q] using this)
theorem ps_inv {st : Stmt} {t : TS} (h : X.Ok → PS X st t) : PS X st t := ⟨fun pins s σ H D I q => (h I.ok).run pins s σ H D I q⟩
theorem slot_ne {N : List Str} {x y : Str} {i j : Nat} (hi : N[i]? = some x) (hj : N[j]? = some y) (h : x ≠ y) : i ≠ j := fun z => by
  subst z
  rw [hi] at hj
  exact h (Option.some.inj hj)
theorem tgNames_cons {N : List Str} {e : Expr} {r : List Expr} {is : List Nat} (h : tgNames N so (e :: r) = some is) : ∃ x p i is', e = .Name x p ∧ locB so x = true ∧ slot N x = some i ∧ tgNames N so r = some is' ∧ is = i :: is' := by
  cases e <;> simp only [tgNames, reduceCtorEq] at h
  rename_i x p
  split at h
  · rename_i hl
    split at h
    · rename_i i is' hi his
      cases h
      exact ⟨x, p, i, is', rfl, hl, hi, his, rfl⟩
    · cases h
  · cases h
theorem dup2 {x y : Str} (h : ([x, y] : List Str).eraseDups.length = 2) : x ≠ y := fun z => by
  subst z
  simp [List.eraseDups_cons] at h
theorem dup3 {x y z : Str} (h : ([x, y, z] : List Str).eraseDups.length = 3) : x ≠ y ∧ x ≠ z ∧ y ≠ z := by
  refine ⟨fun q => ?_, fun q => ?_, fun q => ?_⟩
  · subst q
    by_cases e : z = x
    · subst e; simp [List.eraseDups_cons] at h
    · simp [List.eraseDups_cons, e] at h
  · subst q
    by_cases e : y = x
    · subst e; simp [List.eraseDups_cons] at h
    · simp [List.eraseDups_cons, e] at h
  · subst q
    by_cases e : y = x
    · subst e; simp [List.eraseDups_cons] at h
    · simp [List.eraseDups_cons, e] at h
theorem namesOf_len {l : Nat} {x : Str} {p : Pos} {r : List Expr} (h : (namesOf sc l (.Name x p :: r)).length = r.length + 1) : sc.names.lookup x = some .local ∧ namesOf sc l (.Name x p :: r) = x :: namesOf sc l r ∧ (namesOf sc l r).length = r.length := by
  have hle : (namesOf sc l r).length ≤ r.length := List.length_filterMap_le _ _
  unfold namesOf at h hle ⊢
  rw [List.filterMap_cons] at h ⊢
  by_cases hc : (sc.names.lookup x == some NameKind.local && p.line == l) = true
  · simp only [hc, if_true, List.length_cons] at h ⊢
    refine ⟨?_, trivial, by omega⟩
    simp only [Bool.and_eq_true, beq_iff_eq] at hc
    exact hc.1
  · simp only [hc, if_false, Bool.false_eq_true] at h
    omega
theorem ps_cAsg (g : Gd c lv cn cf (WU E) sc so X) (n : Nat) {tg e : Expr} {pos : Pos} : PS X (.Assign [tg] e pos) (tS X.K cn cf E (cAsg (cE c n sc) c sc so d tg e)) := by
  have hr := cE_ok c lv cn cf n (WU E) sc so X g
  have hN : X.N.Nodup := by rw [g.nN]; exact g.nd
  cases tg with
  | Name x px =>
    simp only [cAsg]
    split
    · rename_i hl
      split
      · rename_i i hi
        refine ps_imp (ps_name g (n := n) hl hi) fun D σ H q => ?_
        have q' := t_asg q
        unfold cV at q'
        split at q'
        · exact t_mk q'
        · exact q'
      · exact ps_no
    · exact ps_no
  | Tuple ts kt pt =>
    simp only [cAsg]
    split
    · unfold cSw
      split
      · rename_i o i p1 q j p2 a b kv pv _
        split
        · exact ps_no
        · rename_i hl
          simp only [Bool.or_eq_true, not_or, Bool.not_eq_true] at hl
          obtain ⟨⟨⟨ha, hb1⟩, hi⟩, hj⟩ := hl
          refine ps_inv fun ok => ?_
          have hb : X.env.blockKind = .function := by unfold Env.blockKind; rw [ok.kind]; rfl
          have hsw : swP sc [.Subscript o i p1, .Subscript q j p2] [a, b] = some none := by
            unfold swP
            split
            · rfl
            · split
              · rfl
              · rfl
          have hst : ∀ (f : Expr → Pe.E) (e : Expr) (r : List Expr), isStar e = false → cEs f (e :: r) = .cons false (f e) (cEs f r) := fun f e r h => by cases e <;> first | rfl | cases h
          have hes : cEs (cE c n sc) [a, b] = .cons false (cE c n sc a) (.cons false (cE c n sc b) .nil) := by rw [hst _ _ _ ha, hst _ _ _ hb1]; rfl
          have hpa : PA X [a, b] (tEs X.K cn cf (WU E) (.cons false (cE c n sc a) (.cons false (cE c n sc b) .nil))) := hes ▸ pa_ok hr [a, b]
          exact ps_imp (ps_asg (pe_tup hpa) (pg_tup g.calm (pgs_cons (pg_sub (hr o).1 (hr i).1 set_list (by intro v; cases i <;> first | rfl | (exact absurd hi (by simp [isSl])))) (pgs_cons (pg_sub (hr q).1 (hr j).1 set_list (by intro v; cases j <;> first | rfl | (exact absurd hj (by simp [isSl])))) pgs_nil)) rfl rfl) rfl (swP_ok g.scp hb hsw) rfl) fun D σ H q => t_asx2 q
      · exact ps_no
    · rename_i is his
      obtain ⟨pgs, hlen, hst⟩ := tgNames_ok g his
      cases he : isTupE e with
      | false =>
        have hE : PE X e (tE X.K cn cf (WU E) (cE c n sc e)) := (hr e).1
        have hs : swapsWithSole [.Tuple ts kt pt] e pos.line X.env = pure false := by cases e <;> rfl
        have hw : swappedStores [.Tuple ts kt pt] e X.env = pure none := by cases e <;> first | rfl | cases he
        have hm : cTupA (cE c n sc) sc d ts is e = .asu is (cE c n sc e) := by
          cases e <;> first | rfl | cases he
        rw [hm]
        exact ps_imp (ps_asg hE (pg_any g.calm pgs hlen hst) hs hw rfl) fun D σ H q => t_asu q
      | true =>
        cases e <;> simp only [isTupE, Bool.false_eq_true] at he
        rename_i vs kv pv
        show PS X _ (tS X.K cn cf E (if nost vs = true then (match swP sc ts vs with | none => S.no | some none => .asu is (.tup (cEsM (cE c n sc) d is vs)) | some (some _) => .par is (cEsM (cE c n sc) d is vs)) else .no))
        split
        · rename_i hn
          refine ps_inv fun ok => ?_
          have hb : X.env.blockKind = .function := by unfold Env.blockKind; rw [ok.kind]; rfl
          split
          · exact ps_no
          · rename_i hsw
            exact ps_imp (ps_asg (pe_imp (pe_tup (pa_cEsM hr hn)) fun σ H Q q => t_tup q) (pg_any g.calm pgs hlen hst) rfl (swP_ok g.scp hb hsw) rfl) fun D σ H q => t_asu q
          · rename_i ns hsw
            obtain ⟨h1, h2, h3, h4, h5, h6⟩ := swP_some hsw
            rcases h1 with h1 | h1
            · match ts, vs, h1, h2 with
              | [t1, t2], [v1, v2], _, _ =>
                obtain ⟨x, px, i, is1, rfl, l1, i1, r1, rfl⟩ := tgNames_cons his
                obtain ⟨y, py, j, is2, rfl, l2, i2, r2, rfl⟩ := tgNames_cons r1
                simp only [tgNames, Option.some.injEq] at r2
                subst r2
                rw [h4] at h5
                obtain ⟨k1, k2, k3⟩ := namesOf_len h5
                obtain ⟨k4, k5, k6⟩ := namesOf_len k3
                have e0 : ns = [x, y] := by rw [h4, k2, k5]; rfl
                subst e0
                have hne := dup2 h6
                have n1 : X.N[i]? = some x := by rw [g.nN]; exact slot_ok i1
                have n2 : X.N[j]? = some y := by rw [g.nN]; exact slot_ok i2
                exact ps_imp (ps_par g.calm hN n1 n2 (slot_ne n1 n2 hne) (by rw [g.scp]; exact k1) (by rw [g.scp]; exact k4) (pa_cEsM (d := d) (is := [i, j]) hr hn) (swP_ok g.scp hb hsw) rfl) fun D σ H q => t_par2 q
            · match ts, vs, h1, h2 with
              | [t1, t2, t3], [v1, v2, v3], _, _ =>
                obtain ⟨x, px, i, is1, rfl, l1, i1, r1, rfl⟩ := tgNames_cons his
                obtain ⟨y, py, j, is2, rfl, l2, i2, r2, rfl⟩ := tgNames_cons r1
                obtain ⟨z, pz, l, is3, rfl, l3, i3, r3, rfl⟩ := tgNames_cons r2
                simp only [tgNames, Option.some.injEq] at r3
                subst r3
                rw [h4] at h5
                obtain ⟨k1, k2, k3⟩ := namesOf_len h5
                obtain ⟨k4, k5, k6⟩ := namesOf_len k3
                obtain ⟨k7, k8, k9⟩ := namesOf_len k6
                have e0 : ns = [x, y, z] := by rw [h4, k2, k5, k8]; rfl
                subst e0
                obtain ⟨d1, d2, d3⟩ := dup3 h6
                have n1 : X.N[i]? = some x := by rw [g.nN]; exact slot_ok i1
                have n2 : X.N[j]? = some y := by rw [g.nN]; exact slot_ok i2
                have n3 : X.N[l]? = some z := by rw [g.nN]; exact slot_ok i3
                exact ps_imp (ps_par3 g.calm hN n1 n2 n3 (slot_ne n1 n2 d1) (slot_ne n1 n3 d2) (slot_ne n2 n3 d3) (by rw [g.scp]; exact k1) (by rw [g.scp]; exact k4) (by rw [g.scp]; exact k7) (pa_cEsM (d := d) (is := [i, j, l]) hr hn) (swP_ok g.scp hb hsw) rfl) fun D σ H q => t_par3 q
        · exact ps_no
  | Subscript o i p =>
    simp only [cAsg]
    split
    · exact ps_no
    · rename_i hl
      simp only [Bool.or_eq_true, not_or, Bool.not_eq_true] at hl
      have hs : swapsWithSole [.Subscript o i p] e pos.line X.env = pure false := by
        show swapsWith e (some (.Subscript o i p)) pos.line X.env = pure false
        exact sw_no hl.1
      exact ps_imp (ps_asg (hr e).1 (pg_sub (hr o).1 (hr i).1 set_list (by intro v; cases i <;> first | rfl | (exact absurd hl.2 (by simp [isSl])))) hs rfl rfl) fun D σ H q => t_sti q
  | Attribute o f p =>
    simp only [cAsg]
    split
    · exact ps_no
    · rename_i hl
      split
      · rename_i cs es ha
        obtain ⟨h1, h2⟩ := g.kl.att f cs es ha
        have hs : swapsWith e (some (.Attribute o f p)) pos.line X.env = pure false := sw_no (by simpa using hl)
        refine ps_imp (ps_fld (hr o).1 (hr e).1 hs) fun D σ H q => ?_
        obtain ⟨B, G0, G, μ, S, ρ, w, er, q'⟩ := t_sta h1 q
        split at q'
        · exact t_mk ⟨B, G0, G, μ, S, ρ, w, er, q'⟩
        · exact ⟨B, G0, G, μ, S, ρ, w, er, q'⟩
      · exact ps_no
  | _ => exact ps_no
theorem pe_cRet (g : Gd c lv cn cf W sc so X) (n : Nat) (e : Expr) : PE X e (tE X.K cn cf W (cRet (cE c n sc) c sc d e)) := by
  have hr := cE_ok c lv cn cf n W sc so X g
  unfold cRet
  split
  · rename_i x p
    split
    · rename_i i hi
      split
      · rename_i hc
        simp only [Bool.and_eq_true, Bool.not_eq_true'] at hc
        have e1 : ("__debug__" : Str) = ⟨#[95,95,100,101,98,117,103,95,95]⟩ := by decide +kernel
        have e2 : ("__classdict__" : Str) = ⟨#[95,95,99,108,97,115,115,100,105,99,116,95,95]⟩ := by decide +kernel
        exact pe_imp (pe_var (i := i) (by rw [g.nN]; exact slot_ok hi) (by rw [g.scp]; exact visB_ok hc.1.1.1) (by rw [e1]; exact hc.1.2) (by rw [e2]; exact hc.2)) fun σ H Q h => t_frz h
      · exact (hr _).1
    · exact (hr _).1
  · exact (hr _).1
theorem ps_cXp (g : Gd c lv cn cf (WU E) sc so X) (n : Nat) {e : Expr} {pos : Pos} : PS X (.Expr e pos) (tS X.K cn cf E (cXp (cE c n sc) e)) := by
  have hr := cE_ok c lv cn cf n (WU E) sc so X g
  have hexp : isLc e = false → PS X (.Expr e pos) (tS X.K cn cf E (.exp (cE c n sc e))) := fun hl => ps_imp (ps_expr (hr e).1 (sw_no hl)) fun D σ H q => t_exp q
  unfold cXp
  split
  · exact ps_imp ps_doc fun D σ H q => t_pas q
  · rename_i o m ap a cp
    split
    · rename_i hc
      simp only [Bool.and_eq_true, decide_eq_true_eq, Bool.not_eq_true'] at hc
      obtain ⟨⟨⟨rfl, h2⟩, h3⟩, h4⟩ := hc
      have hst : starEach [a] X.env = [(false, eval a X.env)] := star_cons (r := []) h4
      have e1 : sAppend = ("append" : Str) := by decide +kernel
      rw [e1]
      exact ps_imp (ps_expr (pe_bm PySem.F.plainAttrs_list PySem.F.slot_list_append PySem.F.type_list_append mt_append (hr o).1 (pa_cons (hr a).1 pa_nil hst) (sup_base h2) (by rw [hst]; rfl) h3 hst rfl)) fun D σ H q => t_app q
    · exact hexp rfl
  · split
    · exact ps_no
    · rename_i hl
      exact hexp (by simpa using hl)
theorem t_ghosts {N : List Str} {r : Ss} {D : Ends} {σ : L2.St} {H : Hp} : ∀ {xs : List Str}, tSs X.K cn cf E (ghosts N xs r) D σ H → tSs X.K cn cf E r D σ H
  | [], h => h
  | x :: xs, h => by
    unfold ghosts at h
    split at h
    · exact t_ghosts (t_stl h)
    · exact t_ghosts h
/-- the frames of a def's run -/
structure Stk (X : Cx) : Prop where
  st : X.stack = X.env :: X.outer
  fr : X.env.frame = some X.env.locals
  ex : X.ex = []
theorem Gd.tr (g : Gd c lv cn cf (WU E) sc so X) {W : L2.WX} {pn : List (Addr × Obj)} {xe : Value → Shared → Prop} (tk : Takes (X.tr pn xe) W) : Gd c lv cn cf W sc so (X.tr pn xe) where
  fns := g.fns
  scp := g.scp
  nN := g.nN
  nd := g.nd
  calm := g.calm
  room := g.room
  kl := g.kl
  ow := g.ow
  tk := tk
section
variable {W : L2.WX}
theorem psw_no {s : Stmt} {r : Ss} : PSs X [s] (tSsW X.K cn cf W (.cons .no r)) := ⟨fun _ _ _ _ _ _ h => (tw_no h).elim⟩
theorem psw_imp {st : List Stmt} {t t' : TS} (h : PSs X st t) (i : ∀ D σ H, t' D σ H → t D σ H) : PSs X st t' := pss_imp h i
theorem cTa_ok (g : Gd c lv cn cf W sc so X) (n : Nat) {ts : List Expr} {e : Expr} {pos : Pos} : PSs X [.Assign ts e pos] (tSsW X.K cn cf W (cTa (cE c n sc) c so d ts e)) := by
  unfold cTa
  split
  · rename_i x px
    split
    · rename_i hc
      simp only [Bool.and_eq_true, Bool.not_eq_true'] at hc
      split
      · rename_i i hi
        obtain ⟨o1, o2⟩ := g.ow x (locB_ok hc.1)
        refine psw_imp (pss_one (ps_set (by rw [g.nN]; exact g.nd) (i := i) (by rw [g.nN]; exact slot_ok hi) (by rw [g.scp]; exact o1) (cE_ok c lv cn cf n W sc so X g e).1 (sw_no hc.2) (by rw [g.scp]; exact o2))) fun D σ H q => ?_
        have q' := tw_asg q
        unfold cV at q'
        split at q'
        · exact t_mk q'
        · exact q'
      · exact psw_no
    · exact psw_no
  · exact psw_no
mutual
theorem cT1_ok (g : Gd c lv cn cf W sc so X) (n : Nat) : ∀ s : Stmt, PSs X [s] (tSsW X.K cn cf W (cT1 (cE c n sc) c so d s))
  | .Assign ts e pos => by simp only [cT1]; exact cTa_ok g n
  | .Expr e pos => by
    simp only [cT1]
    split
    · exact psw_no
    · rename_i hl
      exact psw_imp (pss_one (ps_expr (cE_ok c lv cn cf n W sc so X g e).1 (sw_no (by simpa using hl)))) fun D σ H q => tw_exp q
  | .If t a b pos => by
    simp only [cT1]
    exact psw_imp (pss_one (ps_if (cE_ok c lv cn cf n W sc so X g t).2 (cT_ok g n a) (cT_ok g n b))) fun D σ H q => tw_iff q
  | .Pass _ => by simp only [cT1]; exact psw_no
  | .Return .. => by simp only [cT1]; exact psw_no
  | .For .. => by simp only [cT1]; exact psw_no
  | .While .. => by simp only [cT1]; exact psw_no
  | .FunctionDef .. => by simp only [cT1]; exact psw_no
  | .AsyncFunctionDef .. => by simp only [cT1]; exact psw_no
  | .ClassDef .. => by simp only [cT1]; exact psw_no
  | .Delete .. => by simp only [cT1]; exact psw_no
  | .TypeAlias .. => by simp only [cT1]; exact psw_no
  | .AugAssign .. => by simp only [cT1]; exact psw_no
  | .AnnAssign .. => by simp only [cT1]; exact psw_no
  | .AsyncFor .. => by simp only [cT1]; exact psw_no
  | .With .. => by simp only [cT1]; exact psw_no
  | .AsyncWith .. => by simp only [cT1]; exact psw_no
  | .Match .. => by simp only [cT1]; exact psw_no
  | .Raise .. => by simp only [cT1]; exact psw_no
  | .Try .. => by simp only [cT1]; exact psw_no
  | .TryStar .. => by simp only [cT1]; exact psw_no
  | .Assert .. => by simp only [cT1]; exact psw_no
  | .Import .. => by simp only [cT1]; exact psw_no
  | .ImportFrom .. => by simp only [cT1]; exact psw_no
  | .Global .. => by simp only [cT1]; exact psw_no
  | .Nonlocal .. => by simp only [cT1]; exact psw_no
  | .Break .. => by simp only [cT1]; exact psw_no
  | .Continue .. => by simp only [cT1]; exact psw_no
theorem cT_ok (g : Gd c lv cn cf W sc so X) (n : Nat) : ∀ ss : List Stmt, PSs X ss (tSsW X.K cn cf W (cT (cE c n sc) c so d ss))
  | [] => by simp only [cT]; exact psw_imp pss_nil fun D σ H q => tw_nil q
  | [s] => by simp only [cT]; exact cT1_ok g n s
  | _ :: _ :: _ => by simp only [cT]; exact ⟨fun _ _ _ _ _ _ h => (tw_no h).elim⟩
end
end
theorem ps_cRaise (g : Gd c lv cn cf (WU E) sc so X) {r : Expr → Pe.E} (hr : AllOk cn cf (WU E) X r) {e : Expr} {pos : Pos} : PS X (.Raise (some e) none pos) (tS X.K cn cf E (cRaise r c sc e)) := by
  unfold cRaise
  split
  · rename_i x px args pc
    split
    · rename_i hx
      split
      · rename_i hg
        simp only [Bool.and_eq_true] at hg
        have := List.isEmpty_iff.mp hg.2
        subst this
        obtain ⟨h1, h2, h3, h4, h5⟩ := g.kl.exc x hx
        exact ps_imp (ps_raise g.calm g.tk (pmk_own0 PySem.F.excBase_ValueError h2 h1 h3 (raises_own h4 h5) (g.gl hg.1).1 (g.gl hg.1).2.1)) fun D σ H q => t_rse q
      · exact ps_no
    · rename_i ns hne hx
      split
      · rename_i hc
        simp only [Bool.and_eq_true, decide_eq_true_eq] at hc
        obtain ⟨⟨h1, h2⟩, h3⟩ := hc
        cases ns with
        | nil => exact (hne rfl).elim
        | cons a as =>
          obtain ⟨file, e1, T, e3, px⟩ := g.kl.exf x a as hx
          cases args with
          | nil => cases h3
          | cons e es =>
            have hn' := h2
            unfold nost at hn'
            simp only [List.all_cons, Bool.and_eq_true, Bool.not_eq_true'] at hn'
            have hs := star_cons (X := X) (r := es) hn'.1
            have hp : (backTo pc (starEach es X.env)).any (·.1) = false := by rw [back_any]; exact nost_each (by unfold nost; exact hn'.2)
            exact ps_imp (ps_raise g.calm g.tk (pmk_xi T px (g.room.mono (Nat.le_add_left _ _)) e3 (g.gl h1).1 e1 (pa_ok hr _) (g.gl h1).2.1 hs hp)) fun D σ H q => t_rseF (fun ρ S ds S' hh => (cEs_len h2 hh).trans h3) q
      · exact ps_no
    · exact ps_no
  · exact ps_no
theorem ps_cTry (g : Gd c lv cn cf (WU E) sc so X) (st : Stk X) {m : Ss} {body : List Stmt} {hs : List ExceptHandler} {pos : Pos}
    (hm : ∀ (W : L2.WX) (pn : List (Addr × Obj)) (xe : Value → Shared → Prop), Takes (X.tr pn xe) W → PSs (X.tr pn xe) body (tSsW X.K cn cf W m)) : PS X (.Try body hs [] [] pos) (tS X.K cn cf E (cTry m c sc so hs)) := by
  unfold cTry
  split
  · rename_i x px n y py n' pn' pa ph
    split
    · rename_i hc
      simp only [Bool.and_eq_true, decide_eq_true_eq, Bool.not_eq_true'] at hc
      obtain ⟨⟨⟨⟨⟨rfl, h2⟩, h3⟩, h4⟩, h5⟩, h6⟩ := hc
      split
      · rename_i i j cs ds hi hj hsub
        obtain ⟨cv, u, hk, hrel, hmg, hy, hn, hbt⟩ := g.kl.sub x cs ds hsub
        have hgl := g.gl h4
        have hN : X.N.Nodup := by rw [g.nN]; exact g.nd
        have hNi : X.N[i]? = some n' := by rw [g.nN]; exact slot_ok hi
        have hln : X.env.kindOf n' = some .local := by
          show X.env.scope.names.lookup n' = _
          rw [g.scp]; exact locL_ok h2
        have hname : Names X x u := ⟨hgl.1, hgl.2.1, by
          rcases hmg with q | ⟨q, r⟩
          · exact .inl q
          · exact .inr ⟨q, r, hgl.2.2⟩⟩
        have e1 : ("__debug__" : Str) = ⟨#[95,95,100,101,98,117,103,95,95]⟩ := by decide +kernel
        have e2 : ("__classdict__" : Str) = ⟨#[95,95,99,108,97,115,115,100,105,99,116,95,95]⟩ := by decide +kernel
        obtain ⟨o1, o2⟩ := g.ow y (locB_ok h3)
        have base := ps_try_keep (np := px) (pos := pos) (pos' := ph) (tb := fun W => tSsW X.K cn cf W m) (ts := fun _ _ _ => tKeep i j) st.ex st.st st.fr hN hNi hln hname g.tk (fun W pn xe tk _ => hm W pn xe tk)
          (fun a oe cls dd pn _ _ => pss_one (ps_set (X := X.suite a ((a, oe) :: pn)) (pos := pa) (pos' := py) (i := j) hN (by rw [g.nN]; exact slot_ok hj) (by rw [g.scp]; exact o1) (pe_var (pos := pn') hNi (.inl hln) (by rw [e1]; exact h5) (by rw [e2]; exact h6)) rfl (by rw [g.scp]; exact o2)))
        exact ⟨fun pins s σ H D I q => base.run pins s σ H D I (t_tri ⟨hy, hn, hbt⟩ (List.getElem?_eq_some_iff.mp hNi).1 I.len q)⟩
      · exact ps_no
    · exact ps_no
  · exact ps_no
mutual
theorem cS_ok (hp : PassesOwn (model X.prog X.w) X.A X.env X.xe) (st : Stk X) (g : Gd c lv cn cf (WU E) sc so X) (n : Nat) : ∀ s : Stmt, PS X s (tS X.K cn cf E (cS c n sc so d s))
  | .Pass _ => by simp only [cS]; exact ps_imp ps_pass fun D σ H q => t_pas q
  | .Return none _ => by simp only [cS]; exact ps_imp ps_retN fun D σ H q => t_rtn q
  | .Return (some e) _ => by simp only [cS]; exact ps_imp (ps_ret (pe_cRet g n e)) fun D σ H q => t_ret q
  | .Assign [] e _ => by simp only [cS]; exact ps_no
  | .Assign (_ :: _ :: _) e _ => by simp only [cS]; exact ps_no
  | .Assign [tg] e _ => by simp only [cS]; exact ps_cAsg g n
  | .If t a b _ => by
    simp only [cS]
    exact ps_imp (ps_if (cE_ok c lv cn cf n _ sc so X g t).2 (cSs_ok hp st g n [] a) (cSs_ok hp st g n [] b)) fun D σ H q => t_iff q
  | .For tg it b [] _ => by
    simp only [cS]
    split
    · rename_i t ht
      split
      · rename_i hn
        exact ps_imp (ps_for hp g.calm (pi_cIt g (cE_ok c lv cn cf n _ sc so X g)) (tg_ok g ht) (cSs_ok hp st g n [] b) fun x => set_hs hn _ x) fun D σ H q => t_fr q
      · exact ps_no
    · exact ps_no
  | .For tg it b (_ :: _) _ => by simp only [cS]; exact ps_no
  | .While t b [] _ => by
    simp only [cS]
    exact ps_imp (ps_while hp (cE_ok c lv cn cf n _ sc so X g t).2 (cSs_ok hp st g n [] b)) fun D σ H q => t_whl q
  | .While t b (_ :: _) _ => by simp only [cS]; exact ps_no
  | .Expr e _ => by simp only [cS]; exact ps_cXp g n
  | .FunctionDef .. => by simp only [cS]; exact ps_no
  | .AsyncFunctionDef .. => by simp only [cS]; exact ps_no
  | .ClassDef .. => by simp only [cS]; exact ps_no
  | .Delete .. => by simp only [cS]; exact ps_no
  | .TypeAlias .. => by simp only [cS]; exact ps_no
  | .AugAssign .. => by simp only [cS]; exact ps_no
  | .AnnAssign .. => by simp only [cS]; exact ps_no
  | .AsyncFor .. => by simp only [cS]; exact ps_no
  | .With .. => by simp only [cS]; exact ps_no
  | .AsyncWith .. => by simp only [cS]; exact ps_no
  | .Match .. => by simp only [cS]; exact ps_no
  | .Raise none _ _ => by simp only [cS]; exact ps_no
  | .Raise (some e) (some _) _ => by simp only [cS]; exact ps_no
  | .Raise (some e) none _ => by simp only [cS]; exact ps_cRaise g (cE_ok c lv cn cf n (WU E) sc so X g)
  | .Try b hs [] [] _ => by
    simp only [cS]
    exact ps_cTry g st fun W pn xe tk => cT_ok (g.tr tk) n b
  | .Try b hs (_ :: _) _ _ => by simp only [cS]; exact ps_no
  | .Try b hs [] (_ :: _) _ => by simp only [cS]; exact ps_no
  | .TryStar .. => by simp only [cS]; exact ps_no
  | .Assert .. => by simp only [cS]; exact ps_no
  | .Import .. => by simp only [cS]; exact ps_no
  | .ImportFrom .. => by simp only [cS]; exact ps_no
  | .Global .. => by simp only [cS]; exact ps_no
  | .Nonlocal .. => by simp only [cS]; exact ps_no
  | .Break .. => by simp only [cS]; exact ps_no
  | .Continue .. => by simp only [cS]; exact ps_no
theorem cSs_ok (hp : PassesOwn (model X.prog X.w) X.A X.env X.xe) (st : Stk X) (g : Gd c lv cn cf (WU E) sc so X) (n : Nat) : ∀ (seen : List Str) (ss : List Stmt), PSs X ss (tSs X.K cn cf E (cSs c n sc so d seen ss))
  | _, [] => by simp only [cSs]; exact pss_imp pss_nil fun D σ H q => t_nilS q
  | seen, s :: r => by
    simp only [cSs]
    exact pss_imp (pss_cons (cS_ok hp st g n s) (cSs_ok hp st g n _ r)) fun D σ H q => by
      have q' := t_seqS q
      obtain ⟨B, G0, G, μ, S, ρ, w, er, h⟩ := q'
      refine ⟨B, G0, G, μ, S, ρ, w, er, h.imp fun p G' μ' S' H' l m w' hd => ?_⟩
      obtain ⟨f, ρ'⟩ := p
      cases f with
      | nx => exact fun σ' er' => t_ghosts (hd σ' er')
      | rt v => exact hd
end
end
end Pe
set_option Elab.async false
set_option linter.all false
set_option maxRecDepth 100000
set_option maxHeartbeats 4000000
namespace Pe
open PySem PySem.Spec PyProof.Rows L2
section
variable {K : PySem.W.Frag} {cn : Cn} {B G0 G H : Hp} {μ : Mu} {S : Store} {σ : L2.St} {W : L2.WX}
theorem After.pureB {m : M Fv} {Q : VK} (w : Wd K B G0 G μ S H) (h : After K cn B G0 G μ σ W (pureB m S) fun v G' μ' S' H' => ∀ z, FvOk K B G' μ' S' H' z v → Q z H') :
    After K cn (guard G H) G G mu0 σ W (m .mt) fun v G' μ' S' H' => ∀ z, FvOk K (guard G H) G' μ' S' H' z v → Q z H' := by
  unfold Pe.pureB at h
  cases e : m .mt with
  | ok v S2 =>
    rw [e] at h
    intro G2 μ2 H2 l _ w2 z f
    by_cases hp : v.d.pure = true
    · simp only [hp, if_true] at h
      exact h G2 μ H2 l (fun _ _ e => e) (w.back l w2) z (FvOk.back w l hp f)
    · simp only [hp, if_false, Bool.false_eq_true] at h
      exact h.elim
  | exc x S2 =>
    rw [e] at h
    intro G2 μ2 H2 cl dd l _ w2 ex
    by_cases hp : D.pures x.xs = true
    · simp only [hp, if_true] at h
      refine h G2 μ H2 cl dd l (fun _ _ e => e) (w.back l w2) ⟨ex.1, ?_⟩
      rcases ex.2 with q | ⟨d, vs, e1, e2, e3, r⟩
      · exact .inl q
      · exact .inr ⟨d, vs, e1, e2, e3, reps_pure hp r⟩
    · simp only [hp, if_false, Bool.false_eq_true] at h
      exact h.elim
  | bad => rw [e] at h; exact h.elim
theorem reps_show (w : Wd K B G0 G μ S H) : ∀ {vs : List V} {ds : List D}, D.pures (ds.map S.see) = true → Reps K G μ vs ds → ∃ As0 : List Addr, ∀ As, (∀ a ∈ As0, a ∈ As) → Reps K (viewed As G H) mu0 vs (ds.map S.see)
  | _, [], _, .nil => ⟨[], fun _ _ => .nil⟩
  | v :: vs, d :: ds, hp, .cons r rs => by
    have hp' : (S.see d).pure = true ∧ D.pures (ds.map S.see) = true := Bool.and_eq_true_iff.mp (show (D.pure _ && D.pures _) = true from hp)
    obtain ⟨A2, h2⟩ := reps_show w hp'.2 rs
    have h1 : ∃ A1 : List Addr, ∀ As, (∀ a ∈ A1, a ∈ As) → Rep K (viewed As G H) mu0 v (S.see d) := by
      cases r with
      | ref hm =>
        rename_i n a
        have hs := hp'.1
        cases hg : S.get n with
        | none => simp only [Store.see, hg] at hs; cases hs
        | some c =>
          cases c with
          | lst xs =>
            obtain ⟨a', m, ga, ba, ok⟩ := w.cel n _ hg
            rw [hm] at m; cases m
            obtain ⟨vs', hv, r'⟩ := ok
            have e : S.see (.ref n) = .lst xs := by simp only [Store.see, hg]
            rw [e] at hs ⊢
            refine ⟨[a], fun As hA => ?_⟩
            exact .lst (viewed_at ga (hA a List.mem_cons_self) hv) (reps_pure (μ := μ) (by simpa [D.pure] using hs) (r'.up viewed_G fun _ _ e => e))
          | dct _ => simp only [Store.see, hg] at hs; cases hs
          | obj _ _ => simp only [Store.see, hg] at hs; cases hs
      | non => exact ⟨[], fun _ _ => .non⟩
      | bl b => exact ⟨[], fun _ _ => .bl b⟩
      | int i => exact ⟨[], fun _ _ => .int i⟩
      | str x => exact ⟨[], fun _ _ => .str x⟩
      | lst h r' => exact ⟨[], fun As _ => rep_pure (μ := μ) hp'.1 (Rep.up viewed_G (fun _ _ e => e) (.lst h r'))⟩
      | tup h r' => exact ⟨[], fun As _ => rep_pure (μ := μ) hp'.1 (Rep.up viewed_G (fun _ _ e => e) (.tup h r'))⟩
      | scr h => cases hp'.1
      | dct0 h => exact ⟨[], fun _ _ => .dct0 (viewed_G _ _ h)⟩
      | exn0 h => exact ⟨[], fun _ _ => .exn0 (viewed_G _ _ h)⟩
      | exnF h h2 h3 r' => exact ⟨[], fun As _ => rep_pure (μ := μ) hp'.1 (Rep.up viewed_G (fun _ _ e => e) (.exnF h h2 h3 r'))⟩
    obtain ⟨A1, h1⟩ := h1
    exact ⟨A1 ++ A2, fun As hA => .cons (h1 As fun a z => hA a (List.mem_append_left _ z)) (h2 As fun a z => hA a (List.mem_append_right _ z))⟩
theorem After.view {m : M Fv} {v : Fv} {S2 : Store} {Q : VK} {As : List Addr} (w : Wd K B G0 G μ S H) (e : m .mt = .ok v S2) (hf : v.d.flat = true) (h : After K cn B G0 G μ σ W (.ok v S) fun v G' μ' S' H' => ∀ z, FvOk K B G' μ' S' H' z v → Q z H') :
    After K cn (guard (viewed As G H) H) (viewed As G H) (viewed As G H) mu0 σ W (m .mt) fun v G' μ' S' H' => ∀ z, FvOk K (guard (viewed As G H) H) G' μ' S' H' z v → Q z H' := by
  rw [e]
  intro G2 μ2 H2 l _ w2 z f
  cases v with
  | nw xs => cases hf
  | fz d => exact h G μ H2 (fun _ _ e => e) (fun _ _ e => e) (w.unshow l w2) z (rep_flat hf f)
theorem start_env {N : List Str} {vs : List V} {ds : List D} (r : Reps K G μ vs ds) : EnvR K G μ (startE N.length ds) (L2.start N vs) := by
  refine ⟨by unfold startE L2.start; simp [r.len], fun i d h => ?_⟩
  unfold startE at h
  unfold L2.start
  by_cases hi : i < ds.length
  · rw [List.getElem?_append_left (by simpa using hi), List.getElem?_map] at h
    rw [List.getElem?_append_left (by simpa [r.len] using hi), List.getElem?_map]
    cases hd : ds[i]? with
    | none => rw [hd] at h; cases h
    | some d' =>
      rw [hd] at h
      simp only [Option.map_some, Option.some.injEq] at h
      subst h
      obtain ⟨v, hv, rv⟩ := r.get hd
      exact ⟨v, by rw [hv]; rfl, rv⟩
  · rw [List.getElem?_append_right (by simpa using Nat.le_of_not_lt hi)] at h
    rw [List.getElem?_replicate] at h
    split at h <;> cases h
/-- a def's run -/
theorem run_ok {cf : Cf} {E : XK} {d : Def} {N : List Str} {vs : List V} {ds : List D} {Q : VK} (hn : d.nn = N.length) (w : Wd K B G0 G μ S H) (r : Reps K G μ vs ds)
    (h : After K cn B G0 G μ [] (WU E) (runB cf d ds S) fun v G' μ' S' H' => ∀ z, FvOk K B G' μ' S' H' z v → Q z H') :
    tSs K cn cf E d.body { nx := fun _ H' => Q .non H', rt := Q } (L2.start N vs) H := by
  unfold runB at h
  refine ⟨B, G0, G, μ, S, startE d.nn ds, w, by rw [hn]; exact start_env r, (After.bnd h).sig.imp fun p G1 μ1 S1 H1 l m w1 h1 => ?_⟩
  obtain ⟨f, ρ'⟩ := p
  cases f with
  | nx => exact fun σ' er' => After.now (σ := []) (W := WU E) (cn := cn) (a := Fv.fz .non) w1 h1 .non .non
  | rt v => exact After.now (σ := []) (W := WU E) (cn := cn) (a := v) w1 h1
end
/-- where a def stands -/
inductive At where
  | glo (x : Str)
  | mth (C m : Str)
  | prp (C f : Str)
deriving DecidableEq
def getA (K : PySem.W.Frag) (C : Addr) (f : Str) : Addr := match PySem.W.recIn K (He.ma K C f) "property" with
  | some (.ref g :: _) => g
  | _ => 0
def At.a (K : PySem.W.Frag) : At → Addr
  | .glo x => He.ga K x
  | .mth C m => He.ma K (He.ga K C) m
  | .prp C f => getA K (He.ga K C) f
structure Fd where
  x : Str
  st : Stmt
  ps : List Str
  N : List Str
  ds : Ds
  at_ : At
  nm : Str
  q : Str
def lk {α : Type} (x : Str) : List (Str × α) → Option α
  | [] => none
  | (y, v) :: r => if y = x then some v else lk x r
theorem lk_mem {α : Type} {x : Str} {v : α} : ∀ {l : List (Str × α)}, lk x l = some v → (x, v) ∈ l
  | [], h => by cases h
  | (y, u) :: r, h => by
    unfold lk at h
    split at h
    · rename_i e
      cases h
      subst e
      exact List.mem_cons_self
    · exact List.mem_cons_of_mem _ (lk_mem h)
structure Ki where
  news : List (Str × Str × Nat)
  mths : List (Str × Str × Str × Nat)
  prps : List (Str × Str × Str)
  excs : List (Str × List Str)
  subs : List (Str × List Str × List Str)
  atts : List (Str × List Str × List Str)
  file : Str := ⟨#[]⟩
def Ki.kt (i : Ki) : Kt := ⟨fun x => lk x i.news, fun x => lk x i.mths, fun x => lk x i.prps, fun x => lk x i.excs, fun x => lk x i.subs, fun x => lk x i.atts⟩
def tabOf (L : List Fd) : Tab := fun f => (L.find? fun d => decide (d.x = f)).bind fun d => match d.at_ with
  | .glo _ => some d.ps.length
  | _ => none
def Fd.comp (tab : Tab) (cs : Str → Option D) (kt : Kt) (n : Nat) (d : Fd) : Def := ⟨d.ps.length, d.N.length, cSs ⟨d.N, tab, cs, kt⟩ n (defScope d.st) (defScope d.st) d.ds [] (defBody d.st), d.ds.st.contains ⟨#[]⟩⟩
def progOf (L : List Fd) (cs : Str → Option D) (kt : Kt) (n : Nat) : Prog := fun f => (L.find? fun d => decide (d.x = f)).map (·.comp (tabOf L) cs kt n)
def atB (L : List Fd) (k : Str) (a : At) (n : Nat) : Bool := match L.find? (fun d => decide (d.x = k)) with
  | some d => decide (d.at_ = a) && decide (d.ps.length = n)
  | none => false
/-- the lists tell of the defs -/
def wfB (L : List Fd) (i : Ki) : Bool :=
  L.all (fun d => match d.at_ with
    | .glo x => decide (x = d.x)
    | _ => true) &&
  (i.news.all (fun p => atB L p.2.1 (.mth p.1 ⟨#[95, 95, 105, 110, 105, 116, 95, 95]⟩) (p.2.2 + 1)) &&
  (i.mths.all (fun p => atB L p.2.2.1 (.mth p.2.1 p.1) (p.2.2.2 + 1)) &&
  i.prps.all (fun p => atB L p.2.2 (.prp p.2.1 p.1) 1)))
/-- what is known of a def -/
structure FdOk (K : PySem.W.Frag) (d : Fd) : Prop where
  ok : ∃ fd, PySem.W.keepIn K (.ref (d.at_.a K)) = true ∧ Binds K fd d.ps [] ∧ FunD K d.nm d.q (defArgs d.st) (defBody d.st) (defScope d.st) [] [] (d.at_.a K) fd ∧ FnScope d.N d.ps (defScope d.st)
def eqB {α : Type} [DecidableEq α] (a b : α) : Bool := decide (a = b)
def excB (K : PySem.W.Frag) (D : Addr) : Bool := eqB (PySem.W.findIn K (.ref D) "__getattribute__") (some (some (.builtin "BaseException.__getattribute__"))) && (eqB (PySem.W.findIn K (.ref D) "__getattr__") (some none) &&
  (eqB (PySem.W.subIn K (.ref D) (.type "BaseException")) (some true) && (PySem.W.hasDictIn K D && (eqB (PySem.W.findIn K (.ref D) "__class__") (some (some (.builtin "object.__class__"))) &&
  (eqB (PySem.W.specialIn K (.builtin "object.__class__") "__get__") (some (some (.builtin "getset_descriptor.__get__"))) && (eqB (PySem.W.takesIn K (.builtin "object.__class__")) (some true) && eqB (PySem.W.mroIn K D (.type "object")) (some true)))))))
theorem excB_ok {K : PySem.W.Frag} {D : Addr} (h : excB K D = true) : ExcC K D := by
  obtain ⟨h1, h⟩ := He.ba h
  obtain ⟨h2, h⟩ := He.ba h
  obtain ⟨h3, h⟩ := He.ba h
  obtain ⟨h4, h⟩ := He.ba h
  obtain ⟨h5, h⟩ := He.ba h
  obtain ⟨h6, h⟩ := He.ba h
  obtain ⟨h7, h8⟩ := He.ba h
  exact ⟨of_decide_eq_true h1, of_decide_eq_true h2, of_decide_eq_true h3, h4, of_decide_eq_true h5, of_decide_eq_true h6, of_decide_eq_true h7, of_decide_eq_true h8⟩
def btTys : List String := ["NoneType", "bool", "int", "str", "tuple", "list", "dict"]
/-- what a name of a class stands for -/
def cvOf (K : PySem.W.Frag) (x : Str) : Value := if x = sVE then .type "ValueError" else cN K x
def isB (K : PySem.W.Frag) (cv : Value) (b : Bool) (y : Str) : Bool := excB K (He.ga K y) && (eqB (PySem.W.exmOne K (cN K y) cv) (some b) && eqB (PySem.W.kitOne K (cN K y) cv) (some b))
def newB (K : PySem.W.Frag) (x : Str) : Bool := (He.Fa.glo x).ok K && (He.Fa.mkr x).ok K
def mthB (K : PySem.W.Frag) (C m : Str) : Bool := (He.Fa.cls C).ok K && (He.Fa.meth C m).ok K
def prpB (K : PySem.W.Frag) (C f : Str) : Bool := (He.Fa.cls C).ok K && (eqB (PySem.W.findIn K (.ref (He.ga K C)) f) (some (some (.ref (He.ma K (He.ga K C) f)))) && (eqB (PySem.W.specialIn K (.ref (He.ma K (He.ga K C) f)) "__get__") (some (some (.builtin "property.__get__"))) &&
  (eqB (PySem.W.takesIn K (.ref (He.ma K (He.ga K C) f))) (some true) && (match PySem.W.recIn K (He.ma K (He.ga K C) f) "property" with
    | some (.ref _ :: _) => true
    | _ => false))))
/-- an own exception with an own __init__ -/
def oexB (K : PySem.W.Frag) (C : Addr) : Bool := (match K.lookup C with
  | some ⟨.type t, _, .cls ⟨_, _, .ref C' :: bm, _, _, hd, _, _, _, _, hdel⟩, sl⟩ => t == "type" && C' == C && hd && !hdel && PySem.HandSPX.refsVE bm && (match sl.toList with
    | [_, _, _, _, some (.builtin n), _] => n == "ValueError.__new__"
    | _ => false)
  | _ => false) &&
  (eqB (PySem.W.findIn K (.ref C) "__setattr__") (some (some (.builtin "object.__setattr__"))) && (eqB (PySem.W.subIn K (.ref C) (.type "BaseException")) (some true) && (eqB (PySem.W.typeIn K (.ref C)) (some (.type "type")) && PySem.W.keepIn K (.ref C))))
theorem oexB_ok {K : PySem.W.Frag} {C : Addr} (h : oexB K C = true) : OexC K C := by
  obtain ⟨h0, h⟩ := He.ba h
  obtain ⟨h1, h⟩ := He.ba h
  obtain ⟨h2, h⟩ := He.ba h
  obtain ⟨h3, h4⟩ := He.ba h
  refine ⟨?_, of_decide_eq_true h1, of_decide_eq_true h2, of_decide_eq_true h3, h4⟩
  split at h0
  · rename_i t dd nm bs C' bm N q hd sn sub ab col hdel sl e
    simp only [Bool.and_eq_true, Bool.not_eq_true', beq_iff_eq] at h0
    obtain ⟨⟨⟨⟨⟨rfl, rfl⟩, rfl⟩, rfl⟩, h5⟩, h6⟩ := h0
    split at h6
    · rename_i k0 k1 k2 k3 n k5 es
      have h6 := eq_of_beq h6
      subst h6
      refine ⟨nm, q, N, bs, bm, sn, sub, ab, col, dd, k0, k1, k2, k3, k5, ?_, h5⟩
      rw [e]
      have : sl = #[k0, k1, k2, k3, some (.builtin "ValueError.__new__"), k5] := by
        cases sl; simp at es; subst es; rfl
      rw [this]
    · cases h6
  · cases h0
def xcB (K : PySem.W.Frag) (file : Str) (C : Addr) (fs : List Str) : Bool := oexB K C && (fs.all (fun f => eqB (PySem.W.findIn K (.ref C) f) (some none)) && (eqB (PySem.W.nsIn K cStatics "thirdparty.any") (some none) && (eqB (PySem.W.subIn K (.ref C) (.type "ValueError")) (some true) &&
  (match PySem.W.findIn K (.ref C) "__init__" with
    | some (some (.ref fI)) => eqB (PySem.W.typeIn K (.ref fI)) (some (.type "function")) && (match K.lookup fI with
      | some ⟨_, _, .func fd, _⟩ => fdB K file C fs fd
      | _ => false)
    | _ => false))))
theorem xcB_ok {K : PySem.W.Frag} {file : Str} {C : Addr} {fs : List Str} (h : xcB K file C fs = true) : XiC K file C fs := by
  obtain ⟨h0, h⟩ := He.ba h
  obtain ⟨h1, h⟩ := He.ba h
  obtain ⟨h2, h⟩ := He.ba h
  obtain ⟨h3, h4⟩ := He.ba h
  refine ⟨oexB_ok h0, fun f hf => of_decide_eq_true (List.all_eq_true.mp h1 f hf), of_decide_eq_true h2, of_decide_eq_true h3, ?_⟩
  split at h4
  · rename_i fI e1
    obtain ⟨h5, h6⟩ := He.ba h4
    split at h6
    · rename_i oi di fd si e2
      exact ⟨fI, oi, di, fd, si, e1, of_decide_eq_true h5, e2, h6⟩
    · cases h6
  · cases h4
def excsB (K : PySem.W.Frag) (file : Str) (x : Str) (l : List Str) : Bool := (He.Fa.glo x).ok K && (if l.isEmpty then (He.Fa.exc x).ok K else ((He.Fa.free sSuper).ok K && (decide (l.length ≤ 900) && xcB K file (He.ga K x) l)))
/-- what is asked of the program -/
def pxB (P : Program) (i : Ki) : Bool := i.excs.all (fun p => p.2.isEmpty) || ((P.main.file == i.file) && !(P.main.scope.names.lookup sSuper).isSome)
def subB (K : PySem.W.Frag) (x : Str) (cs ds : List Str) : Bool := (if x = sVE then (He.Fa.free x).ok K else (He.Fa.glo x).ok K) && (cs.all (isB K (cvOf K x) true) && (ds.all (isB K (cvOf K x) false) && btTys.all fun T => eqB (PySem.W.kitOne K (.type T) (cvOf K x)) (some false)))
def attB (K : PySem.W.Frag) (f : Str) (cs es : List Str) : Bool := cs.all (fun c => (He.Fa.cls c).ok K && (He.Fa.noat c f).ok K) && es.all fun c => xfB K (He.ga K c) && eqB (PySem.W.findIn K (cN K c) f) (some none)
def Ki.ok (i : Ki) (K : PySem.W.Frag) : Bool := i.news.all (fun p => newB K p.1) && (i.mths.all (fun p => mthB K p.2.1 p.1) && (i.prps.all (fun p => prpB K p.2.1 p.1) && (i.excs.all (fun p => excsB K i.file p.1 p.2) && (i.subs.all (fun p => subB K p.1 p.2.1 p.2.2) && i.atts.all fun p => attB K p.1 p.2.1 p.2.2))))
theorem prpB_ok {K : PySem.W.Frag} {C f : Str} (h : prpB K C f = true) : Cls K (He.ga K C) ∧ PropOf K (He.ga K C) f (He.ma K (He.ga K C) f) (getA K (He.ga K C) f) := by
  obtain ⟨h1, h⟩ := He.ba h
  obtain ⟨h2, h⟩ := He.ba h
  obtain ⟨h3, h⟩ := He.ba h
  obtain ⟨h4, h5⟩ := He.ba h
  refine ⟨He.cls_ok h1, of_decide_eq_true h2, of_decide_eq_true h3, of_decide_eq_true h4, ?_⟩
  unfold getA
  split at h5
  · rename_i g r e
    rw [e]
    exact ⟨r, rfl⟩
  · cases h5
theorem isB_ok {K : PySem.W.Frag} {cv : Value} {b : Bool} {y : Str} (h : isB K cv b y = true) : ExcC K (He.ga K y) ∧ PySem.W.exmOne K (cN K y) cv = some b ∧ PySem.W.kitOne K (cN K y) cv = some b := by
  obtain ⟨h1, h⟩ := He.ba h
  obtain ⟨h2, h3⟩ := He.ba h
  exact ⟨excB_ok h1, of_decide_eq_true h2, of_decide_eq_true h3⟩
theorem subB_ok {K : PySem.W.Frag} {h : Heap} {mg : Str → Option Value} (X : K.In h) (G : h.Ns mainGlobals mg) {x : Str} {cs ds : List Str} (q : subB K x cs ds = true) :
    ∃ (c : V) (cv : Value), ClsV c cv ∧ RelV c cv ∧ (mg x = some cv ∨ (mg x = none ∧ bootBuiltins x = some cv)) ∧
    (∀ y ∈ cs, ExcC K (He.ga K y) ∧ PySem.W.exmOne K (cN K y) cv = some true ∧ PySem.W.kitOne K (cN K y) cv = some true) ∧ (∀ y ∈ ds, ExcC K (He.ga K y) ∧ PySem.W.exmOne K (cN K y) cv = some false ∧ PySem.W.kitOne K (cN K y) cv = some false) ∧
    ∀ T ∈ ["NoneType", "bool", "int", "str", "tuple", "list", "dict"], PySem.W.kitOne K (.type T) cv = some false := by
  obtain ⟨h1, q⟩ := He.ba q
  obtain ⟨h2, q⟩ := He.ba q
  obtain ⟨h3, h4⟩ := He.ba q
  have rest : (∀ y ∈ cs, ExcC K (He.ga K y) ∧ PySem.W.exmOne K (cN K y) (cvOf K x) = some true ∧ PySem.W.kitOne K (cN K y) (cvOf K x) = some true) ∧ (∀ y ∈ ds, ExcC K (He.ga K y) ∧ PySem.W.exmOne K (cN K y) (cvOf K x) = some false ∧ PySem.W.kitOne K (cN K y) (cvOf K x) = some false) ∧
    ∀ T ∈ ["NoneType", "bool", "int", "str", "tuple", "list", "dict"], PySem.W.kitOne K (.type T) (cvOf K x) = some false :=
    ⟨fun y hy => isB_ok (List.all_eq_true.mp h2 y hy), fun y hy => isB_ok (List.all_eq_true.mp h3 y hy), fun T hT => of_decide_eq_true (List.all_eq_true.mp h4 T hT)⟩
  by_cases e : x = sVE
  · have ec : cvOf K x = .type "ValueError" := by unfold cvOf; rw [if_pos e]
    rw [if_pos e] at h1
    rw [ec] at rest
    refine ⟨.ty "ValueError", .type "ValueError", .ty _, rfl, .inr ⟨He.free_ok X G h1, ?_⟩, rest⟩
    rw [e]
    decide +kernel
  · have ec : cvOf K x = cN K x := by unfold cvOf; rw [if_neg e]
    rw [if_neg e] at h1
    rw [ec] at rest
    exact ⟨.ref (He.ga K x), cN K x, .own _, rfl, .inl (He.glo_ok X G h1), rest⟩
section
variable {P : Program} {w : World} {K : PySem.W.Frag} {mg : Str → Option Value} {base : Heap} {cn : Cn} {L : List Fd} {cs : Str → Option D} {i : Ki} {n : Nat}
structure Facts (K : PySem.W.Frag) (mg : Str → Option Value) (L : List Fd) (cs : Str → Option D) (i : Ki) : Prop where
  fd : ∀ d ∈ L, FdOk K d
  gl : ∀ d ∈ L, ∀ x, d.at_ = .glo x → mg x = some (.ref (He.ga K x))
  cst : ∀ x d, cs x = some d → ∃ v u, mg x = some u ∧ RelV v u ∧ ∀ G μ, Rep K G μ v d
  bt : ∀ x ∈ btNames, (tabOf L x = none ∧ cs x = none) → mg x = none
  wf : wfB L i = true
  at_ : ∃ h : Heap, K.In h ∧ h.Ns mainGlobals mg
  ki : i.ok K = true
/-- every def's run, at a level -/
def Runs (P : Program) (w : World) (K : PySem.W.Frag) (mg : Str → Option Value) (base : Heap) (cn : Cn) (L : List Fd) (cs : Str → Option D) (kt : Kt) (n k : Nat) : Prop := ∀ f d, L.find? (fun e => decide (e.x = f)) = some d →
  ∃ fd, PySem.W.keepIn K (.ref (d.at_.a K)) = true ∧ Binds K fd d.ps [] ∧ FnOk P w K mg base (L2.CX P w) (2 * k) (d.at_.a K) fd d.ps (spOf K cn (evCall (progOf L cs kt n) k) f d.ps.length)
theorem atB_ok {k : Str} {a : At} {m : Nat} (h : atB L k a m = true) : ∃ d, L.find? (fun d => decide (d.x = k)) = some d ∧ d.at_ = a ∧ d.ps.length = m := by
  unfold atB at h
  split at h
  · rename_i d e
    simp only [Bool.and_eq_true, decide_eq_true_eq] at h
    exact ⟨d, e, h.1, h.2⟩
  · cases h
theorem fns_of (F : Facts K mg L cs i) {k : Nat} (r : Runs P w K mg base cn L cs i.kt n k) : Fns (2 * k) cn (evCall (progOf L cs i.kt n) k) (tabOf L) cs P w K mg base := by
  refine ⟨fun f np h => ?_, F.cst, F.bt⟩
  unfold tabOf at h
  cases e : L.find? fun d => decide (d.x = f) with
  | none => rw [e] at h; cases h
  | some d =>
    rw [e] at h
    simp only [Option.bind_some] at h
    cases ea : d.at_ with
    | glo x =>
      rw [ea] at h
      cases h
      have hm := List.mem_of_find?_eq_some e
      have hx : d.x = f := by simpa using List.find?_some e
      obtain ⟨w1, _⟩ := He.ba F.wf
      have w1 := List.all_eq_true.mp w1 d hm
      rw [ea] at w1
      have w1 : x = d.x := of_decide_eq_true w1
      obtain ⟨fd, h1, h2, h3⟩ := r f d e
      have g := F.gl d hm x ea
      have e2 : x = f := w1.trans hx
      rw [ea] at h1 h3
      rw [e2] at g h1 h3
      exact ⟨_, fd, d.ps, g, h1, rfl, h2, h3⟩
    | mth _ _ => rw [ea] at h; cases h
    | prp _ _ => rw [ea] at h; cases h
theorem kls_of (F : Facts K mg L cs i) (hP : pxB P i = true) {k : Nat} (r : Runs P w K mg base cn L cs i.kt n k) : Kls (2 * k) cn (evCall (progOf L cs i.kt n) k) i.kt P w K mg base := by
  obtain ⟨h, X, G⟩ := F.at_
  obtain ⟨_, wf⟩ := He.ba F.wf
  obtain ⟨wn, wf⟩ := He.ba wf
  obtain ⟨wm, wp⟩ := He.ba wf
  obtain ⟨k1, q⟩ := He.ba F.ki
  obtain ⟨k2, q⟩ := He.ba q
  obtain ⟨k3, q⟩ := He.ba q
  obtain ⟨k4, q⟩ := He.ba q
  obtain ⟨k5, k6⟩ := He.ba q
  refine ⟨fun x kk np hx => ?_, fun m C kk np hx => ?_, fun f C kk hx => ?_, fun x hx => ?_, fun x a as hx => ?_, fun x a b hx => ?_, fun f a b hx => ?_⟩
  · have hm := lk_mem (show lk x i.news = some (kk, np) from hx)
    obtain ⟨d, e, ea, el⟩ := atB_ok (List.all_eq_true.mp wn _ hm)
    obtain ⟨fd, h1, h2, h3⟩ := r kk d e
    obtain ⟨c1, c2⟩ := He.ba (List.all_eq_true.mp k1 _ hm)
    rw [ea] at h3
    rw [el] at h3
    have en : (⟨#[95, 95, 105, 110, 105, 116, 95, 95]⟩ : Str) = "__init__" := by decide +kernel
    rw [en] at h3
    exact ⟨_, fd, d.ps, He.glo_ok X G c1, He.mkr_ok c2, el, h2, h3⟩
  · have hm := lk_mem (show lk m i.mths = some (C, kk, np) from hx)
    obtain ⟨d, e, ea, el⟩ := atB_ok (List.all_eq_true.mp wm _ hm)
    obtain ⟨fd, h1, h2, h3⟩ := r kk d e
    obtain ⟨c1, c2⟩ := He.ba (List.all_eq_true.mp k2 _ hm)
    rw [ea] at h3
    rw [el] at h3
    exact ⟨_, fd, d.ps, He.cls_ok c1, He.meth_ok c2, el, h2, h3⟩
  · have hm := lk_mem (show lk f i.prps = some (C, kk) from hx)
    obtain ⟨d, e, ea, el⟩ := atB_ok (List.all_eq_true.mp wp _ hm)
    obtain ⟨fd, h1, h2, h3⟩ := r kk d e
    obtain ⟨c1, c2⟩ := prpB_ok (List.all_eq_true.mp k3 _ hm)
    rw [ea] at h3
    rw [el] at h3
    exact ⟨_, _, fd, d.ps, c1, c2, el, h2, h3⟩
  · have hm := lk_mem (show lk x i.excs = some [] from hx)
    obtain ⟨c1, c2⟩ := He.ba (List.all_eq_true.mp k4 _ hm)
    exact ⟨He.glo_ok X G c1, He.exc_ok (by simpa using c2)⟩
  · have hm := lk_mem (show lk x i.excs = some (a :: as) from hx)
    obtain ⟨c1, c2⟩ := He.ba (List.all_eq_true.mp k4 _ hm)
    rw [if_neg (by simp)] at c2
    obtain ⟨c2, c3⟩ := He.ba c2
    obtain ⟨c3, c4⟩ := He.ba c3
    have c3 : (a :: as).length ≤ 900 := of_decide_eq_true c3
    refine ⟨i.file, He.glo_ok X G c1, xcB_ok c4, Nat.le_of_succ_le c3, ?_⟩
    unfold pxB at hP
    rcases Bool.or_eq_true_iff.mp hP with q | q
    · have := List.all_eq_true.mp q _ hm
      cases this
    · obtain ⟨q1, q2⟩ := He.ba q
      exact ⟨q1, by simpa using q2, He.free_ok X G c2⟩
  · exact subB_ok X G (List.all_eq_true.mp k5 _ (lk_mem (show lk x i.subs = some (a, b) from hx)))
  · obtain ⟨c1, c2⟩ := He.ba (List.all_eq_true.mp k6 _ (lk_mem (show lk f i.atts = some (a, b) from hx)))
    exact ⟨fun c hc => (He.ba (List.all_eq_true.mp c1 c hc)).imp He.cls_ok He.noat_ok, fun c hc => (He.ba (List.all_eq_true.mp c2 c hc)).imp xfB_ok fun z => of_decide_eq_true z⟩
theorem fn_step {k : Nat} {d : Fd} {f : Str} {fd : FuncData} (F : Facts K mg L cs i) (hP' : pxB P i = true)
    (r : Runs P w K mg base cn L cs i.kt n k) (e : L.find? (fun e => decide (e.x = f)) = some d) (h4 : FunD K d.nm d.q (defArgs d.st) (defBody d.st) (defScope d.st) [] [] (d.at_.a K) fd) (h5 : FnScope d.N d.ps (defScope d.st)) :
    FnOk P w K mg base (L2.CX P w) (2 * k + 1 + 1) (d.at_.a K) fd d.ps (spOf K cn (evCall (progOf L cs i.kt n) (k + 1)) f d.ps.length) := by
  have hP : progOf L cs i.kt n f = some (d.comp (tabOf L) cs i.kt n) := by unfold progOf; rw [e]; rfl
  refine h4.ok (CX := L2.CX P w) h5 (fun vs H Q E hs => hs.1) fun cdv A outer s H vs Q E hr hs => ?_
  obtain ⟨hl, B, G0, G, μ, S, ds, w', r', q⟩ := hs
  simp only [evCall, hP] at q
  have g : Gd ⟨d.N, tabOf L, cs, i.kt⟩ (2 * k) cn (evCall (progOf L cs i.kt n) k) (WU E) (defScope d.st) (defScope d.st) (cxOf (L2.CX P w) P w K mg base d.N d.q (defScope d.st) (d.at_.a K) cdv A outer s H E) := {
    fns := fns_of F r
    scp := rfl
    nN := rfl
    nd := h5.nd
    calm := rfl
    room := hr
    kl := kls_of F hP' r
    ow := fun x hx => ⟨hx, .inl rfl⟩
    tk := takes_of rfl rfl rfl rfl }
  refine ⟨_, cSs_ok (d := d.ds) (passes_of rfl) ⟨rfl, rfl, rfl⟩ g n [] (defBody d.st), ?_⟩
  split at q
  · split at q
    · rename_i hp
      simp only [Bool.and_eq_true] at hp
      exact run_ok (d := d.comp (tabOf L) cs i.kt n) rfl w'.enter (reps_pure hp.2 r') (After.pureB w' q)
    · unfold viewB at q
      split at q
      · rename_i hv
        simp only [Bool.and_eq_true] at hv
        split at q
        · rename_i v S2 e
          split at q
          · rename_i hf
            obtain ⟨As, hA⟩ := reps_show w' hv.2 r'
            exact run_ok (d := d.comp (tabOf L) cs i.kt n) rfl (w'.show As) (hA As fun _ z => z) (After.view w' e hf q)
          · exact run_ok (d := d.comp (tabOf L) cs i.kt n) rfl w' r' q
        · exact run_ok (d := d.comp (tabOf L) cs i.kt n) rfl w' r' q
      · exact run_ok (d := d.comp (tabOf L) cs i.kt n) rfl w' r' q
  · exact q.elim
theorem runs_ok (F : Facts K mg L cs i) (hP : pxB P i = true) : ∀ k, Runs P w K mg base cn L cs i.kt n k
  | 0, f, d, e => by
    obtain ⟨fd, h2, h3, h4, h5⟩ := (F.fd d (List.mem_of_find?_eq_some e)).ok
    refine ⟨fd, h2, h3, fun vs H Q E hs => hs.1, ?_⟩
    rintro A outer s H args us vs Q E _ _ _ _ ⟨_, B, G0, G, μ, S, ds, _, _, q⟩
    exact q.elim
  | k + 1, f, d, e => by
    obtain ⟨fd, h2, h3, h4, h5⟩ := (F.fd d (List.mem_of_find?_eq_some e)).ok
    exact ⟨fd, h2, h3, fn_step F hP (runs_ok F hP k) e h4 h5⟩
end
structure FdPre (d : Fd) : Prop where
  bind : ∀ (kV doc pm : Value) (an : Option Addr) (cdv ct : Value) (us : List Value), us.length = d.ps.length → bindArgs (PySem.W.fnOf d.nm d.q (defArgs d.st) (defBody d.st) (defScope d.st) .none kV doc pm an cdv ct) ⟨us, []⟩ = pure (d.ps.zip us)
  sc : FnScope d.N d.ps (defScope d.st)
def fnX (K : PySem.W.Frag) (p : Addr) : He.FnW := match K.lookup p with
  | some ⟨_, _, .func fd, _⟩ => some (fd.name, fd.qualname, fd.params, fd.body, fd.scope, fd.globals, fd.closure, fd.builtins)
  | _ => none
def Fd.val (d : Fd) : He.FnW := some (d.nm, d.q, defArgs d.st, .stmts (defBody d.st), defScope d.st, mainGlobals, [], builtinsNs)
def Fd.okB (K : PySem.W.Frag) (d : Fd) : Bool := PySem.W.keepIn K (.ref (d.at_.a K)) && (match K.lookup (d.at_.a K) with
  | some ⟨_, _, .func fd, _⟩ => PySem.W.codeIn K fd.code d.q && (He.dflB K fd.defaults [] && He.kwdB K fd.kwdefaults [])
  | _ => false)
theorem Fd.funD {K : PySem.W.Frag} {d : Fd} (e : fnX K (d.at_.a K) = d.val) (c : d.okB K = true) : ∃ fd, FunD K d.nm d.q (defArgs d.st) (defBody d.st) (defScope d.st) [] [] (d.at_.a K) fd := by
  obtain ⟨kp, c2⟩ := He.ba c
  unfold fnX at e
  cases q : K.lookup (d.at_.a K) with
  | none =>
    rw [q] at c2
    cases c2
  | some o =>
    obtain ⟨oc, od, dt, osl⟩ := o
    rw [q] at c2 e
    cases dt with
    | func fd =>
      obtain ⟨n1, n2, n3, n4, n5, n6, n7, n8, n9, n10, n11, n12, n13, n14, n15⟩ := fd
      have e2 : (some (n1, n2, n3, n4, n5, n6, n7, n15) : He.FnW) = some (d.nm, d.q, defArgs d.st, .stmts (defBody d.st), defScope d.st, mainGlobals, [], builtinsNs) := e
      simp only [Option.some.injEq, Prod.mk.injEq] at e2
      obtain ⟨h1, h2, h3, h4, h5, h6, h7, h8⟩ := e2
      subst h1 h2 h3 h4 h5 h6 h7 h8
      have c3 : (PySem.W.codeIn K n13 d.q && (He.dflB K n8 [] && He.kwdB K n9 [])) = true := c2
      obtain ⟨k1, k2⟩ := He.ba c3
      obtain ⟨k3, k4⟩ := He.ba k2
      exact ⟨_, ⟨oc, od, n8, n9, n10, n11, n12, n13, n14, osl, rfl, q, k1, He.dflB_ok k3, He.kwdB_ok k4⟩, kp⟩
    | _ => cases c2
theorem fdok_of {K : PySem.W.Frag} {d : Fd} (e : fnX K (d.at_.a K) = d.val) (c : d.okB K = true) (p : FdPre d) : FdOk K d := by
  obtain ⟨fd, F⟩ := Fd.funD e c
  exact ⟨fd, F.kp, F.bindsN p.bind, F, p.sc⟩
abbrev AlP : Type := Bool × List He.FnW
def obsP (fa : List He.Fa) (L : List Fd) (i : Ki) (K : PySem.W.Frag) : AlP := ((fa.all fun f => f.ok K) && ((L.all fun d => d.okB K) && i.ok K), L.map fun d => fnX K (d.at_.a K))
def valP (L : List Fd) : AlP := (true, L.map Fd.val)
def SaysP (fa : List He.Fa) (L : List Fd) (i : Ki) (K : PySem.W.Frag) : Prop := obsP fa L i K = valP L
def obsPG (n : Nat) (fa : List He.Fa) (L : List Fd) (i : Ki) (g : Addr → Option Obj) : AlP := obsP fa L i (He.frG g (cStatics :: He.asD g n))
def hookP (n : Nat) (fa : List He.Fa) (L : List Fd) (i : Ki) : PySem.W.Hook where
  α := AlP
  obs := fun s => obsPG n fa L i s.heap.get?
  val := fun _ => valP L
  says := fun _ h => ∃ K : PySem.W.Frag, K.In h ∧ SaysP fa L i K
  of := fun _ _ e => ⟨_, He.frG_in, e⟩
  keeps := fun _ _ _ ⟨K, hK, c⟩ k => ⟨K, PySem.W.Frag.In.keeps hK k, c⟩
theorem obsPG_eq {n : Nat} {fa : List He.Fa} {L : List Fd} {i : Ki} {g : Addr → Option Obj} {s : Shared} (h : ∀ a, g a = s.heap.get? a) : obsPG n fa L i g = (hookP n fa L i).obs s := by
  have e : g = s.heap.get? := funext h
  rw [e] <;> rfl
section
variable {fa : List He.Fa} {L : List Fd} {i : Ki} {K : PySem.W.Frag}
theorem SaysP.fact (c : SaysP fa L i K) {f : He.Fa} (h : f ∈ fa) : f.ok K = true :=
  List.all_eq_true.mp (He.ba (show ((fa.all fun f => f.ok K) && ((L.all fun d => d.okB K) && i.ok K)) = true from congrArg (fun z : AlP => z.1) c)).1 f h
theorem SaysP.ki (c : SaysP fa L i K) : i.ok K = true :=
  (He.ba (He.ba (show ((fa.all fun f => f.ok K) && ((L.all fun d => d.okB K) && i.ok K)) = true from congrArg (fun z : AlP => z.1) c)).2).2
theorem SaysP.def_ (c : SaysP fa L i K) {d : Fd} (h : d ∈ L) (p : FdPre d) : FdOk K d := by
  have c2 := (He.ba (He.ba (show ((fa.all fun f => f.ok K) && ((L.all fun d => d.okB K) && i.ok K)) = true from congrArg (fun z : AlP => z.1) c)).2).1
  have e : L.map (fun d => fnX K (d.at_.a K)) = L.map Fd.val := congrArg (fun z : AlP => z.2) c
  have e2 : fnX K (d.at_.a K) = d.val := by
    obtain ⟨j, hj⟩ := List.getElem?_of_mem h
    have e2 : (L.map fun d => fnX K (d.at_.a K))[j]? = (L.map Fd.val)[j]? := by rw [e]
    rw [List.getElem?_map, List.getElem?_map, hj] at e2
    exact Option.some.inj e2
  exact fdok_of e2 (List.all_eq_true.mp c2 d h) p
end
inductive Gc where
  | int (i : Int)
  | str (x : Str)
def Gc.d : Gc → D
  | .int i => .int i
  | .str x => .str x
def Gc.fa (x : Str) : Gc → He.Fa
  | .int i => .int x i
  | .str z => .str x z
def csOf (gs : List (Str × Gc)) : Str → Option D := fun x => (lk x gs).map Gc.d
def faOf (L : List Fd) (gs : List (Str × Gc)) : List He.Fa := (L.filterMap fun d => match d.at_ with
  | .glo x => some (He.Fa.glo x)
  | _ => none) ++ (btNames.map He.Fa.free ++ gs.map fun p => p.2.fa p.1)
theorem facts_of {K : PySem.W.Frag} {h : Heap} {mg : Str → Option Value} {L : List Fd} {i : Ki} {gs : List (Str × Gc)} (X : K.In h) (G : h.Ns mainGlobals mg) (c : SaysP (faOf L gs) L i K) (pre : ∀ d ∈ L, FdPre d) (wf : wfB L i = true) : Facts K mg L (csOf gs) i where
  fd := fun d hd => c.def_ hd (pre d hd)
  gl := fun d hd x hx => He.glo_ok X G (c.fact (List.mem_append_left _ (List.mem_filterMap.mpr ⟨d, hd, by rw [hx]⟩)))
  cst := fun x d hd => by
    unfold csOf at hd
    cases e : lk x gs with
    | none => rw [e] at hd; cases hd
    | some g =>
      rw [e] at hd
      cases hd
      have hm := lk_mem e
      have f := c.fact (List.mem_append_right _ (List.mem_append_right _ (List.mem_map_of_mem (f := fun p : Str × Gc => p.2.fa p.1) hm)))
      cases g with
      | int j =>
        obtain ⟨t, ht⟩ := He.int_ok X G f
        exact ⟨.int j, _, ht, ⟨t, rfl⟩, fun _ _ => .int j⟩
      | str z =>
        obtain ⟨t, ht⟩ := He.str_ok X G f
        exact ⟨.str z, _, ht, ⟨t, rfl⟩, fun _ _ => .str z⟩
  bt := fun x hx _ => He.free_ok X G (c.fact (List.mem_append_right _ (List.mem_append_left _ (List.mem_map_of_mem hx))))
  wf := wf
  at_ := ⟨h, X, G⟩
  ki := c.ki
/-- the law's def at a script -/
theorem law_sp {K : PySem.W.Frag} {cn : Cn} {P : Prog} {k : Nat} {f : Str}
    {H : Hp} {a : Addr} {ns : List Int} (hS : SqL K H a (ns.map V.int)) (hv : ∃ S', evCall P k f [.scr ns] .mt = .ok (.fz (.bl true)) S') :
    spOf K cn (evCall P k) f 1 [.ref a] H (fun v _ => v = .bl true) (fun _ _ _ => False) := by
  obtain ⟨S', hv⟩ := hv
  refine ⟨rfl, fun _ => none, fun _ => none, H, mu0, .mt, [.scr ns], ⟨fun _ _ e => e, fun _ _ e => (nomatch e), fun _ _ e => (nomatch e), fun _ h => absurd rfl h, fun _ _ e => (nomatch e), fun _ _ _ _ _ h => (nomatch h), fun _ _ h => (nomatch h)⟩, .cons (.scr hS) .nil, ?_⟩
  rw [hv]
  exact fun G' μ' H' _ _ _ z f => rep_bl f
/-- the law's def, at any base -/
theorem law_fd {P : Program} {w : World} {K : PySem.W.Frag} {h : Heap} {mg : Str → Option Value} {L : List Fd} {i : Ki} {gs : List (Str × Gc)} {f : Addr} {n k : Nat} {d : Fd} {p : Str} (X : K.In h) (G : h.Ns mainGlobals mg) (c : SaysP (faOf L gs) L i K) (pre : ∀ d ∈ L, FdPre d) (wf : wfB L i = true) (hP : pxB P i = true)
    {l : Str} (e : L.find? (fun e => decide (e.x = l)) = some d) (ea : d.at_ = .glo l) (ep : d.ps = [p]) (hm : mg l = some (.ref f)) :
    ∃ fd : FuncData, (∀ (s : Shared) (v : Value), BindsTo s fd ⟨[v], []⟩ [(p, v)]) ∧ ∀ base : Heap, K.In base → base.Ns mainGlobals mg →
      FnOk P w K mg base (L2.CX P w) (2 * (k + 1)) f fd [p] (spOf K (fun _ => none) (evCall (progOf L (csOf gs) i.kt n) (k + 1)) l 1) := by
  have F := facts_of X G c pre wf
  have hd := List.mem_of_find?_eq_some e
  obtain ⟨fd, h2, h3, h4, h5⟩ := (F.fd d hd).ok
  have g := F.gl d hd l ea
  rw [hm] at g
  have ef : d.at_.a K = f := by rw [ea]; exact (Value.ref.inj (Option.some.inj g)).symm
  refine ⟨fd, fun s v => ?_, fun base hb1 hb2 => ?_⟩
  · have q := h4.bindsA (ps := d.ps) (pre d hd).bind s [v] (by rw [ep]; rfl)
    rw [ep] at q
    exact q
  · have q := fn_step (P := P) (w := w) (base := base) (cn := fun _ => none) (n := n) F hP (runs_ok F hP k) e h4 h5
    rw [ef, ep] at q
    exact q
/-- the end of a law's row, what may be let out told of the world -/
theorem walk_w {l : PySem.W.OpenLaw} {n k : Nat} {q : Program} {loose : List Str} {XP : (Str → Option Value) → Heap → Prop} {YP : World → Heap → Prop} {d : DefRec} {x : Str} (hn : l.most = some n) (hs : n ≤ sizeLine) (hd : d.params.defaults = []) (hr : Room k callerA)
    (F : ∀ (w : World) (mg : Str → Option Value) (fa : Addr) (h : Heap), YP w h → h.Ns mainGlobals mg → mg d.name = some (.ref fa) → ∃ (K : PySem.W.Frag) (fd : FuncData) (sp : Sp), K.In h ∧ (∀ (s : Shared) (u : Value), BindsTo s fd ⟨[u], []⟩ [(x, u)]) ∧
      (∀ (H : Hp) (a : Addr) (ns : List Int), ns.length ≤ n → SqL K H a (ns.map V.int) → sp [.ref a] H (fun v _ => v = .bl true) fun _ _ _ => False) ∧ ∀ base : Heap, K.In base → base.Ns mainGlobals mg → FnOk l.prog w K mg base (L2.CX l.prog w) k fa fd [x] sp) :
    PySem.W.WalkO q loose XP YP l.row.toRowW d [] (fun f vs => PySem.call f vs) := by
  refine Att.attach_call hn hd fun w s0 s1 mg mb fa o pm cd doc a vs ns G Y h1 h2 h3 hm h4 h5 hl hg => ?_
  obtain ⟨K, fd, sp, kx, b, p, f⟩ := F w mg fa _ Y G.T.g hm
  exact law_call kx G.T.g G.T.b G.T.builtins G.T.nolimit hg h4 h5 (Nat.le_trans hl hs) hr f b (fun H _ hS => p H a ns hl hS) fun H e s' ⟨_, _, _, _, _, _, _, _, _, _, _, _, z⟩ => z
end Pe
set_option Elab.async false
set_option linter.all false
namespace Pe
open PySem
def lkD (x : Str) : List (Str × Def) → Option Def
  | [] => none
  | (y, d) :: r => if y = x then some d else lkD x r
end Pe
set_option Elab.async false
set_option linter.all false
set_option maxRecDepth 100000
namespace Fp
open PySem Pe
def c_is_row : Def := ⟨3, 4, (.cons (.ret (.and (.isi (.var 0) .str) (.and (.op2 .eq (.blt .len (.cons false (.var 0) .nil)) (.var 1)) (.blt .all (.cons false (.lc [3] (.last (.seq (.var 0)) (.nm 3) .no) (.op2 .in_ (.var 3) (.var 2))) .nil)))))
    .nil), false⟩
def c_is_web_of : Def := ⟨2, 3, (.cons (.iff (.or (.op1 .not (.isi (.var 0) .tup)) (.op1 .not (.ch2 .le .le (.cst (.int 1)) (.blt .len (.cons false (.var 0) .nil)) (.cst (.int 6))))) (.cons (.ret (.cst (.bl false)))
    .nil) .nil)
    (.cons (.iff (.or (.op1 .not (.isi (.op2 .ix (.var 0) (.cst (.int 0))) .str)) (.op1 .not (.ch2 .le .le (.cst (.int 1)) (.blt .len (.cons false (.op2 .ix (.var 0) (.cst (.int 0))) .nil)) (.cst (.int 6))))) (.cons (.ret (.cst (.bl false)))
    .nil) .nil)
    (.cons (.ret (.blt .all (.cons false (.lc [2] (.last (.seq (.var 0)) (.nm 2) .no) (.call ⟨#[105, 115, 95, 114, 111, 119]⟩ (.cons false (.var 2) (.cons false (.blt .len (.cons false (.op2 .ix (.var 0) (.cst (.int 0))) .nil)) (.cons false (.var 1) .nil))))) .nil)))
    .nil))), false⟩
def c_is_web : Def := ⟨1, 1, (.cons (.ret (.call ⟨#[105, 115, 95, 119, 101, 98, 95, 111, 102]⟩ (.cons false (.var 0) (.cons false (.cst (.str ⟨#[48, 49]⟩)) .nil))))
    .nil), false⟩
def c_check_web : Def := ⟨1, 1, (.cons (.iff (.op1 .not (.call ⟨#[105, 115, 95, 119, 101, 98]⟩ (.cons false (.var 0) .nil))) (.cons (.rse ⟨#[73, 110, 118, 97, 108, 105, 100, 87, 101, 98]⟩ [] .nil)
    .nil) .nil)
    .nil), false⟩
def c_ties_of : Def := ⟨1, 5, (.cons (.ret (.lc [1, 2, 3, 4] (.more (.enm (.var 0)) (.tp [1, 2]) .no (.last (.enm (.var 2)) (.tp [3, 4]) (.so (.op2 .eq (.var 4) (.cst (.str ⟨#[49]⟩)))))) (.tup (.cons false (.var 1) (.cons false (.var 3) .nil)))))
    .nil), false⟩
def c_is_number : Def := ⟨1, 1, (.cons (.ret (.and (.isi (.var 0) .int) (.op1 .not (.isi (.var 0) .bool))))
    .nil), false⟩
def c_is_tie : Def := ⟨2, 2, (.cons (.iff (.or (.op1 .not (.isi (.var 1) .tup)) (.or (.op2 .ne (.blt .len (.cons false (.var 1) .nil)) (.cst (.int 2))) (.or (.op1 .not (.call ⟨#[105, 115, 95, 110, 117, 109, 98, 101, 114]⟩ (.cons false (.op2 .ix (.var 1) (.cst (.int 0))) .nil))) (.op1 .not (.call ⟨#[105, 115, 95, 110, 117, 109, 98, 101, 114]⟩ (.cons false (.op2 .ix (.var 1) (.cst (.int 1))) .nil)))))) (.cons (.ret (.cst (.bl false)))
    .nil) .nil)
    (.cons (.ret (.op2 .in_ (.var 1) (.call ⟨#[116, 105, 101, 115, 95, 111, 102]⟩ (.cons false (.var 0) .nil))))
    .nil)), false⟩
def c_check_ties : Def := ⟨2, 3, (.cons (.iff (.or (.op1 .not (.isi (.var 1) .lst)) (.or (.op2 .gt (.blt .len (.cons false (.var 1) .nil)) (.cst (.int 40))) (.op1 .not (.blt .all (.cons false (.lc [2] (.last (.seq (.var 1)) (.nm 2) .no) (.call ⟨#[105, 115, 95, 116, 105, 101]⟩ (.cons false (.var 0) (.cons false (.var 2) .nil)))) .nil))))) (.cons (.rse ⟨#[73, 110, 118, 97, 108, 105, 100, 84, 105, 101, 115]⟩ [] .nil)
    .nil) .nil)
    .nil), false⟩
def c_turned_of : Def := ⟨1, 3, (.cons (.ret (.blt .tup (.cons false (.lc [1] (.last (.r1 (.blt .len (.cons false (.op2 .ix (.var 0) (.cst (.int 0))) .nil))) (.nm 1) .no) (.ms .join (.cst (.str ⟨#[]⟩)) (.cons false (.lc [2] (.last (.seq (.var 0)) (.nm 2) .no) (.op2 .ix (.var 2) (.var 1))) .nil))) .nil)))
    .nil), false⟩
def c_turned : Def := ⟨1, 1, (.cons (.exp (.call ⟨#[99, 104, 101, 99, 107, 95, 119, 101, 98]⟩ (.cons false (.var 0) .nil)))
    (.cons (.ret (.call ⟨#[116, 117, 114, 110, 101, 100, 95, 111, 102]⟩ (.cons false (.var 0) .nil)))
    .nil)), false⟩
def c_beside : Def := ⟨2, 6, (.cons (.exp (.call ⟨#[99, 104, 101, 99, 107, 95, 119, 101, 98]⟩ (.cons false (.var 0) .nil)))
    (.cons (.exp (.call ⟨#[99, 104, 101, 99, 107, 95, 119, 101, 98]⟩ (.cons false (.var 1) .nil)))
    (.cons (.asu [3, 4] (.tup (.cons false (.blt .len (.cons false (.op2 .ix (.var 0) (.cst (.int 0))) .nil)) (.cons false (.blt .len (.cons false (.op2 .ix (.var 1) (.cst (.int 0))) .nil)) .nil))))
    (.cons (.asg 2 (.blt .tup (.cons false (.op2 .add (.lc [5] (.last (.seq (.var 0)) (.nm 5) .no) (.op2 .add (.var 5) (.op2 .mul (.cst (.str ⟨#[48]⟩)) (.var 4)))) (.lc [5] (.last (.seq (.var 1)) (.nm 5) .no) (.op2 .add (.op2 .mul (.cst (.str ⟨#[48]⟩)) (.var 3)) (.var 5)))) .nil)))
    (.cons (.exp (.call ⟨#[99, 104, 101, 99, 107, 95, 119, 101, 98]⟩ (.cons false (.var 2) .nil)))
    (.cons (.ret (.var 2))
    .nil)))))), false⟩
def c_together_of : Def := ⟨3, 3, (.cons (.ret (.and (.op2 .eq (.op2 .ix (.op2 .ix (.var 0) (.op2 .ix (.var 1) (.cst (.int 0)))) (.op2 .ix (.var 2) (.cst (.int 1)))) (.cst (.str ⟨#[49]⟩))) (.op2 .eq (.op2 .ix (.op2 .ix (.var 0) (.op2 .ix (.var 2) (.cst (.int 0)))) (.op2 .ix (.var 1) (.cst (.int 1)))) (.cst (.str ⟨#[49]⟩)))))
    .nil), false⟩
def c_plainly : Def := ⟨1, 1, (.cons (.ret (.ssr (.var 0)))
    .nil), false⟩
def c_others_apart : Def := ⟨3, 4, (.cons (.ret (.lc [3] (.last (.seq (.var 2)) (.nm 3) (.so (.op1 .not (.call ⟨#[116, 111, 103, 101, 116, 104, 101, 114, 95, 111, 102]⟩ (.cons false (.var 0) (.cons false (.var 1) (.cons false (.var 3) .nil))))))) (.var 3)))
    .nil), false⟩
def c_most_of : Def := ⟨3, 7, (.cons (.asg 3 (.ssr (.lc [6] (.last (.seq (.var 1)) (.nm 6) .no) (.op2 .ix (.var 6) (.cst (.int 0))))))
    (.cons (.iff (.op2 .le (.blt .len (.cons false (.var 3) .nil)) (.blt .max2 (.cons false (.var 2) (.cons false (.cst (.int 0)) .nil)))) (.cons (.ret (.blt .max2 (.cons false (.var 2) (.cons false (.cst (.int 0)) .nil))))
    .nil) .nil)
    (.cons (.asg 4 (.lc [6] (.last (.seq (.var 1)) (.nm 6) (.so (.op2 .ne (.op2 .ix (.var 6) (.cst (.int 0))) (.op2 .ix (.var 3) (.cst (.int 0)))))) (.var 6)))
    (.cons (.asg 5 (.var 2))
    (.cons (.fr (.nm 6) (.seq (.var 1)) (.cons (.iff (.op2 .eq (.op2 .ix (.var 6) (.cst (.int 0))) (.op2 .ix (.var 3) (.cst (.int 0)))) (.cons (.asg 5 (.blt .max2 (.cons false (.var 5) (.cons false (.op2 .add (.cst (.int 1)) (.call ⟨#[109, 111, 115, 116, 95, 111, 102]⟩ (.cons false (.var 0) (.cons false (.call ⟨#[111, 116, 104, 101, 114, 115, 95, 97, 112, 97, 114, 116]⟩ (.cons false (.var 0) (.cons false (.var 6) (.cons false (.var 4) .nil)))) (.cons false (.op2 .sub (.var 5) (.cst (.int 1))) .nil))))) .nil))))
    .nil) .nil)
    .nil))
    (.cons (.ret (.call ⟨#[109, 111, 115, 116, 95, 111, 102]⟩ (.cons false (.var 0) (.cons false (.var 4) (.cons false (.var 5) .nil)))))
    .nil)))))), false⟩
def c_number_apart : Def := ⟨2, 2, (.cons (.ret (.call ⟨#[109, 111, 115, 116, 95, 111, 102]⟩ (.cons false (.var 0) (.cons false (.call ⟨#[112, 108, 97, 105, 110, 108, 121]⟩ (.cons false (.var 1) .nil)) (.cons false (.cst (.int 0)) .nil)))))
    .nil), false⟩
def c_most_apart_of : Def := ⟨2, 7, (.cons (.par [3, 4] (.cons false (.call ⟨#[112, 108, 97, 105, 110, 108, 121]⟩ (.cons false (.var 1) .nil)) (.cons false (.mk (.lst .nil)) .nil)))
    (.cons (.asg 2 (.call ⟨#[110, 117, 109, 98, 101, 114, 95, 97, 112, 97, 114, 116]⟩ (.cons false (.var 0) (.cons false (.var 3) .nil))))
    (.cons (.whl (.op2 .gt (.var 2) (.cst (.int 0))) (.cons (.asg 5 (.op2 .ix (.var 3) (.cst (.int 0))))
    (.cons (.asg 6 (.call ⟨#[111, 116, 104, 101, 114, 115, 95, 97, 112, 97, 114, 116]⟩ (.cons false (.var 0) (.cons false (.var 5) (.cons false (.slc (.var 3) (.so (.cst (.int 1))) .no) .nil)))))
    (.cons (.iff (.op2 .eq (.op2 .add (.cst (.int 1)) (.call ⟨#[110, 117, 109, 98, 101, 114, 95, 97, 112, 97, 114, 116]⟩ (.cons false (.var 0) (.cons false (.var 6) .nil)))) (.var 2)) (.cons (.par [4, 3, 2] (.cons false (.mk (.lst (.cons true (.var 4) (.cons false (.var 5) .nil)))) (.cons false (.var 6) (.cons false (.op2 .sub (.var 2) (.cst (.int 1))) .nil))))
    .nil) (.cons (.asg 3 (.slc (.var 3) (.so (.cst (.int 1))) .no))
    .nil))
    .nil))))
    (.cons (.ret (.frz 4))
    .nil)))), false⟩
def c_most_apart : Def := ⟨2, 2, (.cons (.exp (.call ⟨#[99, 104, 101, 99, 107, 95, 119, 101, 98]⟩ (.cons false (.var 0) .nil)))
    (.cons (.exp (.call ⟨#[99, 104, 101, 99, 107, 95, 116, 105, 101, 115]⟩ (.cons false (.var 0) (.cons false (.var 1) .nil))))
    (.cons (.ret (.call ⟨#[109, 111, 115, 116, 95, 97, 112, 97, 114, 116, 95, 111, 102]⟩ (.cons false (.var 0) (.cons false (.var 1) .nil))))
    .nil))), false⟩
def c_counted : Def := ⟨3, 6, (.cons (.iff (.op2 .eq (.var 2) (.cst (.int 0))) (.cons (.ret (.cst (.int 1)))
    .nil) .nil)
    (.cons (.asg 3 (.cst (.int 0)))
    (.cons (.fr (.tp [4, 5]) (.enm (.var 1)) (.cons (.iff (.op2 .ge (.op2 .sub (.blt .len (.cons false (.var 1) .nil)) (.var 4)) (.var 2)) (.cons (.asg 3 (.op2 .add (.var 3) (.call ⟨#[99, 111, 117, 110, 116, 101, 100]⟩ (.cons false (.var 0) (.cons false (.call ⟨#[111, 116, 104, 101, 114, 115, 95, 97, 112, 97, 114, 116]⟩ (.cons false (.var 0) (.cons false (.var 5) (.cons false (.slc (.var 1) (.so (.op2 .add (.var 4) (.cst (.int 1)))) .no) .nil)))) (.cons false (.op2 .sub (.var 2) (.cst (.int 1))) .nil))))))
    .nil) .nil)
    .nil))
    (.cons (.ret (.var 3))
    .nil)))), false⟩
def c_count_apart : Def := ⟨2, 3, (.cons (.exp (.call ⟨#[99, 104, 101, 99, 107, 95, 119, 101, 98]⟩ (.cons false (.var 0) .nil)))
    (.cons (.exp (.call ⟨#[99, 104, 101, 99, 107, 95, 116, 105, 101, 115]⟩ (.cons false (.var 0) (.cons false (.var 1) .nil))))
    (.cons (.asg 2 (.call ⟨#[112, 108, 97, 105, 110, 108, 121]⟩ (.cons false (.var 1) .nil)))
    (.cons (.ret (.call ⟨#[99, 111, 117, 110, 116, 101, 100]⟩ (.cons false (.var 0) (.cons false (.var 2) (.cons false (.call ⟨#[110, 117, 109, 98, 101, 114, 95, 97, 112, 97, 114, 116]⟩ (.cons false (.var 0) (.cons false (.var 2) .nil))) .nil)))))
    .nil)))), false⟩
def c_law_source : Def := ⟨1, 3, (.cons (.asg 1 (.mk (.slc (.var 0) .no (.so (.cst (.int 63))))))
    (.cons (.fr (.nm 2) (.r1 (.blt .len (.cons false (.var 1) .nil))) (.cons (.iff (.op2 .ge (.blt .abs (.cons false (.op2 .ix (.var 1) (.var 2)) .nil)) (.op2 .pow (.cst (.int 10)) (.cst (.int 18)))) (.cons (.sti (.var 1) (.var 2) (.op2 .mod (.blt .int (.cons false (.op2 .ix (.var 1) (.var 2)) .nil)) (.op2 .pow (.op2 .pow (.cst (.int 10)) (.cst (.int 60))) (.cst (.int 20)))))
    .nil) .nil)
    .nil))
    (.cons (.iff (.op2 .eq (.var 1) (.lst .nil)) (.cons (.asg 1 (.mk (.lst (.cons false (.cst (.int 0)) .nil))))
    .nil) .nil)
    (.cons (.ret (.lst (.cons false (.var 1) (.cons false (.cst (.int 0)) .nil))))
    .nil)))), false⟩
def c_law_draw : Def := ⟨2, 7, (.cons (.asu [5, 6] (.var 0))
    (.cons (.asg 2 (.op2 .mod (.blt .int (.cons false (.var 6) .nil)) (.blt .len (.cons false (.var 5) .nil))))
    (.cons (.asg 3 (.op2 .ix (.var 5) (.var 2)))
    (.cons (.sti (.var 0) (.cst (.int 1)) (.op2 .add (.var 6) (.cst (.int 1))))
    (.cons (.iff (.op2 .ge (.var 3) (.op2 .pow (.cst (.int 10)) (.cst (.int 18)))) (.cons (.sti (.var 5) (.var 2) (.op2 .fdv (.var 3) (.var 1)))
    (.cons (.ret (.op2 .mod (.blt .int (.cons false (.var 3) .nil)) (.var 1)))
    .nil)) .nil)
    (.cons (.asg 4 (.op2 .mod (.blt .int (.cons false (.op2 .add (.op2 .add (.op2 .mul (.op2 .mod (.blt .int (.cons false (.var 3) .nil)) (.cst (.int 2147483629))) (.cst (.int 48271))) (.op2 .mul (.op2 .mul (.var 6) (.var 6)) (.cst (.int 69621)))) (.cst (.int 11))) .nil)) (.cst (.int 2147483647))))
    (.cons (.asg 4 (.op2 .mod (.blt .int (.cons false (.op2 .mul (.var 4) (.var 4)) .nil)) (.cst (.int 2147483629))))
    (.cons (.asg 4 (.op2 .mod (.blt .int (.cons false (.op2 .mul (.var 4) (.var 4)) .nil)) (.cst (.int 2147483587))))
    (.cons (.ret (.op2 .mod (.blt .int (.cons false (.var 4) .nil)) (.var 1)))
    .nil))))))))), false⟩
def c_law_pick : Def := ⟨2, 2, (.cons (.ret (.op2 .ix (.var 1) (.call ⟨#[95, 108, 97, 119, 95, 100, 114, 97, 119]⟩ (.cons false (.var 0) (.cons false (.blt .len (.cons false (.var 1) .nil)) .nil)))))
    .nil), false⟩
def s_is_row : Str := ⟨#[105, 115, 95, 114, 111, 119]⟩
def s_is_web_of : Str := ⟨#[105, 115, 95, 119, 101, 98, 95, 111, 102]⟩
def s_is_web : Str := ⟨#[105, 115, 95, 119, 101, 98]⟩
def s_check_web : Str := ⟨#[99, 104, 101, 99, 107, 95, 119, 101, 98]⟩
def s_ties_of : Str := ⟨#[116, 105, 101, 115, 95, 111, 102]⟩
def s_is_number : Str := ⟨#[105, 115, 95, 110, 117, 109, 98, 101, 114]⟩
def s_is_tie : Str := ⟨#[105, 115, 95, 116, 105, 101]⟩
def s_check_ties : Str := ⟨#[99, 104, 101, 99, 107, 95, 116, 105, 101, 115]⟩
def s_turned_of : Str := ⟨#[116, 117, 114, 110, 101, 100, 95, 111, 102]⟩
def s_turned : Str := ⟨#[116, 117, 114, 110, 101, 100]⟩
def s_beside : Str := ⟨#[98, 101, 115, 105, 100, 101]⟩
def s_together_of : Str := ⟨#[116, 111, 103, 101, 116, 104, 101, 114, 95, 111, 102]⟩
def s_plainly : Str := ⟨#[112, 108, 97, 105, 110, 108, 121]⟩
def s_others_apart : Str := ⟨#[111, 116, 104, 101, 114, 115, 95, 97, 112, 97, 114, 116]⟩
def s_most_of : Str := ⟨#[109, 111, 115, 116, 95, 111, 102]⟩
def s_number_apart : Str := ⟨#[110, 117, 109, 98, 101, 114, 95, 97, 112, 97, 114, 116]⟩
def s_most_apart_of : Str := ⟨#[109, 111, 115, 116, 95, 97, 112, 97, 114, 116, 95, 111, 102]⟩
def s_most_apart : Str := ⟨#[109, 111, 115, 116, 95, 97, 112, 97, 114, 116]⟩
def s_counted : Str := ⟨#[99, 111, 117, 110, 116, 101, 100]⟩
def s_count_apart : Str := ⟨#[99, 111, 117, 110, 116, 95, 97, 112, 97, 114, 116]⟩
def s_law_source : Str := ⟨#[95, 108, 97, 119, 95, 115, 111, 117, 114, 99, 101]⟩
def s_law_draw : Str := ⟨#[95, 108, 97, 119, 95, 100, 114, 97, 119]⟩
def s_law_pick : Str := ⟨#[95, 108, 97, 119, 95, 112, 105, 99, 107]⟩
end Fp
set_option Elab.async false
set_option linter.all false
set_option maxRecDepth 100000
namespace Fp
open PySem Pe
def c_columns_of : Def := ⟨2, 4, (.cons (.ret (.blt .tup (.cons false (.lc [2] (.last (.r1 (.blt .len (.cons false (.op2 .ix (.var 0) (.cst (.int 0))) .nil))) (.nm 2) (.so (.blt .all (.cons false (.lc [3] (.last (.seq (.var 1)) (.nm 3) .no) (.op2 .eq (.op2 .ix (.op2 .ix (.var 0) (.var 3)) (.var 2)) (.cst (.str ⟨#[49]⟩)))) .nil)))) (.var 2)) .nil)))
    .nil), false⟩
def c_rows_of : Def := ⟨2, 4, (.cons (.ret (.blt .tup (.cons false (.lc [2] (.last (.r1 (.blt .len (.cons false (.var 0) .nil))) (.nm 2) (.so (.blt .all (.cons false (.lc [3] (.last (.seq (.var 1)) (.nm 3) .no) (.op2 .eq (.op2 .ix (.op2 .ix (.var 0) (.var 2)) (.var 3)) (.cst (.str ⟨#[49]⟩)))) .nil)))) (.var 2)) .nil)))
    .nil), false⟩
def c_full_pieces_of : Def := ⟨1, 6, (.cons (.asg 1 (.mk (.lst .nil)))
    (.cons (.asg 2 (.lst (.cons false (.tup .nil) .nil)))
    (.cons (.fr (.nm 3) (.r1 (.blt .len (.cons false (.var 0) .nil))) (.cons (.asg 2 (.op2 .add (.var 2) (.lc [4] (.last (.seq (.var 2)) (.nm 4) .no) (.tup (.cons true (.var 4) (.cons false (.var 3) .nil))))))
    .nil))
    (.cons (.fr (.nm 4) (.seq (.var 2)) (.cons (.asg 5 (.call ⟨#[99, 111, 108, 117, 109, 110, 115, 95, 111, 102]⟩ (.cons false (.var 0) (.cons false (.var 4) .nil))))
    (.cons (.iff (.and (.op2 .gt (.blt .len (.cons false (.var 4) .nil)) (.cst (.int 0))) (.op2 .gt (.blt .len (.cons false (.var 5) .nil)) (.cst (.int 0)))) (.cons (.app (.var 1) (.tup (.cons false (.call ⟨#[114, 111, 119, 115, 95, 111, 102]⟩ (.cons false (.var 0) (.cons false (.var 5) .nil))) (.cons false (.var 5) .nil))))
    .nil) .nil)
    .nil)))
    (.cons (.stl 1) (.cons (.ret (.ssr (.var 1)))
    .nil)))))), false⟩
def c_has_tie : Def := ⟨2, 2, (.cons (.ret (.and (.op2 .in_ (.op2 .ix (.var 1) (.cst (.int 0))) (.op2 .ix (.var 0) (.cst (.int 0)))) (.op2 .in_ (.op2 .ix (.var 1) (.cst (.int 1))) (.op2 .ix (.var 0) (.cst (.int 1))))))
    .nil), false⟩
def c_left_by : Def := ⟨2, 3, (.cons (.ret (.lc [2] (.last (.seq (.var 0)) (.nm 2) (.so (.op1 .not (.call ⟨#[104, 97, 115, 95, 116, 105, 101]⟩ (.cons false (.var 1) (.cons false (.var 2) .nil)))))) (.var 2)))
    .nil), false⟩
def c_pieces_with : Def := ⟨2, 3, (.cons (.ret (.lc [2] (.last (.seq (.var 0)) (.nm 2) (.so (.call ⟨#[104, 97, 115, 95, 116, 105, 101]⟩ (.cons false (.var 2) (.cons false (.var 1) .nil))))) (.var 2)))
    .nil), false⟩
def c_hardest : Def := ⟨2, 4, (.cons (.asg 2 (.lc [3] (.last (.seq (.var 1)) (.nm 3) .no) (.blt .len (.cons false (.call ⟨#[112, 105, 101, 99, 101, 115, 95, 119, 105, 116, 104]⟩ (.cons false (.var 0) (.cons false (.var 3) .nil))) .nil))))
    (.cons (.ret (.op2 .ix (.var 1) (.mix (.var 2) (.blt .min (.cons false (.var 2) .nil)))))
    .nil)), false⟩
def c_cover_within : Def := ⟨4, 6, (.cons (.iff (.op2 .eq (.blt .len (.cons false (.var 2) .nil)) (.cst (.int 0))) (.cons (.ret (.lst .nil))
    .nil) .nil)
    (.cons (.iff (.op2 .gt (.call ⟨#[110, 117, 109, 98, 101, 114, 95, 97, 112, 97, 114, 116]⟩ (.cons false (.var 0) (.cons false (.var 2) .nil))) (.var 3)) (.cons (.ret (.cst .non))
    .nil) .nil)
    (.cons (.fr (.nm 4) (.seq (.call ⟨#[112, 105, 101, 99, 101, 115, 95, 119, 105, 116, 104]⟩ (.cons false (.var 1) (.cons false (.call ⟨#[104, 97, 114, 100, 101, 115, 116]⟩ (.cons false (.var 1) (.cons false (.var 2) .nil))) .nil)))) (.cons (.asg 5 (.call ⟨#[99, 111, 118, 101, 114, 95, 119, 105, 116, 104, 105, 110]⟩ (.cons false (.var 0) (.cons false (.var 1) (.cons false (.call ⟨#[108, 101, 102, 116, 95, 98, 121]⟩ (.cons false (.var 2) (.cons false (.var 4) .nil))) (.cons false (.op2 .sub (.var 3) (.cst (.int 1))) .nil))))))
    (.cons (.iff (.op2 .isn (.var 5) (.cst .non)) (.cons (.ret (.lst (.cons false (.var 4) (.cons true (.var 5) .nil))))
    .nil) .nil)
    .nil)))
    (.cons (.ret (.cst .non))
    .nil)))), false⟩
def c_least_cover_of : Def := ⟨2, 6, (.cons (.par [4, 5] (.cons false (.call ⟨#[112, 108, 97, 105, 110, 108, 121]⟩ (.cons false (.var 1) .nil)) (.cons false (.call ⟨#[102, 117, 108, 108, 95, 112, 105, 101, 99, 101, 115, 95, 111, 102]⟩ (.cons false (.var 0) .nil)) .nil)))
    (.cons (.asg 2 (.call ⟨#[110, 117, 109, 98, 101, 114, 95, 97, 112, 97, 114, 116]⟩ (.cons false (.var 0) (.cons false (.var 4) .nil))))
    (.cons (.asg 3 (.call ⟨#[99, 111, 118, 101, 114, 95, 119, 105, 116, 104, 105, 110]⟩ (.cons false (.var 0) (.cons false (.var 5) (.cons false (.var 4) (.cons false (.var 2) .nil))))))
    (.cons (.whl (.op2 .is_ (.var 3) (.cst .non)) (.cons (.asg 2 (.op2 .add (.var 2) (.cst (.int 1))))
    (.cons (.asg 3 (.call ⟨#[99, 111, 118, 101, 114, 95, 119, 105, 116, 104, 105, 110]⟩ (.cons false (.var 0) (.cons false (.var 5) (.cons false (.var 4) (.cons false (.var 2) .nil))))))
    .nil)))
    (.cons (.ret (.blt .srt (.cons false (.var 3) .nil)))
    .nil))))), false⟩
def c_least_cover : Def := ⟨2, 2, (.cons (.exp (.call ⟨#[99, 104, 101, 99, 107, 95, 119, 101, 98]⟩ (.cons false (.var 0) .nil)))
    (.cons (.exp (.call ⟨#[99, 104, 101, 99, 107, 95, 116, 105, 101, 115]⟩ (.cons false (.var 0) (.cons false (.var 1) .nil))))
    (.cons (.ret (.call ⟨#[108, 101, 97, 115, 116, 95, 99, 111, 118, 101, 114, 95, 111, 102]⟩ (.cons false (.var 0) (.cons false (.var 1) .nil))))
    .nil))), false⟩
def s_columns_of : Str := ⟨#[99, 111, 108, 117, 109, 110, 115, 95, 111, 102]⟩
def s_rows_of : Str := ⟨#[114, 111, 119, 115, 95, 111, 102]⟩
def s_full_pieces_of : Str := ⟨#[102, 117, 108, 108, 95, 112, 105, 101, 99, 101, 115, 95, 111, 102]⟩
def s_has_tie : Str := ⟨#[104, 97, 115, 95, 116, 105, 101]⟩
def s_left_by : Str := ⟨#[108, 101, 102, 116, 95, 98, 121]⟩
def s_pieces_with : Str := ⟨#[112, 105, 101, 99, 101, 115, 95, 119, 105, 116, 104]⟩
def s_hardest : Str := ⟨#[104, 97, 114, 100, 101, 115, 116]⟩
def s_cover_within : Str := ⟨#[99, 111, 118, 101, 114, 95, 119, 105, 116, 104, 105, 110]⟩
def s_least_cover_of : Str := ⟨#[108, 101, 97, 115, 116, 95, 99, 111, 118, 101, 114, 95, 111, 102]⟩
def s_least_cover : Str := ⟨#[108, 101, 97, 115, 116, 95, 99, 111, 118, 101, 114]⟩
end Fp
set_option Elab.async false
set_option linter.all false
set_option maxRecDepth 100000
namespace Fp
open PySem Pe
def c_law_web : Def := ⟨2, 15, (.cons (.asu [4, 5] (.tup (.cons false (.op2 .add (.cst (.int 1)) (.call ⟨#[95, 108, 97, 119, 95, 100, 114, 97, 119]⟩ (.cons false (.var 0) (.cons false (.var 1) .nil)))) (.cons false (.op2 .add (.cst (.int 1)) (.call ⟨#[95, 108, 97, 119, 95, 100, 114, 97, 119]⟩ (.cons false (.var 0) (.cons false (.var 1) .nil)))) .nil))))
    (.cons (.asg 2 (.call ⟨#[95, 108, 97, 119, 95, 100, 114, 97, 119]⟩ (.cons false (.var 0) (.cons false (.cst (.int 4)) .nil))))
    (.cons (.iff (.op2 .eq (.var 2) (.cst (.int 0))) (.cons (.ret (.blt .tup (.cons false (.lc [9] (.last (.r1 (.var 4)) (.nm 9) .no) (.ms .join (.cst (.str ⟨#[]⟩)) (.cons false (.lc [13] (.last (.r1 (.var 5)) (.nm 13) .no) (.blt .str (.cons false (.blt .int (.cons false (.op2 .ne (.var 9) (.var 13)) .nil)) .nil))) .nil))) .nil)))
    .nil) .nil)
    (.cons (.iff (.op2 .eq (.var 2) (.cst (.int 1))) (.cons (.asg 6 (.mk (.lst .nil)))
    (.cons (.fr (.nm 7) (.r1 (.cst (.int 3))) (.cons (.app (.var 6) (.lc [12] (.last (.r1 (.var 5)) (.nm 12) .no) (.call ⟨#[95, 108, 97, 119, 95, 100, 114, 97, 119]⟩ (.cons false (.var 0) (.cons false (.cst (.int 2)) .nil)))))
    .nil))
    (.cons (.stl 6) (.cons (.asg 8 (.mk (.lst .nil)))
    (.cons (.fr (.nm 9) (.r1 (.var 4)) (.cons (.asg 10 (.op2 .mul (.lst (.cons false (.cst (.int 0)) .nil)) (.var 5)))
    (.cons (.fr (.nm 11) (.seq (.var 6)) (.cons (.iff (.op2 .eq (.call ⟨#[95, 108, 97, 119, 95, 100, 114, 97, 119]⟩ (.cons false (.var 0) (.cons false (.cst (.int 2)) .nil))) (.cst (.int 0))) (.cons (.asg 10 (.lc [12] (.last (.r1 (.var 5)) (.nm 12) .no) (.blt .max2 (.cons false (.op2 .ix (.var 10) (.var 12)) (.cons false (.op2 .ix (.var 11) (.var 12)) .nil)))))
    .nil) .nil)
    .nil))
    (.cons (.app (.var 8) (.ms .join (.cst (.str ⟨#[]⟩)) (.cons false (.lc [14] (.last (.seq (.var 10)) (.nm 14) .no) (.blt .str (.cons false (.var 14) .nil))) .nil)))
    .nil))))
    (.cons (.stl 8) (.cons (.ret (.blt .tup (.cons false (.var 8) .nil)))
    .nil))))))) .nil)
    (.cons (.asg 3 (.call ⟨#[95, 108, 97, 119, 95, 112, 105, 99, 107]⟩ (.cons false (.var 0) (.cons false (.lst (.cons false (.cst (.int 1)) (.cons false (.cst (.int 2)) (.cons false (.cst (.int 3)) .nil)))) .nil))))
    (.cons (.ret (.blt .tup (.cons false (.lc [9] (.last (.r1 (.var 4)) (.nm 9) .no) (.ms .join (.cst (.str ⟨#[]⟩)) (.cons false (.lc [13] (.last (.r1 (.var 5)) (.nm 13) .no) (.blt .str (.cons false (.blt .int (.cons false (.op2 .lt (.call ⟨#[95, 108, 97, 119, 95, 100, 114, 97, 119]⟩ (.cons false (.var 0) (.cons false (.cst (.int 4)) .nil))) (.var 3)) .nil)) .nil))) .nil))) .nil)))
    .nil)))))), false⟩
def c_law_ties : Def := ⟨1, 4, (.cons (.asg 1 (.lst .nil))
    (.cons (.fr (.nm 2) (.r1 (.blt .len (.cons false (.var 0) .nil))) (.cons (.asg 1 (.op2 .add (.var 1) (.lc [3] (.last (.r1 (.blt .len (.cons false (.op2 .ix (.var 0) (.cst (.int 0))) .nil))) (.nm 3) (.so (.op2 .eq (.op2 .ix (.op2 .ix (.var 0) (.var 2)) (.var 3)) (.cst (.str ⟨#[49]⟩))))) (.tup (.cons false (.var 2) (.cons false (.var 3) .nil))))))
    .nil))
    (.cons (.ret (.var 1))
    .nil))), false⟩
def c_law_lots : Def := ⟨1, 4, (.cons (.asg 1 (.lst (.cons false (.tup .nil) .nil)))
    (.cons (.fr (.nm 2) (.r1 (.var 0)) (.cons (.asg 1 (.op2 .add (.var 1) (.lc [3] (.last (.seq (.var 1)) (.nm 3) .no) (.op2 .add (.var 3) (.tup (.cons false (.var 2) .nil))))))
    .nil))
    (.cons (.ret (.var 1))
    .nil))), false⟩
def c_law_common : Def := ⟨2, 5, (.cons (.asg 2 (.mk (.lst .nil)))
    (.cons (.fr (.nm 3) (.r1 (.blt .len (.cons false (.op2 .ix (.var 0) (.cst (.int 0))) .nil))) (.cons (.iff (.op2 .eq (.lc [4] (.last (.seq (.var 1)) (.nm 4) (.so (.op2 .eq (.op2 .ix (.op2 .ix (.var 0) (.var 4)) (.var 3)) (.cst (.str ⟨#[48]⟩))))) (.var 4)) (.lst .nil)) (.cons (.app (.var 2) (.var 3))
    .nil) .nil)
    .nil))
    (.cons (.stl 2) (.cons (.ret (.blt .tup (.cons false (.var 2) .nil)))
    .nil)))), false⟩
def c_law_pieces : Def := ⟨1, 7, (.cons (.asg 1 (.mk (.lst .nil)))
    (.cons (.fr (.nm 2) (.seq (.slc (.call ⟨#[95, 108, 97, 119, 95, 108, 111, 116, 115]⟩ (.cons false (.blt .len (.cons false (.var 0) .nil)) .nil)) (.so (.cst (.int 1))) .no)) (.cons (.asg 3 (.call ⟨#[95, 108, 97, 119, 95, 99, 111, 109, 109, 111, 110]⟩ (.cons false (.var 0) (.cons false (.var 2) .nil))))
    (.cons (.iff (.op2 .ne (.var 3) (.tup .nil)) (.cons (.asg 4 (.mk (.lst .nil)))
    (.cons (.fr (.nm 5) (.r1 (.blt .len (.cons false (.var 0) .nil))) (.cons (.iff (.op2 .eq (.lc [6] (.last (.seq (.var 3)) (.nm 6) (.so (.op2 .eq (.op2 .ix (.op2 .ix (.var 0) (.var 5)) (.var 6)) (.cst (.str ⟨#[48]⟩))))) (.var 6)) (.lst .nil)) (.cons (.app (.var 4) (.var 5))
    .nil) .nil)
    .nil))
    (.cons (.stl 4) (.cons (.app (.var 1) (.tup (.cons false (.blt .tup (.cons false (.var 4) .nil)) (.cons false (.var 3) .nil))))
    .nil)))) .nil)
    .nil)))
    (.cons (.stl 1) (.cons (.ret (.ssr (.var 1)))
    .nil)))), false⟩
def c_law_has : Def := ⟨2, 2, (.cons (.ret (.and (.op2 .in_ (.op2 .ix (.var 1) (.cst (.int 0))) (.op2 .ix (.var 0) (.cst (.int 0)))) (.op2 .in_ (.op2 .ix (.var 1) (.cst (.int 1))) (.op2 .ix (.var 0) (.cst (.int 1))))))
    .nil), false⟩
def c_law_left : Def := ⟨2, 3, (.cons (.ret (.lc [2] (.last (.seq (.var 0)) (.nm 2) (.so (.op1 .not (.call ⟨#[95, 108, 97, 119, 95, 104, 97, 115]⟩ (.cons false (.var 1) (.cons false (.var 2) .nil)))))) (.var 2)))
    .nil), false⟩
def c_law_can : Def := ⟨3, 4, (.cons (.iff (.op2 .eq (.var 1) (.lst .nil)) (.cons (.ret (.cst (.bl true)))
    .nil) .nil)
    (.cons (.iff (.op2 .eq (.var 2) (.cst (.int 0))) (.cons (.ret (.cst (.bl false)))
    .nil) .nil)
    (.cons (.fr (.nm 3) (.seq (.var 0)) (.cons (.iff (.and (.call ⟨#[95, 108, 97, 119, 95, 104, 97, 115]⟩ (.cons false (.var 3) (.cons false (.op2 .ix (.var 1) (.cst (.int 0))) .nil))) (.call ⟨#[95, 108, 97, 119, 95, 99, 97, 110]⟩ (.cons false (.var 0) (.cons false (.call ⟨#[95, 108, 97, 119, 95, 108, 101, 102, 116]⟩ (.cons false (.var 1) (.cons false (.var 3) .nil))) (.cons false (.op2 .sub (.var 2) (.cst (.int 1))) .nil))))) (.cons (.ret (.cst (.bl true)))
    .nil) .nil)
    .nil))
    (.cons (.ret (.cst (.bl false)))
    .nil)))), false⟩
def c_law_number : Def := ⟨2, 3, (.cons (.asg 2 (.cst (.int 0)))
    (.cons (.whl (.op1 .not (.call ⟨#[95, 108, 97, 119, 95, 99, 97, 110]⟩ (.cons false (.var 0) (.cons false (.var 1) (.cons false (.var 2) .nil))))) (.cons (.asg 2 (.op2 .add (.var 2) (.cst (.int 1))))
    .nil))
    (.cons (.ret (.var 2))
    .nil))), false⟩
def c_law_needed : Def := ⟨2, 6, (.cons (.asg 2 (.call ⟨#[95, 108, 97, 119, 95, 116, 105, 101, 115]⟩ (.cons false (.var 1) .nil)))
    (.cons (.iff (.or (.op2 .eq (.var 2) (.lst .nil)) (.op2 .eq (.call ⟨#[95, 108, 97, 119, 95, 100, 114, 97, 119]⟩ (.cons false (.var 0) (.cons false (.cst (.int 3)) .nil))) (.cst (.int 0)))) (.cons (.ret (.var 2))
    .nil) .nil)
    (.cons (.asg 3 (.lc [4] (.last (.seq (.var 2)) (.nm 4) (.so (.op2 .gt (.call ⟨#[95, 108, 97, 119, 95, 100, 114, 97, 119]⟩ (.cons false (.var 0) (.cons false (.cst (.int 3)) .nil))) (.cst (.int 0))))) (.var 4)))
    (.cons (.ret (.op2 .add (.var 3) (.lc [5] (.last (.r1 (.call ⟨#[95, 108, 97, 119, 95, 100, 114, 97, 119]⟩ (.cons false (.var 0) (.cons false (.cst (.int 2)) .nil)))) (.nm 5) .no) (.call ⟨#[95, 108, 97, 119, 95, 112, 105, 99, 107]⟩ (.cons false (.var 0) (.cons false (.var 2) .nil))))))
    .nil)))), false⟩
def s_law_web : Str := ⟨#[95, 108, 97, 119, 95, 119, 101, 98]⟩
def s_law_ties : Str := ⟨#[95, 108, 97, 119, 95, 116, 105, 101, 115]⟩
def s_law_lots : Str := ⟨#[95, 108, 97, 119, 95, 108, 111, 116, 115]⟩
def s_law_common : Str := ⟨#[95, 108, 97, 119, 95, 99, 111, 109, 109, 111, 110]⟩
def s_law_pieces : Str := ⟨#[95, 108, 97, 119, 95, 112, 105, 101, 99, 101, 115]⟩
def s_law_has : Str := ⟨#[95, 108, 97, 119, 95, 104, 97, 115]⟩
def s_law_left : Str := ⟨#[95, 108, 97, 119, 95, 108, 101, 102, 116]⟩
def s_law_can : Str := ⟨#[95, 108, 97, 119, 95, 99, 97, 110]⟩
def s_law_number : Str := ⟨#[95, 108, 97, 119, 95, 110, 117, 109, 98, 101, 114]⟩
def s_law_needed : Str := ⟨#[95, 108, 97, 119, 95, 110, 101, 101, 100, 101, 100]⟩
end Fp
set_option Elab.async false
set_option linter.all false
set_option maxRecDepth 100000
namespace Fp
open PySem Pe
def c_turned_at : Def := ⟨3, 5, (.cons (.asg 3 (.op2 .ix (.var 0) (.var 1)))
    (.cons (.asg 4 (.ite (.op2 .eq (.op2 .ix (.var 3) (.var 2)) (.cst (.str ⟨#[49]⟩))) (.cst (.str ⟨#[48]⟩)) (.cst (.str ⟨#[49]⟩))))
    (.cons (.ret (.tup (.cons true (.slc (.var 0) .no (.so (.var 1))) (.cons false (.op2 .add (.op2 .add (.slc (.var 3) .no (.so (.var 2))) (.var 4)) (.slc (.var 3) (.so (.op2 .add (.var 2) (.cst (.int 1)))) .no)) (.cons true (.slc (.var 0) (.so (.op2 .add (.var 1) (.cst (.int 1)))) .no) .nil)))))
    .nil))), false⟩
def c_after_turning : Def := ⟨1, 6, (.cons (.exp (.call ⟨#[99, 104, 101, 99, 107, 95, 119, 101, 98]⟩ (.cons false (.var 0) .nil)))
    (.cons (.asg 1 (.mk (.lst .nil)))
    (.cons (.fr (.nm 2) (.r1 (.blt .len (.cons false (.var 0) .nil))) (.cons (.asg 3 (.mk (.lst .nil)))
    (.cons (.fr (.nm 4) (.r1 (.blt .len (.cons false (.op2 .ix (.var 0) (.cst (.int 0))) .nil))) (.cons (.asg 5 (.call ⟨#[116, 117, 114, 110, 101, 100, 95, 97, 116]⟩ (.cons false (.var 0) (.cons false (.var 2) (.cons false (.var 4) .nil)))))
    (.cons (.app (.var 3) (.blt .len (.cons false (.call ⟨#[108, 101, 97, 115, 116, 95, 99, 111, 118, 101, 114, 95, 111, 102]⟩ (.cons false (.var 5) (.cons false (.call ⟨#[116, 105, 101, 115, 95, 111, 102]⟩ (.cons false (.var 5) .nil)) .nil))) .nil)))
    .nil)))
    (.cons (.app (.var 1) (.var 3))
    .nil))))
    (.cons (.ret (.frz 1))
    .nil)))), true⟩
def s_turned_at : Str := ⟨#[116, 117, 114, 110, 101, 100, 95, 97, 116]⟩
def s_after_turning : Str := ⟨#[97, 102, 116, 101, 114, 95, 116, 117, 114, 110, 105, 110, 103]⟩
end Fp
set_option Elab.async false
set_option linter.all false
set_option maxRecDepth 100000
namespace Fp
open PySem Pe
def c_web_text : Def := ⟨1, 1, (.cons (.exp (.call ⟨#[99, 104, 101, 99, 107, 95, 119, 101, 98]⟩ (.cons false (.var 0) .nil)))
    (.cons (.ret (.ms .join (.cst (.str ⟨#[47]⟩)) (.cons false (.var 0) .nil)))
    .nil)), false⟩
def c_read_web : Def := ⟨1, 6, (.cons (.iff (.op1 .not (.isi (.var 0) .str)) (.cons (.rse ⟨#[73, 110, 118, 97, 108, 105, 100, 84, 101, 120, 116]⟩ [⟨#[97, 116]⟩] (.cons false (.cst (.int 0)) .nil))
    .nil) .nil)
    (.cons (.par [2, 3] (.cons false (.lst .nil) (.cons false (.cst (.str ⟨#[]⟩)) .nil)))
    (.cons (.fr (.tp [4, 5]) (.enm (.var 0)) (.cons (.iff (.op2 .in_ (.var 5) (.cst (.str ⟨#[48, 49]⟩))) (.cons (.asg 3 (.op2 .add (.var 3) (.var 5)))
    .nil) (.cons (.iff (.and (.op2 .eq (.var 5) (.cst (.str ⟨#[47]⟩))) (.op2 .ne (.var 3) (.cst (.str ⟨#[]⟩)))) (.cons (.par [2, 3] (.cons false (.lst (.cons true (.var 2) (.cons false (.var 3) .nil))) (.cons false (.cst (.str ⟨#[]⟩)) .nil)))
    .nil) (.cons (.iff (.op2 .ne (.var 5) (.cst (.str ⟨#[32]⟩))) (.cons (.rse ⟨#[73, 110, 118, 97, 108, 105, 100, 84, 101, 120, 116]⟩ [⟨#[97, 116]⟩] (.cons false (.var 4) .nil))
    .nil) .nil)
    .nil))
    .nil))
    .nil))
    (.cons (.iff (.op2 .eq (.var 3) (.cst (.str ⟨#[]⟩))) (.cons (.rse ⟨#[73, 110, 118, 97, 108, 105, 100, 84, 101, 120, 116]⟩ [⟨#[97, 116]⟩] (.cons false (.blt .len (.cons false (.var 0) .nil)) .nil))
    .nil) .nil)
    (.cons (.asg 1 (.blt .tup (.cons false (.lst (.cons true (.var 2) (.cons false (.var 3) .nil))) .nil)))
    (.cons (.iff (.op1 .not (.call ⟨#[105, 115, 95, 119, 101, 98]⟩ (.cons false (.var 1) .nil))) (.cons (.rse ⟨#[73, 110, 118, 97, 108, 105, 100, 87, 101, 98]⟩ [] .nil)
    .nil) .nil)
    (.cons (.ret (.var 1))
    .nil))))))), false⟩
def s_web_text : Str := ⟨#[119, 101, 98, 95, 116, 101, 120, 116]⟩
def s_read_web : Str := ⟨#[114, 101, 97, 100, 95, 119, 101, 98]⟩
end Fp
set_option Elab.async false
set_option linter.all false
set_option maxRecDepth 100000
namespace K03
open PySem Pe Fp
def c_law_web : Def := ⟨2, 7, (.cons (.asu [4, 5] (.tup (.cons false (.op2 .add (.cst (.int 1)) (.call ⟨#[95, 108, 97, 119, 95, 100, 114, 97, 119]⟩ (.cons false (.var 0) (.cons false (.var 1) .nil)))) (.cons false (.call ⟨#[95, 108, 97, 119, 95, 112, 105, 99, 107]⟩ (.cons false (.var 0) (.cons false (.lst (.cons false (.cst (.str ⟨#[48, 49]⟩)) (.cons false (.cst (.str ⟨#[48, 49, 49]⟩)) (.cons false (.cst (.str ⟨#[48, 49, 49, 49]⟩)) (.cons false (.cst (.str ⟨#[48, 48, 49]⟩)) .nil))))) .nil))) .nil))))
    (.cons (.asg 2 (.mk (.lst .nil)))
    (.cons (.fr (.nm 3) (.r1 (.op2 .add (.cst (.int 1)) (.call ⟨#[95, 108, 97, 119, 95, 100, 114, 97, 119]⟩ (.cons false (.var 0) (.cons false (.var 1) .nil))))) (.cons (.app (.var 2) (.ms .join (.cst (.str ⟨#[]⟩)) (.cons false (.lc [6] (.last (.r1 (.var 4)) (.nm 6) .no) (.call ⟨#[95, 108, 97, 119, 95, 112, 105, 99, 107]⟩ (.cons false (.var 0) (.cons false (.var 5) .nil)))) .nil)))
    .nil))
    (.cons (.stl 2) (.cons (.ret (.blt .tup (.cons false (.var 2) .nil)))
    .nil))))), false⟩
def c_law_due : Def := ⟨1, 6, (.cons (.iff (.op1 .not (.isi (.var 0) .str)) (.cons (.ret (.lst (.cons false (.cst (.str ⟨#[119, 114, 111, 110, 103]⟩)) (.cons false (.cst (.int 0)) .nil))))
    .nil) .nil)
    (.cons (.asg 1 (.mk (.lst (.cons false (.cst (.str ⟨#[]⟩)) .nil))))
    (.cons (.fr (.nm 2) (.r1 (.blt .len (.cons false (.var 0) .nil))) (.cons (.asg 4 (.op2 .ix (.var 0) (.var 2)))
    (.cons (.iff (.and (.op2 .eq (.var 4) (.cst (.str ⟨#[47]⟩))) (.op2 .ne (.op2 .ix (.var 1) (.op1 .neg (.cst (.int 1)))) (.cst (.str ⟨#[]⟩)))) (.cons (.app (.var 1) (.cst (.str ⟨#[]⟩)))
    .nil) (.cons (.iff (.op2 .in_ (.var 4) (.lst (.cons false (.cst (.str ⟨#[48]⟩)) (.cons false (.cst (.str ⟨#[49]⟩)) .nil)))) (.cons (.sti (.var 1) (.op1 .neg (.cst (.int 1))) (.op2 .add (.op2 .ix (.var 1) (.op1 .neg (.cst (.int 1)))) (.var 4)))
    .nil) (.cons (.iff (.op2 .ne (.var 4) (.cst (.str ⟨#[32]⟩))) (.cons (.ret (.lst (.cons false (.cst (.str ⟨#[119, 114, 111, 110, 103]⟩)) (.cons false (.var 2) .nil))))
    .nil) .nil)
    .nil))
    .nil))
    .nil)))
    (.cons (.stl 1) (.cons (.iff (.op2 .eq (.op2 .ix (.var 1) (.op1 .neg (.cst (.int 1)))) (.cst (.str ⟨#[]⟩))) (.cons (.ret (.lst (.cons false (.cst (.str ⟨#[119, 114, 111, 110, 103]⟩)) (.cons false (.blt .len (.cons false (.var 0) .nil)) .nil))))
    .nil) .nil)
    (.cons (.asg 3 (.lc [5] (.last (.seq (.var 1)) (.nm 5) (.so (.or (.op2 .ne (.blt .len (.cons false (.var 5) .nil)) (.blt .len (.cons false (.op2 .ix (.var 1) (.cst (.int 0))) .nil))) (.op2 .gt (.blt .len (.cons false (.var 5) .nil)) (.cst (.int 6)))))) (.var 5)))
    (.cons (.ret (.op2 .ix (.lst (.cons false (.lst (.cons false (.cst (.str ⟨#[119, 101, 98]⟩)) (.cons false (.cst .non) .nil))) (.cons false (.lst (.cons false (.cst (.str ⟨#[103, 111, 111, 100]⟩)) (.cons false (.blt .tup (.cons false (.var 1) .nil)) .nil))) .nil))) (.blt .int (.cons false (.and (.op2 .eq (.var 3) (.lst .nil)) (.op2 .lt (.blt .len (.cons false (.var 1) .nil)) (.cst (.int 7)))) .nil))))
    .nil))))))), false⟩
def c_law_read : Def := ⟨1, 5, (.cons (.asg 1 (.cst .non))
    (.cons (.asg 2 (.cst .non))
    (.cons (.tri (.cons (.asg 2 (.call ⟨#[114, 101, 97, 100, 95, 119, 101, 98]⟩ (.cons false (.var 0) .nil)))
    .nil) [⟨#[87, 101, 98, 69, 114, 114, 111, 114]⟩, ⟨#[73, 110, 118, 97, 108, 105, 100, 87, 101, 98]⟩, ⟨#[73, 110, 118, 97, 108, 105, 100, 84, 101, 120, 116]⟩] [] 3 1)
    (.cons (.iff (.op2 .is_ (.var 1) (.cst .non)) (.cons (.ret (.lst (.cons false (.cst (.str ⟨#[103, 111, 111, 100]⟩)) (.cons false (.var 2) .nil))))
    .nil) .nil)
    (.cons (.asg 4 (.lst (.cons false (.isx (.var 1) [⟨#[73, 110, 118, 97, 108, 105, 100, 84, 101, 120, 116]⟩] [⟨#[87, 101, 98, 69, 114, 114, 111, 114]⟩, ⟨#[73, 110, 118, 97, 108, 105, 100, 87, 101, 98]⟩]) (.cons false (.isx (.var 1) [⟨#[73, 110, 118, 97, 108, 105, 100, 87, 101, 98]⟩] [⟨#[87, 101, 98, 69, 114, 114, 111, 114]⟩, ⟨#[73, 110, 118, 97, 108, 105, 100, 84, 101, 120, 116]⟩]) .nil))))
    (.cons (.iff (.or (.op2 .ne (.mct (.var 4) (.cst (.bl true))) (.cst (.int 1))) (.op1 .not (.isx (.var 1) [⟨#[87, 101, 98, 69, 114, 114, 111, 114]⟩, ⟨#[73, 110, 118, 97, 108, 105, 100, 87, 101, 98]⟩, ⟨#[73, 110, 118, 97, 108, 105, 100, 84, 101, 120, 116]⟩] []))) (.cons (.ret (.lst (.cons false (.cst (.str ⟨#[111, 116, 104, 101, 114]⟩)) (.cons false (.cst .non) .nil))))
    .nil) .nil)
    (.cons (.ret (.ite (.op2 .ix (.var 4) (.cst (.int 0))) (.lst (.cons false (.cst (.str ⟨#[119, 114, 111, 110, 103]⟩)) (.cons false (.att (.var 1) ⟨#[97, 116]⟩ [] [⟨#[73, 110, 118, 97, 108, 105, 100, 84, 101, 120, 116]⟩]) .nil))) (.lst (.cons false (.cst (.str ⟨#[119, 101, 98]⟩)) (.cons false (.cst .non) .nil)))))
    .nil))))))), false⟩
def c_law_loose : Def := ⟨2, 4, (.cons (.asg 2 (.op2 .mul (.cst (.str ⟨#[32]⟩)) (.call ⟨#[95, 108, 97, 119, 95, 100, 114, 97, 119]⟩ (.cons false (.var 0) (.cons false (.cst (.int 3)) .nil)))))
    (.cons (.fr (.nm 3) (.seq (.var 1)) (.cons (.asg 2 (.op2 .add (.op2 .add (.var 2) (.var 3)) (.op2 .mul (.cst (.str ⟨#[32]⟩)) (.call ⟨#[95, 108, 97, 119, 95, 112, 105, 99, 107]⟩ (.cons false (.var 0) (.cons false (.lst (.cons false (.cst (.int 0)) (.cons false (.cst (.int 0)) (.cons false (.cst (.int 0)) (.cons false (.cst (.int 1)) (.cons false (.cst (.int 2)) .nil)))))) .nil))))))
    .nil))
    (.cons (.ret (.var 2))
    .nil))), false⟩
def c_law_bent : Def := ⟨2, 5, (.cons (.asg 2 (.lst (.cons false (.cst (.str ⟨#[48]⟩)) (.cons false (.cst (.str ⟨#[49]⟩)) (.cons false (.cst (.str ⟨#[47]⟩)) (.cons false (.cst (.str ⟨#[32]⟩)) (.cons false (.cst (.str ⟨#[50]⟩)) (.cons false (.cst (.str ⟨#[47, 47]⟩)) (.cons false (.cst (.str ⟨#[45]⟩)) (.cons false (.cst (.str ⟨#[9]⟩)) (.cons false (.cst (.str ⟨#[10]⟩)) (.cons false (.cst (.str ⟨#[79]⟩)) (.cons false (.cst (.str ⟨#[63]⟩)) (.cons false (.cst (.str ⟨#[44]⟩)) (.cons false (.cst (.str ⟨#[47, 49, 47]⟩)) .nil)))))))))))))))
    (.cons (.asg 3 (.call ⟨#[95, 108, 97, 119, 95, 100, 114, 97, 119]⟩ (.cons false (.var 0) (.cons false (.op2 .add (.blt .len (.cons false (.var 1) .nil)) (.cst (.int 1))) .nil))))
    (.cons (.asg 4 (.call ⟨#[95, 108, 97, 119, 95, 100, 114, 97, 119]⟩ (.cons false (.var 0) (.cons false (.cst (.int 4)) .nil))))
    (.cons (.iff (.op2 .eq (.var 4) (.cst (.int 0))) (.cons (.ret (.slc (.var 1) .no (.so (.var 3))))
    .nil) .nil)
    (.cons (.iff (.op2 .eq (.var 4) (.cst (.int 1))) (.cons (.ret (.op2 .add (.slc (.var 1) .no (.so (.var 3))) (.slc (.var 1) (.so (.op2 .add (.var 3) (.cst (.int 1)))) .no)))
    .nil) .nil)
    (.cons (.ret (.op2 .add (.op2 .add (.slc (.var 1) .no (.so (.var 3))) (.call ⟨#[95, 108, 97, 119, 95, 112, 105, 99, 107]⟩ (.cons false (.var 0) (.cons false (.var 2) .nil)))) (.slc (.var 1) (.so (.op2 .sub (.op2 .add (.var 3) (.var 4)) (.cst (.int 2)))) .no)))
    .nil)))))), false⟩
def c_law : Def := ⟨1, 8, (.cons (.asg 1 (.mk (.call ⟨#[95, 108, 97, 119, 95, 115, 111, 117, 114, 99, 101]⟩ (.cons false (.var 0) .nil))))
    (.cons (.fr (.nm 2) (.r1 (.cst (.int 30))) (.cons (.asg 5 (.call ⟨#[95, 108, 97, 119, 95, 119, 101, 98]⟩ (.cons false (.var 1) (.cons false (.cst (.int 6)) .nil))))
    (.cons (.asg 6 (.ms .join (.cst (.str ⟨#[47]⟩)) (.cons false (.var 5) .nil)))
    (.cons (.iff (.or (.op2 .ne (.call ⟨#[119, 101, 98, 95, 116, 101, 120, 116]⟩ (.cons false (.var 5) .nil)) (.var 6)) (.op2 .ne (.call ⟨#[95, 108, 97, 119, 95, 114, 101, 97, 100]⟩ (.cons false (.var 6) .nil)) (.lst (.cons false (.cst (.str ⟨#[103, 111, 111, 100]⟩)) (.cons false (.var 5) .nil))))) (.cons (.ret (.cst (.bl false)))
    .nil) .nil)
    (.cons (.iff (.op2 .ne (.call ⟨#[95, 108, 97, 119, 95, 114, 101, 97, 100]⟩ (.cons false (.call ⟨#[95, 108, 97, 119, 95, 108, 111, 111, 115, 101]⟩ (.cons false (.var 1) (.cons false (.var 6) .nil))) .nil)) (.lst (.cons false (.cst (.str ⟨#[103, 111, 111, 100]⟩)) (.cons false (.var 5) .nil)))) (.cons (.ret (.cst (.bl false)))
    .nil) .nil)
    (.cons (.fr (.nm 7) (.r1 (.cst (.int 3))) (.cons (.asg 6 (.call ⟨#[95, 108, 97, 119, 95, 98, 101, 110, 116]⟩ (.cons false (.var 1) (.cons false (.var 6) .nil))))
    (.cons (.iff (.op2 .ne (.call ⟨#[95, 108, 97, 119, 95, 114, 101, 97, 100]⟩ (.cons false (.var 6) .nil)) (.call ⟨#[95, 108, 97, 119, 95, 100, 117, 101]⟩ (.cons false (.var 6) .nil))) (.cons (.ret (.cst (.bl false)))
    .nil) .nil)
    .nil)))
    .nil))))))
    (.cons (.fr (.nm 3) (.seq (.lst (.cons false (.cst .non) (.cons false (.cst (.int 0)) (.cons false (.cst (.int 12)) (.cons false (.cst (.bl true)) (.cons false (.tup .nil) (.cons false (.lst .nil) (.cons false (.dc0) (.cons false (.lst (.cons false (.cst (.str ⟨#[48, 49]⟩)) .nil)) (.cons false (.tup (.cons false (.cst (.str ⟨#[48, 49]⟩)) .nil)) .nil))))))))))) (.cons (.iff (.op2 .ne (.call ⟨#[95, 108, 97, 119, 95, 114, 101, 97, 100]⟩ (.cons false (.var 3) .nil)) (.lst (.cons false (.cst (.str ⟨#[119, 114, 111, 110, 103]⟩)) (.cons false (.cst (.int 0)) .nil)))) (.cons (.ret (.cst (.bl false)))
    .nil) .nil)
    .nil))
    (.cons (.asg 4 (.lst (.cons false (.cst (.str ⟨#[]⟩)) (.cons false (.cst (.str ⟨#[32]⟩)) (.cons false (.cst (.str ⟨#[47]⟩)) (.cons false (.cst (.str ⟨#[49, 47]⟩)) (.cons false (.cst (.str ⟨#[47, 49]⟩)) (.cons false (.cst (.str ⟨#[49, 47, 47, 49]⟩)) (.cons false (.cst (.str ⟨#[49]⟩)) (.cons false (.cst (.str ⟨#[48]⟩)) (.cons false (.cst (.str ⟨#[49, 32, 48]⟩)) (.cons false (.cst (.str ⟨#[49, 48, 47, 49]⟩)) (.cons false (.cst (.str ⟨#[49, 47, 49, 48]⟩)) (.cons false (.cst (.str ⟨#[49, 49, 49, 49, 49, 49, 49]⟩)) (.cons false (.cst (.str ⟨#[49, 47, 49, 47, 49, 47, 49, 47, 49, 47, 49, 47, 49]⟩)) .nil)))))))))))))))
    (.cons (.asg 4 (.op2 .add (.var 4) (.lst (.cons false (.cst (.str ⟨#[49, 47, 49, 47, 49, 47, 49, 47, 49, 47, 49]⟩)) (.cons false (.cst (.str ⟨#[49, 49, 49, 49, 49, 49, 47, 48, 48, 48, 48, 48, 48]⟩)) (.cons false (.cst (.str ⟨#[48, 49, 47, 49, 48, 32, 47]⟩)) (.cons false (.cst (.str ⟨#[32, 48, 49, 32, 47, 32, 49, 48, 32]⟩)) (.cons false (.cst (.str ⟨#[48, 49, 10, 49, 48]⟩)) (.cons false (.cst (.str ⟨#[48, 49, 32, 49, 48]⟩)) (.cons false (.cst (.str ⟨#[48, 32, 49, 47, 49, 32, 48]⟩)) .nil))))))))))
    (.cons (.asg 4 (.op2 .add (.var 4) (.lst (.cons false (.cst (.str ⟨#[120]⟩)) (.cons false (.cst (.str ⟨#[48, 49, 47, 120]⟩)) (.cons false (.cst (.str ⟨#[49, 50]⟩)) (.cons false (.cst (.str ⟨#[49, 47, 32]⟩)) (.cons false (.cst (.str ⟨#[49, 47, 50, 47]⟩)) .nil))))))))
    (.cons (.ret (.op2 .eq (.lc [6] (.last (.seq (.var 4)) (.nm 6) (.so (.op2 .ne (.call ⟨#[95, 108, 97, 119, 95, 114, 101, 97, 100]⟩ (.cons false (.var 6) .nil)) (.call ⟨#[95, 108, 97, 119, 95, 100, 117, 101]⟩ (.cons false (.var 6) .nil))))) (.var 6)) (.lst .nil)))
    .nil))))))), false⟩
def s_law_web : Str := ⟨#[95, 108, 97, 119, 95, 119, 101, 98]⟩
def s_law_due : Str := ⟨#[95, 108, 97, 119, 95, 100, 117, 101]⟩
def s_law_read : Str := ⟨#[95, 108, 97, 119, 95, 114, 101, 97, 100]⟩
def s_law_loose : Str := ⟨#[95, 108, 97, 119, 95, 108, 111, 111, 115, 101]⟩
def s_law_bent : Str := ⟨#[95, 108, 97, 119, 95, 98, 101, 110, 116]⟩
def s_law : Str := ⟨#[108, 97, 119]⟩
set_option autoImplicit false in
structure Has (P : Prog) : Prop where
  is_row : P s_is_row = some c_is_row
  is_web_of : P s_is_web_of = some c_is_web_of
  is_web : P s_is_web = some c_is_web
  check_web : P s_check_web = some c_check_web
  web_text : P s_web_text = some c_web_text
  read_web : P s_read_web = some c_read_web
  law_source : P s_law_source = some c_law_source
  law_draw : P s_law_draw = some c_law_draw
  law_pick : P s_law_pick = some c_law_pick
  law_web : P s_law_web = some c_law_web
  law_due : P s_law_due = some c_law_due
  law_read : P s_law_read = some c_law_read
  law_loose : P s_law_loose = some c_law_loose
  law_bent : P s_law_bent = some c_law_bent
  law : P s_law = some c_law
/-- the program as a table -/
def Tb : List (Str × Def) := [(s_is_row, c_is_row), (s_is_web_of, c_is_web_of), (s_is_web, c_is_web), (s_check_web, c_check_web), (s_web_text, c_web_text), (s_read_web, c_read_web), (s_law_source, c_law_source), (s_law_draw, c_law_draw), (s_law_pick, c_law_pick), (s_law_web, c_law_web), (s_law_due, c_law_due), (s_law_read, c_law_read), (s_law_loose, c_law_loose), (s_law_bent, c_law_bent), (s_law, c_law)]
def Pr : Prog := fun x => lkD x Tb
end K03
set_option Elab.async false
set_option linter.all false
set_option maxRecDepth 100000
set_option maxHeartbeats 1000000
namespace Fp
open PySem Pe
/-- one step of reckoning -/
local macro_rules | `(tactic| trivial) => `(tactic| first
  | exact ev_var rfl
  | exact ev_cst
  | exact es_nil
  | exact eo_no
  | exact ec_no
  | apply es_cons
  | apply eo_so
  | apply ev_op2
  | apply ev_andC
  | apply ev_orC
  | apply ev_notB
  | apply ev_ch2B
  | apply ev_isi
  | apply ev_tup
  | apply ev_lst
  | apply ev_slc
  | apply ev_rev
  | apply ev_ssr
  | apply ev_blt
  | apply ev_join
  | apply ei_seq
  | apply ei_enm
  | apply ei_r1
  | apply ec_so
  | apply gr_asg
  | apply sp_asg
  | apply sp_exp
  | apply sp_par
  | apply sp_asu
  | apply gr_exp
  | apply gr_ret
  | apply gr_par
  | apply gr_asu
  | exact .inl rfl
  | apply ev_call
  | apply gr_iffF
  | exact gr_nil
  | apply evd_of
  | refine ⟨_, rfl, ?_, fun _ => ?_⟩
  | refine ⟨_, rfl, ?_⟩
  | refine fun _ _ => ⟨_, rfl, ?_, fun _ => ?_⟩
  | refine fun _ _ => ⟨_, rfl, ?_⟩
  | exact leI' _ _ | exact geI' _ _ | exact ltI' _ _ | exact gtI' _ _ | exact eqI _ _ | exact neI _ _
  | (simp only [List.length_cons, List.length_nil]; unfold sizeMax; omega)
  | exact len_lst _ | exact len_tup _ | exact enm_lst _ | exact enm_tup _
  | rfl)
abbrev Web := List (List Bool)
abbrev Tie := Nat × Nat
def bit (b : Bool) : Nat := if b then 49 else 48
def encB (b : Bool) : D := .str ⟨#[bit b]⟩
def encR (r : List Bool) : D := .str ⟨(r.map bit).toArray⟩
def encW (w : Web) : D := .tup (w.map encR)
def encT (t : Tie) : D := .tup [.int t.1, .int t.2]
def encL (ts : List Tie) : D := .lst (ts.map encT)
theorem bit_inj {a b : Bool} (h : bit a = bit b) : a = b := by cases a <;> cases b <;> first | rfl | cases h
theorem good_B : Good encB 0 := ⟨fun a b h => bit_inj (by simpa [encB] using h), fun _ => rfl, fun _ => rfl⟩
theorem good_R : Good encR 0 := ⟨fun a b h => by
  have : a.map bit = b.map bit := by simpa [encR] using h
  clear h
  induction a generalizing b with
  | nil => cases b with
    | nil => rfl
    | cons _ _ => cases this
  | cons x a ih => cases b with
    | nil => cases this
    | cons y b =>
      simp only [List.map_cons, List.cons.injEq] at this
      rw [bit_inj this.1, ih b this.2], fun _ => rfl, fun _ => rfl⟩
theorem good_W : Good encW 1 := good_R.tup
theorem good_T : Good encT 1 := good_nat.pair good_nat
theorem good_L : Good encL 2 := good_T.lst
theorem pure_W (w : Web) : (encW w).pure = true := pures_map fun _ _ => rfl
theorem pure_T (t : Tie) : (encT t).pure = true := rfl
theorem pure_L (ts : List Tie) : (encL ts).pure = true := pures_map fun _ _ => rfl
/-- h rows of v columns -/
structure Rect (w : Web) (h v : Nat) : Prop where
  rows : w.length = h
  cols : ∀ r ∈ w, r.length = v
  h0 : 0 < h
  v0 : 0 < v
  h6 : h ≤ 6
  v6 : v ≤ 6
def cell (w : Web) (i j : Nat) : Bool := (w.getD i []).getD j false
def In (h v : Nat) (t : Tie) : Prop := t.1 < h ∧ t.2 < v
theorem row_len {w : Web} {h v i : Nat} (R : Rect w h v) (hi : i < h) : (w.getD i []).length = v := by
  have hw : i < w.length := by rw [R.rows]; exact hi
  rw [List.getD_eq_getElem?_getD, List.getElem?_eq_getElem hw]
  exact R.cols _ (List.getElem_mem hw)
theorem getD_some {α : Type} {xs : List α} {i : Nat} {d : α} (h : i < xs.length) : xs[i]? = some (xs.getD i d) := by
  rw [List.getD_eq_getElem?_getD, List.getElem?_eq_getElem h]; rfl
theorem ix_row {w : Web} {h v i : Nat} (R : Rect w h v) (hi : i < h) : op2 .ix (encW w) (.int (i : Nat)) = some (.fz (encR (w.getD i []))) := ixTm (getD_some (by rw [R.rows]; exact hi))
theorem ix_row0 {w : Web} {h v : Nat} (R : Rect w h v) : op2 .ix (encW w) (.int 0) = some (.fz (encR (w.getD 0 []))) := ix_row R R.h0
theorem str_len (r : List Bool) : (⟨(r.map bit).toArray⟩ : Str).length = r.length := by
  show (r.map bit).toArray.size = _
  simp
theorem ix_bit {r : List Bool} {j : Nat} (hj : j < r.length) (hs : r.length ≤ 100) : op2 .ix (encR r) (.int (j : Nat)) = some (.fz (encB (r.getD j false))) := by
  unfold encR
  show (if (⟨(r.map bit).toArray⟩ : Str).length ≤ sizeMax then (L2.atI (⟨(r.map bit).toArray⟩ : Str).cps.toList (j : Int)).map (fun c => Fv.fz (.str ⟨#[c]⟩)) else none) = _
  rw [str_len, if_pos (by unfold sizeMax; omega), L2.atI_nat (v := bit (r.getD j false)) (by simp [List.getD_eq_getElem?_getD, List.getElem?_eq_getElem hj])]
  rfl
theorem bit_eq (b : Bool) : op2 .eq (encB b) (.str ⟨#[49]⟩) = some (.fz (.bl b)) := by
  cases b <;> kernel_rfl
theorem chars_R (r : List Bool) : seqO (encR r) = some (r.map encB) := by
  show some (chars _) = _
  unfold chars
  simp [Function.comp_def, encB]
theorem len_R {r : List Bool} (h : r.length ≤ 100) : bfO .len [encR r] = some (.fz (.int (r.length : Int))) := by
  show (if _ then some (Fv.fz (.int _)) else none) = _
  rw [str_len, if_pos (by unfold sizeMax; omega)]
theorem bools_map {α : Type} (p : α → Bool) : ∀ xs : List α, bools (xs.map fun x => .bl (p x)) = some (xs.map p)
  | [] => rfl
  | x :: r => by simp only [List.map_cons, bools, bools_map p r]; rfl
theorem all_map {α : Type} (p : α → Bool) (xs : List α) : bfO .all [.lst (xs.map fun x => .bl (p x))] = some (.fz (.bl (xs.all p))) := by
  show (bools _).map _ = _
  rw [bools_map]
  simp [List.all_map, Function.comp_def]
theorem any_map {α : Type} (p : α → Bool) (xs : List α) : bfO .any [.lst (xs.map fun x => .bl (p x))] = some (.fz (.bl (xs.any p))) := by
  show (bools _).map _ = _
  rw [bools_map]
  simp [List.any_map, Function.comp_def]
theorem in_01 (b : Bool) : op2 .in_ (encB b) (.str ⟨#[48, 49]⟩) = some (.fz (.bl true)) := by cases b <;> kernel_rfl
theorem bl_eq {cf : Str → List D → M Fv} {ρ : En} {s : Ss} {p q : Bool} (h : p = q) (g : GoR cf ρ s (.rt (.fz (.bl p)))) : GoR cf ρ s (.rt (.fz (.bl q))) := by rw [← h]; exact g
theorem enm_R (r : List Bool) : enmO (encR r) = some (r.zipIdx.map fun p => .tup [.int (p.2 : Int), encB p.1]) := by
  show (seqO (encR r)).map _ = _
  rw [chars_R, Option.map_some, List.zipIdx_map, List.map_map]
  rfl
theorem unStrs_map {α : Type} (f : α → Str) : ∀ xs : List α, unStrs (xs.map fun x => .str (f x)) = some (xs.map f)
  | [] => rfl
  | x :: r => by simp only [List.map_cons, unStrs, unStrs_map f r]; rfl
theorem str_ext {a b : Str} (h : a.cps.toList = b.cps.toList) : a = b := by
  cases a; cases b
  simp only at h
  congr 1
  exact Array.toList_inj.mp h
theorem join_B {bs : List Bool} (h : bs.length ≤ 100) : bfO .join [.str ⟨#[]⟩, .lst (bs.map encB)] = some (.fz (encR bs)) := by
  show (unStrs _).bind _ = _
  have e := unStrs_map (fun b => (⟨#[bit b]⟩ : Str)) bs
  have e' : unStrs (bs.map encB) = some (bs.map fun b => (⟨#[bit b]⟩ : Str)) := e
  rw [e']
  simp only [Option.bind_some]
  have l : ((bs.map fun b => (⟨#[bit b]⟩ : Str)).map (·.length)).sum = bs.length := by
    clear h e e'
    induction bs with
    | nil => rfl
    | cons b r ih =>
      simp only [List.map_cons, List.sum_cons, ih, List.length_cons]
      show 1 + r.length = _
      omega
  rw [l]
  have z : (⟨#[]⟩ : Str).length = 0 := rfl
  rw [z, if_pos (by unfold sizeMax; omega)]
  have j : joinS ⟨#[]⟩ (bs.map fun b => (⟨#[bit b]⟩ : Str)) = ⟨(bs.map bit).toArray⟩ := by
    clear h e e' l z
    induction bs with
    | nil => rfl
    | cons b r ih =>
      cases r with
      | nil => rfl
      | cons b' r =>
        have e2 : joinS ⟨#[]⟩ (((b :: b' :: r) : List Bool).map fun b => (⟨#[bit b]⟩ : Str)) = (⟨#[bit b]⟩ : Str) ++ (⟨#[]⟩ : Str) ++ joinS ⟨#[]⟩ (((b' :: r) : List Bool).map fun b => (⟨#[bit b]⟩ : Str)) := rfl
        rw [e2, ih]
        apply str_ext
        show (#[bit b] ++ #[] ++ (((b' :: r) : List Bool).map bit).toArray).toList = _
        simp
  rw [j]; rfl
/-- the ties in order -/
def ties (w : Web) : List Tie := w.zipIdx.flatMap fun p => (p.1.zipIdx.filter (·.1)).map fun q => (p.2, q.2)
def turn (w : Web) : Web := (List.range (w.getD 0 []).length).map fun c => w.map fun r => r.getD c false
structure HasWeb (P : Prog) : Prop where
  is_row : P s_is_row = some c_is_row
  is_web_of : P s_is_web_of = some c_is_web_of
  is_web : P s_is_web = some c_is_web
  check_web : P s_check_web = some c_check_web
structure HasTies (P : Prog) : Prop where
  ties_of : P s_ties_of = some c_ties_of
  is_number : P s_is_number = some c_is_number
  is_tie : P s_is_tie = some c_is_tie
  check_ties : P s_check_ties = some c_check_ties
section
variable {P : Prog}
local macro_rules | `(tactic| trivial) => `(tactic| first
  | exact chars_R _ | exact enm_R _ | exact in_01 _ | exact bit_eq _ | exact all_map _ _ | exact any_map _ _
  | exact len_R (by omega)
  | exact ix_row0 (by assumption)
  | exact ixT (n := 0) rfl | exact ixT (n := 1) rfl
  | exact Fn.at (by assumption) (by omega)
  | (unfold sizeMax; omega))
theorem f_is_row (H : HasWeb P) {r : List Bool} {n : Nat} (hn : r.length = n) (h : n ≤ 6) : Fn P 1 s_is_row [encR r, .int n, .str ⟨#[48, 49]⟩] (.fz (.bl true)) := by
  subst hn
  refine fn_of H.is_row rfl rfl rfl rfl fun k hk => ?_
  refine bl_eq (p := true && (decide ((r.length : Int) = r.length) && r.all fun _ => true)) (by simp) ?_
  repeat' trivial
  apply ev_lcM (enc := encB) (xs := r) (g := fun _ => .bl true)
  repeat' trivial
theorem f_is_web_of (H : HasWeb P) {w : Web} {h v : Nat} (R : Rect w h v) : Fn P 2 s_is_web_of [encW w, .str ⟨#[48, 49]⟩] (.fz (.bl true)) := by
  refine fn_of H.is_web_of rfl rfl (by simp [D.pures, pure_W, D.pure]) rfl fun k hk => ?_
  have l0 := row_len R R.h0
  have h1 := R.rows
  have h2 := R.h6
  have h3 := R.v6
  have h4 := R.h0
  have h5 := R.v0
  repeat' trivial
  · simp only [Bool.not_true, Bool.false_or, Bool.not_eq_eq_eq_not, Bool.not_false, Bool.and_eq_true, decide_eq_true_eq]; omega
  · simp only [Bool.not_true, Bool.false_or, Bool.not_eq_eq_eq_not, Bool.not_false, Bool.and_eq_true, decide_eq_true_eq]; omega
  · apply ev_lcM (enc := encR) (xs := w) (g := fun _ => .bl true)
    · repeat' trivial
    · refine fun r hr => ⟨_, rfl, ?_⟩
      apply evd_of
      · apply ev_call
        · repeat' trivial
        · exact (f_is_row H (n := (w.getD 0 []).length) (by rw [l0]; exact R.cols r hr) (by omega)).at hk
      · rfl
    · repeat' trivial
  · rfl
  · exact (all_map (fun _ => true) w).trans (by simp)
theorem f_is_web (H : HasWeb P) {w : Web} {h v : Nat} (R : Rect w h v) : Fn P 3 s_is_web [encW w] (.fz (.bl true)) := by
  refine fn_of H.is_web rfl rfl (by simp [D.pures, pure_W, D.pure]) rfl fun k hk => ?_
  have q := f_is_web_of H R
  repeat' trivial
theorem f_check_web (H : HasWeb P) {w : Web} {h v : Nat} (R : Rect w h v) : Fn P 4 s_check_web [encW w] (.fz .non) := by
  refine fn_nx H.check_web rfl rfl (by simp [D.pures, pure_W, D.pure]) fun k hk => ?_
  have q := f_is_web H R
  repeat' trivial
end
end Fp
set_option Elab.async false
set_option linter.all false
set_option maxRecDepth 100000
set_option maxHeartbeats 1000000
namespace Fp
open PySem Pe
/-- a source at r with its cells at c, of which at most n draws were made -/
structure Src (r c : Nat) (n : Nat) (S : Store) : Prop where
  ex : ∃ (cells : List Int) (t : Int), S.get r = some (.lst [.ref c, .int t]) ∧ S.get c = some (.lst (cells.map .int)) ∧ 0 ≤ t ∧ t ≤ n ∧ 0 < cells.length ∧ cells.length ≤ 63
  ne : r ≠ c
  hr : r < S.nx
  hc : c < S.nx
/-- nothing but the source is changed, of what was there -/
structure Ext (r c : Nat) (S S' : Store) : Prop where
  nx : S.nx ≤ S'.nx
  get : ∀ m, m < S.nx → m ≠ r → m ≠ c → S'.get m = S.get m
theorem Ext.refl {r c : Nat} {S : Store} : Ext r c S S := ⟨Nat.le_refl _, fun _ _ _ _ => rfl⟩
theorem Ext.trans {r c : Nat} {S S' S2 : Store} (a : Ext r c S S') (b : Ext r c S' S2) : Ext r c S S2 :=
  ⟨Nat.le_trans a.nx b.nx, fun m h1 h2 h3 => (b.get m (Nat.lt_of_lt_of_le h1 a.nx) h2 h3).trans (a.get m h1 h2 h3)⟩
theorem setL_get {α : Type} {n m : Nat} {c : α} : ∀ {l : List (Nat × α)}, (setL n c l).lookup m = if m = n then (l.lookup n).map (fun _ => c) else l.lookup m
  | [] => by simp [setL]
  | (k, d) :: r => by
    unfold setL
    by_cases hk : k = n
    · subst hk
      by_cases hm : m = k
      · subst hm; simp
      · simp [hm, List.lookup_cons, beq_eq_false_iff_ne.mpr hm]
    · rw [if_neg hk]
      by_cases hm : m = n
      · subst hm
        have : (m == k) = false := beq_eq_false_iff_ne.mpr (Ne.symm hk)
        simp [List.lookup_cons, this, setL_get (l := r)]
      · by_cases hmk : m = k
        · subst hmk; simp [hm]
        · have : (m == k) = false := beq_eq_false_iff_ne.mpr hmk
          simp [List.lookup_cons, this, setL_get (l := r), hm]
theorem put_same {S : Store} {n : Nat} {c d : Cell} (h : S.get n = some d) : (S.put n c).get n = some c := by
  unfold Store.get Store.put at *
  rw [setL_get, if_pos rfl, h]; rfl
theorem put_ne {S : Store} {n m : Nat} {c : Cell} (h : m ≠ n) : (S.put n c).get m = S.get m := by
  unfold Store.get Store.put
  rw [setL_get, if_neg h]
theorem put_nx {S : Store} {n : Nat} {c : Cell} : (S.put n c).nx = S.nx := rfl
theorem new_get {S : Store} {c : Cell} : (S.new c).get S.nx = some c := by
  unfold Store.get Store.new
  simp
theorem new_ne {S : Store} {c : Cell} {m : Nat} (h : m ≠ S.nx) : (S.new c).get m = S.get m := by
  unfold Store.get Store.new
  simp [List.lookup_cons, beq_eq_false_iff_ne.mpr h]
theorem new_nx {S : Store} {c : Cell} : (S.new c).nx = S.nx + 1 := rfl
theorem del_ne {S : Store} {n m : Nat} (h : m ≠ n) : (S.del n).get m = S.get m := by
  unfold Store.get Store.del
  simp only
  induction S.cs with
  | nil => rfl
  | cons p l ih =>
    obtain ⟨k, d⟩ := p
    rw [List.filter_cons]
    by_cases hk : k = n
    · subst hk
      simp only [bne_self_eq_false, Bool.false_eq_true, if_false]
      rw [ih, List.lookup_cons, beq_eq_false_iff_ne.mpr h]
    · have : (k != n) = true := by simpa using hk
      simp only [this, if_true]
      rw [List.lookup_cons, List.lookup_cons, ih]
theorem del_nx {S : Store} {n : Nat} : (S.del n).nx = S.nx := rfl
theorem see_cell {S : Store} {n : Nat} {xs : List D} (h : S.get n = some (.lst xs)) : S.see (.ref n) = .lst xs := by
  simp only [Store.see, h]
theorem Src.new {r c n : Nat} {S : Store} (h : Src r c n S) (x : Cell) : Src r c n (S.new x) ∧ Ext r c S (S.new x) := by
  obtain ⟨⟨cells, t, h1, h2, h3⟩, ne, hr, hc⟩ := h
  refine ⟨⟨⟨cells, t, by rw [new_ne (by omega)]; exact h1, by rw [new_ne (by omega)]; exact h2, h3⟩, ne, by rw [new_nx]; omega, by rw [new_nx]; omega⟩, by rw [new_nx]; omega, fun m h _ _ => new_ne (by omega)⟩
theorem Src.up {r c n n' : Nat} {S : Store} (h : Src r c n S) (hn : n ≤ n') : Src r c n' S := by
  obtain ⟨⟨cells, t, h1, h2, h3, h4, h5⟩, ne, hr, hc⟩ := h
  exact ⟨⟨cells, t, h1, h2, h3, by omega, h5⟩, ne, hr, hc⟩
/-- a cell beside the source may be changed, or taken away -/
theorem Src.put {r c n m : Nat} {S : Store} (h : Src r c n S) (x : Cell) (h1 : m ≠ r) (h2 : m ≠ c) : Src r c n (S.put m x) := by
  obtain ⟨⟨cells, t, k1, k2, h3⟩, ne, hr, hc⟩ := h
  exact ⟨⟨cells, t, by rw [put_ne (Ne.symm h1)]; exact k1, by rw [put_ne (Ne.symm h2)]; exact k2, h3⟩, ne, hr, hc⟩
theorem Src.del {r c n m : Nat} {S : Store} (h : Src r c n S) (h1 : m ≠ r) (h2 : m ≠ c) : Src r c n (S.del m) := by
  obtain ⟨⟨cells, t, k1, k2, h3⟩, ne, hr, hc⟩ := h
  exact ⟨⟨cells, t, by rw [del_ne (Ne.symm h1)]; exact k1, by rw [del_ne (Ne.symm h2)]; exact k2, h3⟩, ne, hr, hc⟩
theorem Src.np {r c n : Nat} {S : Store} (h : Src r c n S) (ds : List D) : D.pures ((D.ref r :: ds).map S.see) = false := by
  obtain ⟨cells, t, h1, _⟩ := h.ex
  rw [List.map_cons, see_cell h1]; rfl
/-- how many draws there may be at most -/
def drawMax : Nat := 1000000000
structure HasDraw (P : Prog) : Prop where
  law_source : P s_law_source = some c_law_source
  law_draw : P s_law_draw = some c_law_draw
  law_pick : P s_law_pick = some c_law_pick
/-- a call that draws at most k times -/
def Dr (P : Prog) (r c d k : Nat) (f : Str) (ds : List D) (Q : Fv → Prop) : Prop :=
  ∀ j, d ≤ j → ∀ n S, n + k ≤ drawMax → Src r c n S → wp (evCall P j f (.ref r :: ds)) S fun v S' => Q v ∧ Src r c (n + k) S' ∧ Ext r c S S'
theorem Dr.at {P : Prog} {r c d k : Nat} {f : Str} {ds : List D} {Q : Fv → Prop} (h : Dr P r c d k f ds Q) {j n : Nat} {S : Store} {Q' : Fv → Store → Prop} (hj : d ≤ j) (hn : n + k ≤ drawMax) (hS : Src r c n S)
    (q : ∀ v S', Q v → Src r c (n + k) S' → Ext r c S S' → Q' v S') : wp (evCall P j f (.ref r :: ds)) S Q' :=
  wp_mono (h j hj n S hn hS) fun v S' ⟨h1, h2, h3⟩ => q v S' h1 h2 h3
theorem pow18 : op2 .pow (.int 10) (.int 18) = some (.fz (.int 1000000000000000000)) := by kernel_rfl
theorem mod_pos {i j : Int} (h : 0 < j) : op2 .mod (.int i) (.int j) = some (.fz (.int (i % j))) := by
  show (if 0 < j then _ else _) = _
  rw [if_pos h]
theorem fdv_pos {i j : Int} (h : 0 < j) (h2 : j < 1073741824) : op2 .fdv (.int i) (.int j) = some (.fz (.int (i / j))) := by
  show (if 0 < j ∧ j < 1073741824 then _ else _) = _
  rw [if_pos ⟨h, h2⟩]
theorem mul_small {i j : Int} (h : 0 ≤ i) (h2 : i < 18446744073709551616) : op2 .mul (.int i) (.int j) = some (.fz (.int (i * j))) := by
  show (if (small64 i || small64 j) = true then _ else _) = _
  have : small64 i = true := decide_eq_true (by
    have e : (2 : Int) ^ 64 = 18446744073709551616 := by decide
    rw [e]; omega)
  rw [this]; rfl
theorem mul_smallR {i j : Int} (h : 0 ≤ j) (h2 : j < 18446744073709551616) : op2 .mul (.int i) (.int j) = some (.fz (.int (i * j))) := by
  show (if (small64 i || small64 j) = true then _ else _) = _
  have : small64 j = true := decide_eq_true (by
    have e : (2 : Int) ^ 64 = 18446744073709551616 := by decide
    rw [e]; omega)
  rw [this, Bool.or_true]; rfl
section
variable {P : Prog}
theorem d_draw (H : HasDraw P) {r c : Nat} {lim : Int} (h0 : 0 < lim) (h1 : lim < 1073741824) : Dr P r c 1 1 s_law_draw [.int lim] fun v => ∃ i : Int, v = .fz (.int i) ∧ 0 ≤ i ∧ i < lim := by
  intro j hj n S hn hS
  obtain ⟨k, rfl⟩ : ∃ k, j = k + 1 := ⟨j - 1, by omega⟩
  have hS0 := hS
  obtain ⟨⟨cells, t, g1, g2, t0, tn, l0, l63⟩, ne, hr, hc⟩ := hS
  unfold drawMax at hn
  refine w_run H.law_draw rfl rfl (hS0.np _) ?_
  have hlen : (0 : Int) < (cells.length : Int) := by omega
  obtain ⟨p, hp⟩ : ∃ p : Nat, t % (cells.length : Int) = (p : Int) := ⟨(t % (cells.length : Int)).toNat, (Int.toNat_of_nonneg (Int.emod_nonneg _ (by omega))).symm⟩
  have hpl : p < cells.length := by
    have := Int.emod_lt_of_pos t hlen
    omega
  apply s_asu
  refine w_ev (v := .fz (.ref r)) (ev_var rfl) ⟨_, _, .inr (see_cell g1), rfl, ?_⟩
  apply s_asg
  apply w_op2
  refine w_ev (v := .fz (.int t)) ?_ ?_
  · exact ev_blt (es_cons (ev_var rfl) es_nil) rfl rfl
  apply w_blt
  refine w_es (ds := [.ref c]) ?_ ⟨.fz (.int (cells.length : Int)), ?_, ?_⟩
  · exact es_cons (v := .fz (.ref c)) (ev_var rfl) es_nil
  · show bfO .len [S.see (.ref c)] = _
    rw [see_cell g2]
    exact len_lst cells
  refine ⟨_, mod_pos hlen, ?_⟩
  rw [hp]
  apply s_asg
  apply w_op2
  refine w_ev (v := .fz (.ref c)) (ev_var rfl) ?_
  refine w_ev (v := .fz (.int (p : Int))) (ev_var rfl) ⟨.fz (.int cells[p]), ?_, ?_⟩
  · show op2 .ix (S.see (.ref c)) (.int (p : Int)) = _
    rw [see_cell g2]
    exact ixLm (List.getElem?_eq_getElem hpl)
  apply s_sti
  refine w_ev (v := .fz (.int (t + 1))) (ev_op2 (ev_var rfl) ev_cst rfl rfl rfl) ?_
  refine w_ev (v := .fz (.ref r)) (ev_var rfl) ?_
  refine w_ev (v := .fz (.int 1)) ev_cst ⟨r, [.ref c, .int t], 1, 1, rfl, rfl, g1, rfl, ?_⟩
  have S1r : (S.put r (.lst [.ref c, .int (t + 1)])).get r = some (.lst [.ref c, .int (t + 1)]) := put_same g1
  have S1c : (S.put r (.lst [.ref c, .int (t + 1)])).get c = some (.lst (cells.map .int)) := by rw [put_ne (Ne.symm ne)]; exact g2
  have SS1 : Src r c (n + 1) (S.put r (.lst [.ref c, .int (t + 1)])) := ⟨⟨cells, t + 1, S1r, S1c, by omega, by omega, l0, l63⟩, ne, hr, hc⟩
  have EE1 : Ext r c S (S.put r (.lst [.ref c, .int (t + 1)])) := ⟨Nat.le_refl _, fun m _ h _ => put_ne h⟩
  show wp _ (S.put r (.lst [.ref c, .int (t + 1)])) _
  apply sp_iff
  · exact ev_op2 (ev_var rfl) (ev_op2 ev_cst ev_cst rfl rfl pow18) rfl rfl (geI' _ _)
  · intro _
    apply s_sti
    refine w_ev (v := .fz (.int (cells[p] / lim))) (ev_op2 (ev_var rfl) (ev_var rfl) rfl rfl (fdv_pos h0 h1)) ?_
    refine w_ev (v := .fz (.ref c)) (ev_var rfl) ?_
    refine w_ev (v := .fz (.int (p : Int))) (ev_var rfl) ⟨c, cells.map .int, p, p, rfl, rfl, S1c, ?_, ?_⟩
    · rw [List.length_map]
      unfold L2.ixN
      have h1 : ¬ ((p : Int) < 0) := by omega
      have h2 : ¬ ((cells.length : Int) ≤ p) := by omega
      simp [h1, h2]
      try omega
    apply s_ret
    refine w_ev (v := .fz (.int (cells[p] % lim))) (ev_op2 (ev_blt (es_cons (ev_var rfl) es_nil) rfl rfl) (ev_var rfl) rfl rfl (mod_pos h0)) ?_
    refine ⟨⟨_, rfl, Int.emod_nonneg _ (by omega), Int.emod_lt_of_pos _ h0⟩, ?_, ?_⟩
    · refine ⟨⟨cells.set p (cells[p] / lim), t + 1, ?_, ?_, by omega, by omega, by rw [List.length_set]; exact l0, by rw [List.length_set]; exact l63⟩, ne, hr, hc⟩
      · rw [put_ne ne]; exact S1r
      · rw [put_same S1c, List.map_set]; rfl
    · exact EE1.trans ⟨Nat.le_refl _, fun m _ _ h => put_ne h⟩
  · intro _
    refine s_nil ?_
    have b1 : ∀ x y : Int, 0 < y → 0 ≤ x % y ∧ x % y < y := fun x y h => ⟨Int.emod_nonneg _ (by omega), Int.emod_lt_of_pos _ h⟩
    apply sp_asg
    · refine ev_op2 (ev_blt (es_cons (ev_op2 (ev_op2 (ev_op2 (ev_op2 (ev_blt (es_cons (ev_var rfl) es_nil) rfl rfl) ev_cst rfl rfl (mod_pos (by decide))) ev_cst rfl rfl (mul_smallR (by decide) (by decide))) (ev_op2 (ev_op2 (ev_var rfl) (ev_var rfl) rfl rfl (mul_small t0 (by omega))) ev_cst rfl rfl (mul_smallR (by decide) (by decide))) rfl rfl rfl) ev_cst rfl rfl rfl) es_nil) rfl rfl) ev_cst rfl rfl (mod_pos (by decide))
    generalize (cells[p] % 2147483629 * 48271 + t * t * 69621 + 11) = z
    obtain ⟨z0, z1⟩ := b1 z 2147483647 (by decide)
    apply sp_asg
    · exact ev_op2 (ev_blt (es_cons (ev_op2 (ev_var rfl) (ev_var rfl) rfl rfl (mul_small z0 (by omega))) es_nil) rfl rfl) ev_cst rfl rfl (mod_pos (by decide))
    generalize (z % 2147483647 * (z % 2147483647)) = y
    obtain ⟨y0, y1⟩ := b1 y 2147483629 (by decide)
    apply sp_asg
    · exact ev_op2 (ev_blt (es_cons (ev_op2 (ev_var rfl) (ev_var rfl) rfl rfl (mul_small y0 (by omega))) es_nil) rfl rfl) ev_cst rfl rfl (mod_pos (by decide))
    apply sp_ret
    · exact ev_op2 (ev_blt (es_cons (ev_var rfl) es_nil) rfl rfl) (ev_var rfl) rfl rfl (mod_pos h0)
    exact ⟨⟨_, rfl, Int.emod_nonneg _ (by omega), Int.emod_lt_of_pos _ h0⟩, SS1, EE1⟩
end
end Fp
set_option Elab.async false
set_option linter.all false
set_option maxRecDepth 100000
set_option maxHeartbeats 1000000
namespace Fp
open PySem Pe
theorem Ext.put {r c m : Nat} {S0 S : Store} {x : Cell} (h : Ext r c S0 S) (hm : S0.nx ≤ m) : Ext r c S0 (S.put m x) := ⟨h.nx, fun k h1 h2 h3 => by rw [put_ne (by omega)]; exact h.get k h1 h2 h3⟩
theorem Ext.del {r c m : Nat} {S0 S : Store} (h : Ext r c S0 S) (hm : S0.nx ≤ m) : Ext r c S0 (S.del m) := ⟨h.nx, fun k h1 h2 h3 => by rw [del_ne (by omega)]; exact h.get k h1 h2 h3⟩
theorem Ext.new {r c : Nat} {S0 S : Store} {x : Cell} (h : Ext r c S0 S) : Ext r c S0 (S.new x) := ⟨Nat.le_trans h.nx (by rw [new_nx]; omega), fun k h1 h2 h3 => by rw [new_ne (by have := h.nx; omega)]; exact h.get k h1 h2 h3⟩
theorem pow60 : op2 .pow (.int 10) (.int 60) = some (.fz (.int (10 ^ 60))) := by kernel_rfl
theorem pow6020 : op2 .pow (.int (10 ^ 60)) (.int 20) = some (.fz (.int ((10 ^ 60) ^ 20))) := by kernel_rfl
theorem ixN_nat {n k : Nat} (h : k < n) : L2.ixN n (k : Int) = some k := by
  unfold L2.ixN
  have h1 : ¬ ((k : Int) < 0) := by omega
  have h2 : ¬ ((n : Int) ≤ k) := by omega
  simp [h1, h2]
  try omega
section
variable {P : Prog}
theorem d_source (H : HasDraw P) {ns : List Int} (hn : ns.length ≤ 63) {k : Nat} {Q : Fv → Store → Prop}
    (q : ∀ (c : Nat) (cells : List Int) (S : Store), S.get c = some (.lst (cells.map .int)) → 0 < cells.length → cells.length ≤ 63 → c < S.nx → Q (.nw [.ref c, .int 0]) S) :
    wp (evCall P (k + 1) s_law_source [.scr ns]) .mt Q := by
  refine w_run H.law_source rfl rfl rfl ?_
  have hc : ∃ cells : List Int, cells.length ≤ 63 ∧ cutO (.scr ns) none (some 63) = some (.nw (cells.map .int)) := by
    refine ⟨cutA ns none (some 63), ?_, rfl⟩
    unfold cutA HT.sIx
    simp
    omega
  obtain ⟨cells, hl, hcut⟩ := hc
  apply s_asg
  refine w_mkN (xs := cells.map .int) (ev_slc (ev_var rfl) eo_no (eo_so ev_cst) rfl hcut) ?_
  apply s_fr
  apply wi_r1
  apply w_blt
  refine w_es (ds := [.ref 0]) (es_cons (v := .fz (.ref 0)) (ev_var rfl) es_nil) ⟨.fz (.int (cells.length : Int)), ?_, ?_⟩
  · show bfO .len [Store.see _ (.ref 0)] = _
    rw [see_cell (n := 0) (xs := cells.map .int) (show (Store.mt.new (.lst (cells.map .int))).get 0 = _ from new_get (S := .mt))]
    exact len_lst cells
  refine ⟨_, _, rfl, rng_nat (by omega), ?_⟩
  refine w_loop (enc := fun k : Nat => .int (k : Int)) (fun ys ρ S => ∃ (cs : List Int) (l2 : Option D), ρ = [some (.scr ns), some (.ref 0), l2] ∧ S.get 0 = some (.lst (cs.map .int)) ∧ S.nx = 1 ∧ cs.length = cells.length ∧ ∀ y ∈ ys, y < cs.length) ?_ ?_
    (ys := List.range cells.length) ⟨cells, none, rfl, new_get (S := .mt), rfl, rfl, fun y hy => List.mem_range.mp hy⟩
  · rintro y ys ρ S ⟨cs, l2, rfl, g, hx, hlen, hy⟩
    have hyl : y < cs.length := hy y List.mem_cons_self
    refine ⟨_, rfl, ?_⟩
    have hix : ∀ {α : Type} {Q : Fv → Store → Prop}, Q (.fz (.int cs[y])) S → wp (evE (evCall P k) (.op2 .ix (.var 1) (.var 2)) (List.set [some (.scr ns), some (.ref 0), l2] 2 (some (.int (y : Int))))) S Q := fun {_} {Q} q => by
      apply w_op2
      refine w_ev (v := .fz (.ref 0)) (ev_var rfl) ?_
      refine w_ev (v := .fz (.int (y : Int))) (ev_var rfl) ⟨.fz (.int cs[y]), ?_, q⟩
      show op2 .ix (S.see (.ref 0)) (.int (y : Int)) = _
      rw [see_cell g]
      exact ixLm (List.getElem?_eq_getElem hyl)
    apply s_iff
    apply w_op2
    apply w_blt
    apply w_cons
    refine hix (α := Nat) ?_
    refine w_nil ⟨_, rfl, ?_⟩
    refine w_ev (v := .fz (.int 1000000000000000000)) (ev_op2 ev_cst ev_cst rfl rfl pow18) ⟨_, rfl, ?_⟩
    refine ⟨_, rfl, fun _ => ?_, fun _ => s_nil (s_nil ⟨cs, _, rfl, g, hx, hlen, fun z hz => hy z (List.mem_cons_of_mem _ hz)⟩)⟩
    apply s_sti
    apply w_op2
    apply w_blt
    apply w_cons
    refine hix (α := Nat) ?_
    refine w_nil ⟨_, rfl, ?_⟩
    refine w_ev (v := .fz (.int ((10 ^ 60) ^ 20))) (ev_op2 (ev_op2 ev_cst ev_cst rfl rfl pow60) ev_cst rfl rfl pow6020) ⟨.fz (.int (cs[y] % (10 ^ 60) ^ 20)), mod_pos (by decide), ?_⟩
    refine w_ev (v := .fz (.ref 0)) (ev_var rfl) ?_
    refine w_ev (v := .fz (.int (y : Int))) (ev_var rfl) ⟨0, cs.map .int, y, y, rfl, rfl, g, by rw [List.length_map]; exact ixN_nat hyl, ?_⟩
    refine s_nil (s_nil ⟨cs.set y (cs[y] % (10 ^ 60) ^ 20), _, rfl, ?_, hx, by rw [List.length_set]; exact hlen, fun z hz => by rw [List.length_set]; exact hy z (List.mem_cons_of_mem _ hz)⟩)
    rw [put_same g, List.map_set]; rfl
  · rintro ρ S ⟨cs, l2, rfl, g, hx, hlen, _⟩
    show wp _ S _
    apply s_iff
    apply w_op2
    refine w_ev (v := .fz (.ref 0)) (ev_var rfl) ?_
    refine w_ev (v := .nw []) (ev_lst es_nil (by simp)) ⟨.fz (.bl (decide (cs = []))), ?_, ?_⟩
    · show op2 .eq (S.see (.ref 0)) (.lst []) = _
      rw [see_cell g]
      exact eq_enc good_int.lst (by decide) cs []
    refine ⟨_, rfl, fun h => ?_, fun h => ?_⟩
    · apply s_asg
      refine w_mkN (xs := [.int 0]) (ev_lst (es_cons ev_cst es_nil) (by show 1 ≤ _; decide)) ?_
      refine s_nil ?_
      apply s_ret
      refine w_ev (v := .nw [.ref S.nx, .int 0]) (ev_lst (es_cons (v := .fz (.ref S.nx)) (ev_var rfl) (es_cons ev_cst es_nil)) (by show 2 ≤ _; decide)) ?_
      exact q S.nx [0] _ new_get (by simp) (by simp) (by rw [new_nx]; omega)
    · have h := of_decide_eq_false h
      refine s_nil ?_
      apply s_ret
      refine w_ev (v := .nw [.ref 0, .int 0]) (ev_lst (es_cons (v := .fz (.ref 0)) (ev_var rfl) (es_cons ev_cst es_nil)) (by show 2 ≤ _; decide)) ?_
      exact q 0 cs S g (List.length_pos_iff.mpr h) (by omega) (by omega)
theorem d_pick (H : HasDraw P) {r c : Nat} {xs : List D} (h0 : 0 < xs.length) (h1 : xs.length < 1073741824) : Dr P r c 2 1 s_law_pick [.lst xs] fun v => ∃ x ∈ xs, v = .fz x := by
  intro j hj n S hn hS
  obtain ⟨k, rfl⟩ : ∃ k, j = k + 1 := ⟨j - 1, by omega⟩
  refine w_run H.law_pick rfl rfl (hS.np _) ?_
  apply s_ret
  apply w_op2
  refine w_ev (v := .fz (.lst xs)) (ev_var rfl) ?_
  apply w_call
  refine w_es (ds := [.ref r, .int xs.length]) (es_cons (v := .fz (.ref r)) (ev_var rfl) (es_cons (v := .fz (.int xs.length)) (ev_blt (ds := [.lst xs]) (es_cons (v := .fz (.lst xs)) (ev_var rfl) es_nil) rfl rfl) es_nil)) ?_
  refine (d_draw H (r := r) (c := c) (lim := (xs.length : Int)) (by omega) (by omega)).at (by omega) hn hS ?_
  rintro v S' ⟨i, rfl, i0, i1⟩ hS' hE
  obtain ⟨p, rfl⟩ : ∃ p : Nat, i = (p : Int) := ⟨i.toNat, (Int.toNat_of_nonneg i0).symm⟩
  have hp : p < xs.length := by omega
  refine ⟨.fz xs[p], ixL (List.getElem?_eq_getElem hp), ⟨_, List.getElem_mem hp, rfl⟩, hS', hE⟩
/-- a sign of a text of noughts and ones -/
theorem d_pickR (H : HasDraw P) {r c : Nat} {bs : List Bool} (h0 : 0 < bs.length) (h1 : bs.length ≤ 100) : Dr P r c 2 1 s_law_pick [encR bs] fun v => ∃ b ∈ bs, v = .fz (encB b) := by
  intro j hj n S hn hS
  obtain ⟨k, rfl⟩ : ∃ k, j = k + 1 := ⟨j - 1, by omega⟩
  refine w_run H.law_pick rfl rfl (hS.np _) ?_
  apply s_ret
  apply w_op2
  refine w_ev (v := .fz (encR bs)) (ev_var rfl) ?_
  apply w_call
  refine w_es (ds := [.ref r, .int bs.length]) (es_cons (v := .fz (.ref r)) (ev_var rfl) (es_cons (v := .fz (.int bs.length)) (ev_blt (ds := [encR bs]) (es_cons (v := .fz (encR bs)) (ev_var rfl) es_nil) rfl (len_R h1)) es_nil)) ?_
  refine (d_draw H (r := r) (c := c) (lim := (bs.length : Int)) (by omega) (by omega)).at (by omega) hn hS ?_
  rintro v S' ⟨i, rfl, i0, i1⟩ hS' hE
  obtain ⟨p, rfl⟩ : ∃ p : Nat, i = (p : Int) := ⟨i.toNat, (Int.toNat_of_nonneg i0).symm⟩
  have hp : p < bs.length := by omega
  refine ⟨.fz (encB (bs.getD p false)), ix_bit hp h1, ⟨_, ?_, rfl⟩, hS', hE⟩
  rw [List.getD_eq_getElem?_getD, List.getElem?_eq_getElem hp]
  exact List.getElem_mem hp
end
end Fp
set_option Elab.async false
set_option linter.all false
set_option maxRecDepth 100000
set_option maxHeartbeats 1000000
namespace K03
open PySem Pe Fp
def txt (t : List Nat) : D := .str ⟨t.toArray⟩
def encC (c : Nat) : D := .str ⟨#[c]⟩
theorem good_txt : Good txt 0 := ⟨fun a b h => by simpa [txt] using h, fun _ => rfl, fun _ => rfl⟩
theorem good_C : Good encC 0 := ⟨fun a b h => by simpa [encC] using h, fun _ => rfl, fun _ => rfl⟩
theorem encR_txt (r : List Bool) : encR r = txt (r.map bit) := rfl
inductive Res where
  | wrong (k : Nat)
  | web
  | good (w : Web)
def Res.d : Res → List D
  | .wrong k => [.str ⟨#[119, 114, 111, 110, 103]⟩, .int (k : Int)]
  | .web => [.str ⟨#[119, 101, 98]⟩, .non]
  | .good w => [.str ⟨#[103, 111, 111, 100]⟩, encW w]
/-- from place k on; the rows that are whole; the row that is under way -/
def scan : Nat → Web → List Bool → List Nat → Nat ⊕ (Web × List Bool)
  | _, rows, row, [] => .inr (rows, row)
  | k, rows, row, c :: cs =>
    if c = 48 then scan (k + 1) rows (row ++ [false]) cs
    else if c = 49 then scan (k + 1) rows (row ++ [true]) cs
    else if c = 47 ∧ row ≠ [] then scan (k + 1) (rows ++ [row]) [] cs
    else if c = 32 then scan (k + 1) rows row cs
    else .inl k
def isW (w : Web) : Bool := decide (w.length ≤ 6) && (decide ((w.getD 0 []).length ≤ 6) && w.all fun r => decide (r.length = (w.getD 0 []).length))
def fin (n : Nat) : Nat ⊕ (Web × List Bool) → Res
  | .inl k => .wrong k
  | .inr (rows, row) => if row = [] then .wrong n else if isW (rows ++ [row]) then .good (rows ++ [row]) else .web
def rd (t : List Nat) : Res := fin t.length (scan 0 [] [] t)
theorem scan_rows {k : Nat} {rows : Web} {row : List Bool} {cs : List Nat} {rows' : Web} {row' : List Bool} (h : scan k rows row cs = .inr (rows', row')) (h0 : ∀ r ∈ rows, r ≠ []) : ∀ r ∈ rows', r ≠ [] := by
  induction cs generalizing k rows row with
  | nil => simp only [scan, Sum.inr.injEq, Prod.mk.injEq] at h; rw [← h.1]; exact h0
  | cons c cs ih =>
    unfold scan at h
    split at h
    · exact ih h h0
    split at h
    · exact ih h h0
    split at h
    · rename_i hc
      refine ih h fun r hr => ?_
      rcases List.mem_append.mp hr with q | q
      · exact h0 r q
      · rcases List.mem_singleton.mp q with rfl
        exact hc.2
    split at h
    · exact ih h h0
    · cases h
/-- how many signs the rows have, with the row under way -/
def wt (rows : Web) (row : List Bool) : Nat := (rows.map List.length).sum + rows.length + row.length
theorem scan_wt {k : Nat} {rows : Web} {row : List Bool} {cs : List Nat} {rows' : Web} {row' : List Bool} (h : scan k rows row cs = .inr (rows', row')) : wt rows' row' ≤ wt rows row + cs.length := by
  induction cs generalizing k rows row with
  | nil => simp only [scan, Sum.inr.injEq, Prod.mk.injEq] at h; rw [← h.1, ← h.2]; simp
  | cons c cs ih =>
    have e1 : ∀ b, wt rows (row ++ [b]) = wt rows row + 1 := fun b => by simp [wt]; omega
    have e2 : wt (rows ++ [row]) [] = wt rows row + 1 := by simp [wt]; omega
    unfold scan at h
    split at h
    · have := ih h; rw [e1] at this; simp only [List.length_cons]; omega
    split at h
    · have := ih h; rw [e1] at this; simp only [List.length_cons]; omega
    split at h
    · have := ih h; rw [e2] at this; simp only [List.length_cons]; omega
    split at h
    · have := ih h; simp only [List.length_cons]; omega
    · cases h
def joinT : Web → List Nat
  | [] => []
  | [r] => r.map bit
  | r :: s :: w => r.map bit ++ 47 :: joinT (s :: w)
theorem scan_row (k : Nat) (rows : Web) (row r : List Bool) (cs : List Nat) : ∃ k', scan k rows row (r.map bit ++ cs) = scan k' rows (row ++ r) cs := by
  induction r generalizing k row with
  | nil => exact ⟨k, by simp⟩
  | cons b r ih =>
    obtain ⟨k', h⟩ := ih (k + 1) (row ++ [b])
    refine ⟨k', ?_⟩
    have e : row ++ b :: r = row ++ [b] ++ r := by simp
    rw [e, ← h]
    cases b
    · show scan k rows row (48 :: _) = _
      rw [scan, if_pos rfl]
      rfl
    · show scan k rows row (49 :: _) = _
      rw [scan, if_neg (by decide), if_pos rfl]
      rfl
/-- loosened by blanks -/
inductive Loose : List Nat → List Nat → Prop where
  | nil : Loose [] []
  | cons (c : Nat) {t u : List Nat} : Loose t u → Loose (c :: t) (c :: u)
  | blank {t u : List Nat} : Loose t u → Loose t (32 :: u)
theorem Loose.refl : ∀ t : List Nat, Loose t t
  | [] => .nil
  | c :: t => .cons c (Loose.refl t)
theorem Loose.blanks {t u : List Nat} (h : Loose t u) : ∀ n : Nat, Loose t (List.replicate n 32 ++ u)
  | 0 => h
  | n + 1 => .blank (h.blanks n)
theorem scan_loose {t u : List Nat} (h : Loose t u) : ∀ {k : Nat} {rows : Web} {row : List Bool} {a : Web × List Bool}, scan k rows row t = .inr a → ∀ k', scan k' rows row u = .inr a := by
  induction h with
  | nil => intro k rows row a h k'; simpa [scan] using h
  | @cons c t u _ ih =>
    intro k rows row a h k'
    unfold scan at h ⊢
    split at h
    · rename_i q; rw [if_pos q]; exact ih h _
    rename_i q1
    rw [if_neg q1]
    split at h
    · rename_i q; rw [if_pos q]; exact ih h _
    rename_i q2
    rw [if_neg q2]
    split at h
    · rename_i q; rw [if_pos q]; exact ih h _
    rename_i q3
    rw [if_neg q3]
    split at h
    · rename_i q; rw [if_pos q]; exact ih h _
    · cases h
  | @blank t u _ ih =>
    intro k rows row a h k'
    rw [scan, if_neg (by decide), if_neg (by decide), if_neg (by rintro ⟨q, _⟩; revert q; decide), if_pos rfl]
    exact ih h _
theorem scan_join : ∀ (w : Web) (k : Nat) (rows : Web) (r : List Bool), (∀ x ∈ r :: w, x ≠ []) → ∃ rows' row', scan k rows [] (joinT (r :: w)) = .inr (rows', row') ∧ rows' ++ [row'] = rows ++ r :: w ∧ row' ≠ []
  | [], k, rows, r, h => by
    obtain ⟨k', e⟩ := scan_row k rows [] r []
    refine ⟨rows, r, ?_, rfl, h r List.mem_cons_self⟩
    rw [List.append_nil] at e
    show scan k rows [] (r.map bit) = _
    rw [e]; rfl
  | s :: w, k, rows, r, h => by
    obtain ⟨k', e⟩ := scan_row k rows [] r (47 :: joinT (s :: w))
    obtain ⟨rows', row', e2, e3, e4⟩ := scan_join w (k' + 1) (rows ++ [r]) s fun x hx => h x (List.mem_cons_of_mem _ hx)
    refine ⟨rows', row', ?_, by rw [e3]; simp, e4⟩
    show scan k rows [] (r.map bit ++ 47 :: joinT (s :: w)) = _
    rw [e, List.nil_append, scan, if_neg (by decide), if_neg (by decide), if_pos ⟨rfl, h r List.mem_cons_self⟩]
    exact e2
theorem isW_rect {w : Web} {h v : Nat} (R : Rect w h v) : isW w = true := by
  have l0 := row_len R R.h0
  have h1 := R.rows
  have h2 := R.h6
  have h3 := R.v6
  unfold isW
  simp only [Bool.and_eq_true, decide_eq_true_eq, List.all_eq_true]
  exact ⟨by omega, by omega, fun r hr => by rw [l0]; exact R.cols r hr⟩
theorem rd_loose {w : Web} {h v : Nat} (R : Rect w h v) {u : List Nat} (hu : Loose (joinT w) u) : rd u = .good w := by
  cases w with
  | nil => have := R.rows; have := R.h0; simp at *; omega
  | cons r w =>
    have hne : ∀ x ∈ r :: w, x ≠ [] := fun x hx z => by
      have := R.cols x hx
      have := R.v0
      subst z
      simp at *; omega
    obtain ⟨rows', row', e1, e2, e3⟩ := scan_join w 0 [] r hne
    have e4 := scan_loose hu e1 0
    unfold rd
    rw [e4]
    show (if row' = [] then Res.wrong u.length else if isW (rows' ++ [row']) = true then Res.good (rows' ++ [row']) else Res.web) = _
    rw [if_neg e3, e2, List.nil_append, if_pos (isW_rect R)]
theorem rd_join {w : Web} {h v : Nat} (R : Rect w h v) : rd (joinT w) = .good w := rd_loose R (Loose.refl _)
end K03
set_option Elab.async false
set_option linter.all false
set_option maxRecDepth 100000
set_option maxHeartbeats 1000000
namespace Pe
open PySem
section
variable {cf : Str → List D → M Fv} {ρ : En} {S : Store}
theorem obj_of {n : Nat} {c : Str} {fs : List (Str × D)} (h : S.get n = some (.obj c fs)) : S.obj n = some (c, fs) := by
  unfold Store.obj; rw [h]
theorem see_obj {n : Nat} {c : Str} {fs : List (Str × D)} (h : S.get n = some (.obj c fs)) : S.see (.ref n) = .ref n := by
  simp only [Store.see, h]
theorem isObj_of {n : Nat} {c : Str} {fs : List (Str × D)} (h : S.get n = some (.obj c fs)) : isObj S (.ref n) c = true := by
  simp only [isObj, obj_of h, decide_true]
theorem isObjN_of {n : Nat} {c m : Str} {fs : List (Str × D)} (h : S.get n = some (.obj c fs)) (hm : (fs.lookup m).isNone = true) : isObjN S (.ref n) c m = true := by
  simp only [isObjN, obj_of h, decide_true, hm, Bool.and_self]
theorem w_att {a : E} {f : Str} {cs es : List Str} {Q : Fv → Store → Prop} (h : wp (evE cf a ρ) S fun x S1 => ∃ d, attO S1 x.d f cs es = some d ∧ Q (.fz d) S1) : wp (evE cf (.att a f cs es) ρ) S Q := by
  simp only [evE]
  refine wp_bnd (wp_mD (wp_mono h fun x S1 h1 => ?_))
  obtain ⟨d, e, q⟩ := h1
  show wp (M.bnd (M.opt (attO S1 x.d f cs es)) _) S1 Q
  exact wp_bnd (wp_opt e (wp_ret q))
/-- a name's attribute -/
theorem w_attV {i n : Nat} {c f : Str} {fs : List (Str × D)} {cs es : List Str} {d : D} {Q : Fv → Store → Prop} (hv : ρ[i]? = some (some (.ref n))) (hg : S.get n = some (.obj c fs)) (hc : cs.contains c = true) (hl : fs.lookup f = some d) (q : Q (.fz d) S) : wp (evE cf (.att (.var i) f cs es) ρ) S Q := by
  apply w_att
  refine w_ev (ev_var hv) ⟨d, ?_, q⟩
  show ((S.obj n).bind fun p => if cs.contains p.1 = true then p.2.lookup f else none) = some d
  rw [obj_of hg]
  show (if cs.contains c = true then fs.lookup f else none) = some d
  rw [if_pos hc, hl]
theorem w_isx {a : E} {cs ds : List Str} {Q : Fv → Store → Prop} (h : wp (evE cf a ρ) S fun x S1 => ∃ b, isxO S1 x.d cs ds = some b ∧ Q (.fz (.bl b)) S1) : wp (evE cf (.isx a cs ds) ρ) S Q := by
  simp only [evE]
  refine wp_bnd (wp_mD (wp_mono h fun x S1 h1 => ?_))
  obtain ⟨d, e, q⟩ := h1
  show wp (M.bnd (M.opt (isxO S1 x.d cs ds)) _) S1 Q
  exact wp_bnd (wp_opt e (wp_ret q))
theorem w_mth {a : E} {c m k : Str} {es : Es} {Q : Fv → Store → Prop} (h : wp (evE cf a ρ) S fun x S1 => isObjN S1 x.d c m = true ∧ wp (evEs cf es ρ) S1 fun ds S2 => wp (cf k (x.d :: ds)) S2 Q) : wp (evE cf (.mth c m k a es) ρ) S Q := by
  simp only [evE]
  refine wp_bnd (wp_mD (wp_mono h fun x S1 h1 => ?_))
  show wp (fun s => if isObjN s x.d c m = true then M.bnd (evEs cf es ρ) (fun ds => cf k (x.d :: ds)) s else .bad) S1 Q
  unfold wp
  simp only [h1.1, if_true]
  exact wp_bnd h1.2
/-- a method of a name's object -/
theorem w_mthV {i n : Nat} {c m k : Str} {es : Es} {fs : List (Str × D)} {Q : Fv → Store → Prop} (hv : ρ[i]? = some (some (.ref n))) (hg : S.get n = some (.obj c fs)) (hm : (fs.lookup m).isNone = true) (q : wp (evEs cf es ρ) S fun ds S2 => wp (cf k (.ref n :: ds)) S2 Q) : wp (evE cf (.mth c m k (.var i) es) ρ) S Q :=
  w_mth (w_ev (ev_var hv) ⟨isObjN_of hg hm, q⟩)
theorem w_prp {a : E} {c k : Str} {Q : Fv → Store → Prop} (h : wp (evE cf a ρ) S fun x S1 => isObj S1 x.d c = true ∧ wp (cf k [x.d]) S1 Q) : wp (evE cf (.prp c k a) ρ) S Q := by
  simp only [evE]
  refine wp_bnd (wp_mD (wp_mono h fun x S1 h1 => ?_))
  obtain ⟨v, S2, e, q⟩ := h1.2
  refine ⟨v, S2, ?_, q⟩
  show (if isObj S1 x.d c = true then bareM (cf k [x.d]) S1 else .bad) = _
  rw [if_pos h1.1]
  unfold bareM
  rw [e]
theorem w_prpV {i n : Nat} {c k : Str} {fs : List (Str × D)} {Q : Fv → Store → Prop} (hv : ρ[i]? = some (some (.ref n))) (hg : S.get n = some (.obj c fs)) (q : wp (cf k [.ref n]) S Q) : wp (evE cf (.prp c k (.var i)) ρ) S Q :=
  w_prp (w_ev (ev_var hv) ⟨isObj_of hg, q⟩)
theorem w_new {c k : Str} {es : Es} {Q : Fv → Store → Prop} (h : wp (evEs cf es ρ) S fun ds S1 => wp (cf k (.ref S1.nx :: ds)) (S1.new (.obj c [])) fun r S2 => r = .fz .non ∧ Q (.fz (.ref S1.nx)) S2) : wp (evE cf (.new c k es) ρ) S Q := by
  simp only [evE]
  refine wp_bnd (wp_mono h fun ds S1 h1 => ?_)
  obtain ⟨v, S2, e, rfl, q⟩ := h1
  refine ⟨.fz (.ref S1.nx), S2, ?_, q⟩
  show M.bnd (cf k (.ref S1.nx :: ds)) _ (S1.new (.obj c [])) = _
  rw [bnd_at e]; rfl
theorem s_sta {o e : E} {f : Str} {cs : List Str} {r : Ss} {Q : Fl × En → Store → Prop} (h : wp (evE cf e ρ) S fun v S1 => wp (evE cf o ρ) S1 fun x S2 => ∃ n c fs, x.d = .ref n ∧ S2.get n = some (.obj c fs) ∧ fs.length < 900 ∧ cs.contains c = true ∧ wp (evSs cf r ρ) (S2.put n (.obj c (putA f v.d fs))) Q) :
    wp (evSs cf (.cons (.sta o f cs e) r) ρ) S Q := by
  refine s_cons ?_
  simp only [evS]
  refine wp_bnd (wp_mD (wp_mono h fun v S1 h1 => wp_bnd (wp_mD (wp_mono h1 fun x S2 h2 => ?_))))
  obtain ⟨n, c, fs, ex, eg, hl, hc, q⟩ := h2
  refine wp_bnd ⟨(), S2.put n (.obj c (putA f v.d fs)), ?_, wp_ret q⟩
  rw [ex]
  unfold staO
  simp only [eg]
  rw [if_pos (by rw [hc, decide_eq_true hl]; rfl)]
/-- an attribute of a name's object -/
theorem s_staV {i n : Nat} {e : E} {c f : Str} {fs : List (Str × D)} {cs : List Str} {r : Ss} {Q : Fl × En → Store → Prop} (hv : ρ[i]? = some (some (.ref n))) (h : wp (evE cf e ρ) S fun v S1 => S1.get n = some (.obj c fs) ∧ fs.length < 900 ∧ cs.contains c = true ∧ wp (evSs cf r ρ) (S1.put n (.obj c (putA f v.d fs))) Q) :
    wp (evSs cf (.cons (.sta (.var i) f cs e) r) ρ) S Q :=
  s_sta (wp_mono h fun v S1 h1 => w_ev (ev_var hv) ⟨n, c, fs, rfl, h1.1, h1.2.1, h1.2.2.1, h1.2.2.2⟩)
theorem s_tri {b r : Ss} {cs ds : List Str} {i j : Nat} {Q : Fl × En → Store → Prop} (h : wp (evSs cf b ρ) S (Nx cf r Q)) : wp (evSs cf (.cons (.tri b cs ds i j) r) ρ) S Q := by
  refine s_cons ?_
  obtain ⟨p, S1, e, q⟩ := h
  refine ⟨p, S1, ?_, q⟩
  simp only [evS, e]
theorem w_ch2 {o p : O2} {a b c : E} {x y : Fv} {t : Bool} {Q : Fv → Store → Prop} (ha : Ev cf ρ a x) (hb : Ev cf ρ b y) (hx : x.d.noRef = true) (hy : y.d.noRef = true) (h : op2 o x.d y.d = some (.fz (.bl t)))
    (hT : t = true → wp (evE cf c ρ) S fun z S1 => ∃ r, op2 p (S1.see y.d) (S1.see z.d) = some r ∧ Q r S1) (hF : t = false → Q (.fz (.bl false)) S) : wp (evE cf (.ch2 o p a b c) ρ) S Q := by
  simp only [evE]
  refine wp_bnd (wp_mD (w_ev ha (wp_bnd (wp_mD (w_ev hb ?_)))))
  show wp (M.bnd (M.opt (op2 o (S.see x.d) (S.see y.d))) _) S Q
  rw [see_noRef hx, see_noRef hy]
  refine wp_bnd (wp_opt h ?_)
  cases t with
  | true =>
    refine wp_bnd (wp_mD (wp_mono (hT rfl) fun z S1 h1 => ?_))
    obtain ⟨r, e, q⟩ := h1
    rw [see_noRef hy] at e
    exact wp_at (by rw [see_noRef hy, e]; rfl) q
  | false => exact wp_ret (hF rfl)
/-- a run that raises -/
def xp {α : Type} (m : M α) (S : Store) (x : Exn) (S' : Store) : Prop := m S = .exc x S'
theorem s_trx {b r : Ss} {cs ds : List Str} {i j : Nat} {x : Exn} {S1 : Store} {Q : Fl × En → Store → Prop} (h : xp (evSs cf b ρ) S x S1) (hb : inB cs ds x.c = some true) (q : wp (evSs cf r (((ρ.set i none).set j (some (.exn x.c x.ns x.xs))).set i none)) S1 Q) : wp (evSs cf (.cons (.tri b cs ds i j) r) ρ) S Q := by
  refine s_cons ⟨(.nx, ((ρ.set i none).set j (some (.exn x.c x.ns x.xs))).set i none), S1, ?_, q⟩
  unfold xp at h
  simp only [evS, h, hb]
theorem xp_bnd {α β : Type} {m : M α} {k : α → M β} {x : Exn} {S' : Store} (h : xp m S x S') : xp (M.bnd m k) S x S' := by
  unfold xp at h ⊢
  unfold M.bnd
  rw [h]
theorem xp_at {α β : Type} {m : M α} {k : α → M β} {a : α} {x : Exn} {S1 S' : Store} (h : m S = .ok a S1) (q : xp (k a) S1 x S') : xp (M.bnd m k) S x S' := by
  unfold xp at q ⊢
  rw [bnd_at h]; exact q
theorem x_cons {s : Pe.S} {r : Ss} {x : Exn} {S' : Store} (h : xp (evS cf s ρ) S x S') : xp (evSs cf (.cons s r) ρ) S x S' := by
  simp only [evSs]
  exact xp_bnd h
theorem x_go {s : Pe.S} {r : Ss} {ρ' : En} {x : Exn} {S1 S' : Store} (h : evS cf s ρ S = .ok (.nx, ρ') S1) (q : xp (evSs cf r ρ') S1 x S') : xp (evSs cf (.cons s r) ρ) S x S' := by
  simp only [evSs]
  exact xp_at h q
theorem x_asg {i : Nat} {e : E} {r : Ss} {x : Exn} {S' : Store} (h : xp (evE cf e ρ) S x S') : xp (evSs cf (.cons (.asg i e) r) ρ) S x S' := by
  refine x_cons ?_
  simp only [evS]
  exact xp_bnd (xp_bnd h)
theorem x_exp {e : E} {r : Ss} {x : Exn} {S' : Store} (h : xp (evE cf e ρ) S x S') : xp (evSs cf (.cons (.exp e) r) ρ) S x S' := by
  refine x_cons ?_
  simp only [evS]
  exact xp_bnd h
theorem x_ret {e : E} {r : Ss} {x : Exn} {S' : Store} (h : xp (evE cf e ρ) S x S') : xp (evSs cf (.cons (.ret e) r) ρ) S x S' := by
  refine x_cons ?_
  simp only [evS]
  exact xp_bnd h
theorem x_rse {c : Str} {r : Ss} : xp (evSs cf (.cons (.rse c [] .nil) r) ρ) S ⟨c, [], []⟩ S := by
  refine x_cons ?_
  simp only [evS, evEs]
  exact xp_at (a := []) rfl rfl
/-- an if whose test changes nothing -/
theorem x_iff {c : E} {a b r : Ss} {x : Exn} {S' : Store} {p : Bool} (hc : wp (evE cf c ρ) S fun v S1 => S1 = S ∧ truthy (S.see v.d) = some p) (hT : p = true → xp (evSs cf a ρ) S x S') (hF : p = false → xp (evSs cf b ρ) S x S') : xp (evSs cf (.cons (.iff c a b) r) ρ) S x S' := by
  refine x_cons ?_
  obtain ⟨v, S1, e, rfl, ht⟩ := hc
  simp only [evS]
  refine xp_at (a := v.d) (by unfold mD; rw [bnd_at e]; rfl) ?_
  show xp (M.bnd (M.opt (truthy (S1.see v.d))) _) S1 x S'
  rw [ht]
  refine xp_at (a := p) rfl ?_
  cases p with
  | true => exact hT rfl
  | false => exact hF rfl
theorem x_call {f : Str} {es : Es} {ds : List D} {x : Exn} {S' : Store} (h : EvEs cf ρ es ds) (q : xp (cf f ds) S x S') : xp (evE cf (.call f es) ρ) S x S' := by
  simp only [evE]
  exact xp_at (h S) q
theorem x_mthV {i n : Nat} {c m k : Str} {es : Es} {ds : List D} {fs : List (Str × D)} {x : Exn} {S' : Store} (hv : ρ[i]? = some (some (.ref n))) (hg : S.get n = some (.obj c fs)) (hm : (fs.lookup m).isNone = true) (h : EvEs cf ρ es ds) (q : xp (cf k (.ref n :: ds)) S x S') : xp (evE cf (.mth c m k (.var i) es) ρ) S x S' := by
  simp only [evE]
  have e := ev_var (cf := cf) hv S
  simp only [evE] at e
  refine xp_at (a := .ref n) (by unfold mD; rw [bnd_at e]; rfl) ?_
  show xp (fun s => if isObjN s (.ref n) c m = true then M.bnd (evEs cf es ρ) (fun ds => cf k (.ref n :: ds)) s else .bad) S x S'
  unfold xp
  simp only [isObjN_of hg hm, if_true]
  exact xp_at (h S) q
theorem x_run {P : Prog} {k : Nat} {f : Str} {d : Def} {ds : List D} {x : Exn} {S' : Store} (hP : P f = some d) (hl : ds.length = d.np) (hp : D.pures ds = false) (hv : D.pures (ds.map S.see) = false)
    (h : xp (evSs (evCall P k) d.body (startE d.nn ds)) S x S') : xp (evCall P (k + 1) f ds) S x S' := by
  unfold xp
  simp only [evCall, hP, hl, if_true, hp, Bool.and_false, Bool.false_eq_true, if_false, viewB, hv]
  unfold runB
  exact xp_bnd h
end
end Pe
set_option Elab.async false
set_option linter.all false
set_option maxRecDepth 100000
set_option maxHeartbeats 1000000
namespace K03
open PySem Pe Fp
local macro_rules | `(tactic| trivial) => `(tactic| first
  | exact ev_var rfl
  | exact ev_cst
  | exact es_nil
  | exact eo_no
  | exact ec_no
  | apply es_cons
  | apply eo_so
  | apply ev_op2
  | apply ev_andC
  | apply ev_orC
  | apply ev_notB
  | apply ev_ch2B
  | apply ev_isi
  | apply ev_tup
  | apply ev_lst
  | apply ev_slc
  | apply ev_rev
  | apply ev_ssr
  | apply ev_blt
  | apply ev_join
  | apply ei_seq
  | apply ei_enm
  | apply ei_r1
  | apply ec_so
  | apply gr_asg
  | apply sp_asg
  | apply sp_exp
  | apply sp_par
  | apply sp_asu
  | apply gr_exp
  | apply gr_ret
  | apply gr_par
  | apply gr_asu
  | exact .inl rfl
  | apply ev_call
  | apply gr_iffF
  | exact gr_nil
  | apply evd_of
  | refine ⟨_, rfl, ?_, fun _ => ?_⟩
  | refine ⟨_, rfl, ?_⟩
  | refine fun _ _ => ⟨_, rfl, ?_, fun _ => ?_⟩
  | refine fun _ _ => ⟨_, rfl, ?_⟩
  | exact leI' _ _ | exact geI' _ _ | exact ltI' _ _ | exact gtI' _ _ | exact eqI _ _ | exact neI _ _
  | (simp only [List.length_cons, List.length_nil]; unfold sizeMax; omega)
  | exact len_lst _ | exact len_tup _ | exact enm_lst _ | exact enm_tup _
  | rfl)
section
variable {cf : Str → List D → M Fv} {ρ : En}
theorem loopF_nx {t : T} {body : En → M (Fl × En)} {x : D} {r : List D} {ρ' ρ2 : En} {S S1 : Store} (hb : bindT t x ρ = some ρ') (h : body ρ' S = .ok (.nx, ρ2) S1) : loopF t body (x :: r) ρ S = loopF t body r ρ2 S1 := by
  rw [loopF, hb]
  rw [bnd_at (show M.opt (some ρ') S = .ok ρ' S from rfl), bnd_at h]
theorem loopF_exc {t : T} {body : En → M (Fl × En)} {x : D} {r : List D} {ρ' : En} {S S1 : Store} {e : Exn} (hb : bindT t x ρ = some ρ') (h : body ρ' S = .exc e S1) : loopF t body (x :: r) ρ S = .exc e S1 := by
  rw [loopF, hb]
  rw [bnd_at (show M.opt (some ρ') S = .ok ρ' S from rfl)]
  exact xp_bnd (m := body ρ') h
theorem x_rseF {c f : Str} {fs : List Str} {es : Es} {ds : List D} {r : Ss} {S : Store} (h : EvEs cf ρ es ds) (hp : D.pures ds = true) (hl : (f :: fs).length = ds.length) : xp (evSs cf (.cons (.rse c (f :: fs) es) r) ρ) S ⟨c, f :: fs, ds⟩ S := by
  refine x_cons ?_
  simp only [evS]
  refine xp_at (h S) ?_
  unfold xp
  simp only [hp, if_true, hl]
  rfl
theorem x_fr {t : T} {it : It} {b r : Ss} {xs : List D} {x : Exn} {S S' : Store} (hi : EvI cf ρ it xs) (h : loopF t (evSs cf b) xs ρ S = .exc x S') : xp (evSs cf (.cons (.fr t it b) r) ρ) S x S' := by
  refine x_cons ?_
  unfold xp
  simp only [evS, evI_cell (hi S), pick]
  rw [bnd_at (hi S)]; exact h
theorem x_if {c : E} {a b r : Ss} {x : Exn} {S S' : Store} {p : Bool} (hc : Ev cf ρ c (.fz (.bl p))) (hT : p = true → xp (evSs cf a ρ) S x S') (hF : p = false → xp (evSs cf b ρ) S x S') : xp (evSs cf (.cons (.iff c a b) r) ρ) S x S' :=
  x_iff (w_ev hc ⟨rfl, rfl⟩) hT hF
end
/-- a pure call that raises -/
theorem f_exc {P : Prog} {m : Nat} {f : Str} {d : Def} {ds : List D} {x : Exn} (hP : P f = some d) (hr : d.raw = false) (hl : ds.length = d.np) (hp : D.pures ds = true) (hx : D.pures x.xs = true)
    (h : ∀ k, m ≤ k → ∃ S', xp (evSs (evCall P k) d.body (startE d.nn ds)) .mt x S') : ∀ k, m + 1 ≤ k → ∀ S, evCall P k f ds S = .exc x S := fun k hk S => by
  obtain ⟨j, rfl⟩ : ∃ j, k = j + 1 := ⟨k - 1, by omega⟩
  obtain ⟨S', e⟩ := h j (by omega)
  simp only [evCall, hP, hl, if_true, hr, hp, Bool.not_false, Bool.and_self]
  unfold pureB
  have e2 : runB (evCall P j) d ds .mt = .exc x S' := xp_bnd e
  rw [e2]
  simp only [hx, if_true]
theorem txt_len (t : List Nat) : (⟨t.toArray⟩ : Str).length = t.length := by
  show t.toArray.size = _
  simp
theorem len_txt {t : List Nat} (h : t.length ≤ 100000) : bfO .len [txt t] = some (.fz (.int (t.length : Int))) := by
  show (if _ then some (Fv.fz (.int _)) else none) = _
  rw [txt_len, if_pos (by unfold sizeMax; omega)]
theorem len_Rw {r : List Bool} (h : r.length ≤ 100000) : bfO .len [encR r] = some (.fz (.int (r.length : Int))) := by
  rw [encR_txt, len_txt (by simpa using h)]; simp
theorem add_txt {a b : List Nat} (h : a.length + b.length ≤ 100000) : op2 .add (txt a) (txt b) = some (.fz (txt (a ++ b))) := by
  show (if _ then some (Fv.fz (.str _)) else none) = _
  rw [txt_len, txt_len, if_pos (by unfold sizeMax; omega)]
  show some (Fv.fz (.str ⟨a.toArray ++ b.toArray⟩)) = _
  simp [txt]
theorem add_R {r : List Bool} {b : Bool} (h : r.length ≤ 99999) : op2 .add (encR r) (encB b) = some (.fz (encR (r ++ [b]))) := by
  have e : encB b = txt [bit b] := rfl
  rw [encR_txt, e, add_txt (by simp; omega), encR_txt]
  simp
theorem chars_txt (t : List Nat) : seqO (txt t) = some (t.map encC) := by
  show some (chars _) = _
  unfold chars
  simp [encC, txt]
def items (k : Nat) (cs : List Nat) : List D := (cs.zipIdx k).map fun p => .tup [.int (p.2 : Int), encC p.1]
theorem enm_txt (t : List Nat) : enmO (txt t) = some (items 0 t) := by
  show (seqO (txt t)).map _ = _
  rw [chars_txt, Option.map_some, List.zipIdx_map, List.map_map]
  rfl
theorem items_cons (k c : Nat) (cs : List Nat) : items k (c :: cs) = .tup [.int (k : Int), encC c] :: items (k + 1) cs := by
  unfold items
  rw [List.zipIdx_cons, List.map_cons]
theorem in01 (c : Nat) : op2 .in_ (encC c) (.str ⟨#[48, 49]⟩) = some (.fz (.bl (decide (c = 48 ∨ c = 49)))) := by
  show some (Fv.fz (.bl (decide (c ∈ [48, 49])))) = _
  simp
theorem eqC (c d : Nat) : op2 .eq (encC c) (.str ⟨#[d]⟩) = some (.fz (.bl (decide (c = d)))) := eq_enc good_C (by decide) c d
theorem neC (c d : Nat) : op2 .ne (encC c) (.str ⟨#[d]⟩) = some (.fz (.bl (!decide (c = d)))) := ne_enc good_C (by decide) c d
theorem neE (r : List Bool) : op2 .ne (encR r) (.str ⟨#[]⟩) = some (.fz (.bl (!decide (r = [])))) := by
  have := ne_enc (inst := inferInstance) good_R (by decide) r []
  exact this
theorem eqE (r : List Bool) : op2 .eq (encR r) (.str ⟨#[]⟩) = some (.fz (.bl (decide (r = [])))) := by
  have := eq_enc (inst := inferInstance) good_R (by decide) r []
  exact this
def sText : Str := ⟨#[73, 110, 118, 97, 108, 105, 100, 84, 101, 120, 116]⟩
def sWeb : Str := ⟨#[73, 110, 118, 97, 108, 105, 100, 87, 101, 98]⟩
def fAt : Str := ⟨#[97, 116]⟩
def bodyR : Ss := match c_read_web.body with
  | .cons _ (.cons _ (.cons (.fr _ _ b) _)) => b
  | _ => .nil
section
variable {P : Prog}
local macro_rules | `(tactic| trivial) => `(tactic| first
  | exact in01 _ | exact eqC _ _ | exact neC _ _ | exact neE _ | exact eqE _ | exact enm_txt _ | exact len_txt (by omega))
def envR (t : List Nat) (rows : Web) (row : List Bool) (a b : Option D) : En := [some (txt t), none, some (.lst (rows.map encR)), some (encR row), a, b]
theorem stepR {k : Nat} {t : List Nat} {rows : Web} {row : List Bool} {at_ c : Nat} {S : Store} (hw : wt rows row ≤ 50000) :
    evSs (evCall P k) bodyR (envR t rows row (some (.int (at_ : Int))) (some (encC c))) S =
      if c = 48 then .ok (.nx, envR t rows (row ++ [false]) (some (.int (at_ : Int))) (some (encC c))) S
      else if c = 49 then .ok (.nx, envR t rows (row ++ [true]) (some (.int (at_ : Int))) (some (encC c))) S
      else if c = 47 ∧ row ≠ [] then .ok (.nx, envR t (rows ++ [row]) [] (some (.int (at_ : Int))) (some (encC c))) S
      else if c = 32 then .ok (.nx, envR t rows row (some (.int (at_ : Int))) (some (encC c))) S
      else .exc ⟨sText, [fAt], [.int (at_ : Int)]⟩ S := by
  have hrow : row.length ≤ 50000 := by unfold wt at hw; omega
  have hrows : rows.length ≤ 50000 := by unfold wt at hw; omega
  have c1 : Ev (evCall P k) (envR t rows row (some (.int (at_ : Int))) (some (encC c))) (.op2 .in_ (.var 5) (.cst (.str ⟨#[48, 49]⟩))) (.fz (.bl (decide (c = 48 ∨ c = 49)))) := ev_op2 (ev_var rfl) ev_cst rfl rfl (in01 c)
  have c2 : Ev (evCall P k) (envR t rows row (some (.int (at_ : Int))) (some (encC c))) (.and (.op2 .eq (.var 5) (.cst (.str ⟨#[47]⟩))) (.op2 .ne (.var 3) (.cst (.str ⟨#[]⟩)))) (.fz (.bl (decide (c = 47) && !decide (row = [])))) :=
    ev_andC (ev_op2 (ev_var rfl) ev_cst rfl rfl (eqC c 47)) (ev_op2 (x := .fz (encR row)) (ev_var rfl) ev_cst rfl rfl (neE row))
  have c3 : Ev (evCall P k) (envR t rows row (some (.int (at_ : Int))) (some (encC c))) (.op2 .ne (.var 5) (.cst (.str ⟨#[32]⟩))) (.fz (.bl (!decide (c = 32)))) := ev_op2 (ev_var rfl) ev_cst rfl rfl (neC c 32)
  by_cases h1 : c = 48
  · subst h1
    rw [if_pos rfl]
    exact (go_nx (g_iff (t := true) c1 rfl rfl (fun _ => go_nx (g_asg (v := .fz (encR (row ++ [false]))) (ev_op2 (x := .fz (encR row)) (y := .fz (encB false)) (ev_var rfl) (ev_var rfl) rfl rfl (add_R (by omega)))) go_nil) (fun h => by cases h)) go_nil).at_ S
  rw [if_neg h1]
  by_cases h2 : c = 49
  · subst h2
    rw [if_pos rfl]
    exact (go_nx (g_iff (t := true) c1 rfl rfl (fun _ => go_nx (g_asg (v := .fz (encR (row ++ [true]))) (ev_op2 (x := .fz (encR row)) (y := .fz (encB true)) (ev_var rfl) (ev_var rfl) rfl rfl (add_R (by omega)))) go_nil) (fun h => by cases h)) go_nil).at_ S
  rw [if_neg h2]
  have f1 : decide (c = 48 ∨ c = 49) = false := by simp [h1, h2]
  rw [f1] at c1
  by_cases h3 : c = 47 ∧ row ≠ []
  · rw [if_pos h3]
    have f2 : (decide (c = 47) && !decide (row = [])) = true := by simp [h3]
    rw [f2] at c2
    have hl : EvEs (evCall P k) (envR t rows row (some (.int (at_ : Int))) (some (encC c))) (.cons false (.lst (.cons true (.var 2) (.cons false (.var 3) .nil))) (.cons false (.cst (.str ⟨#[]⟩)) .nil)) [.lst ((rows ++ [row]).map encR), .str ⟨#[]⟩] := by
      refine es_cons (v := .nw ((rows ++ [row]).map encR)) ?_ (es_cons ev_cst es_nil)
      have := ev_lst (es_star (v := .fz (.lst (rows.map encR))) (xs := rows.map encR) (ev_var (cf := evCall P k) (ρ := envR t rows row (some (.int (at_ : Int))) (some (encC c))) (i := 2) rfl) (.inl rfl) (es_cons (ev_var (i := 3) (d := encR row) rfl) es_nil)) (by simp; unfold sizeMax; omega)
      have e : (rows ++ [row]).map encR = rows.map encR ++ [encR row] := by simp
      rw [e]
      exact this
    exact (go_nx (g_iff (t := false) c1 rfl rfl (fun h => by cases h) (fun _ => go_nx (g_iff (t := true) c2 rfl rfl (fun _ => go_nx (g_par hl rfl) go_nil) (fun h => by cases h)) go_nil)) go_nil).at_ S
  rw [if_neg h3]
  have f2 : (decide (c = 47) && !decide (row = [])) = false := by
    simp only [Bool.and_eq_false_imp, decide_eq_true_eq, Bool.not_eq_false', ne_eq, not_and, Decidable.not_not] at h3 ⊢
    exact h3
  rw [f2] at c2
  by_cases h4 : c = 32
  · subst h4
    rw [if_pos rfl]
    exact (go_nx (g_iff (t := false) c1 rfl rfl (fun h => by cases h) (fun _ => go_nx (g_iff (t := false) c2 rfl rfl (fun h => by cases h) (fun _ => go_nx (g_iff (t := false) c3 rfl rfl (fun h => by cases h) (fun _ => go_nil)) go_nil)) go_nil)) go_nil).at_ S
  · rw [if_neg h4]
    have f3 : (!decide (c = 32)) = true := by simp [h4]
    rw [f3] at c3
    exact x_if (p := false) c1 (fun h => by cases h) fun _ => x_if (p := false) c2 (fun h => by cases h) fun _ => x_if (p := true) c3 (fun _ => x_rseF (es_cons (v := .fz (.int (at_ : Int))) (ev_var rfl) es_nil) rfl rfl) fun h => by cases h
theorem loopR {k : Nat} {t : List Nat} {S : Store} : ∀ (cs : List Nat) (at_ : Nat) (rows : Web) (row : List Bool) (a b : Option D), wt rows row + cs.length ≤ 50000 →
    match scan at_ rows row cs with
    | .inl j => loopF (.tp [4, 5]) (evSs (evCall P k) bodyR) (items at_ cs) (envR t rows row a b) S = .exc ⟨sText, [fAt], [.int (j : Int)]⟩ S
    | .inr (rows', row') => ∃ a' b', loopF (.tp [4, 5]) (evSs (evCall P k) bodyR) (items at_ cs) (envR t rows row a b) S = .ok (.nx, envR t rows' row' a' b') S
  | [], at_, rows, row, a, b, hw => ⟨a, b, rfl⟩
  | c :: cs, at_, rows, row, a, b, hw => by
    have hw1 : wt rows row ≤ 50000 := by omega
    have e1 : ∀ b, wt rows (row ++ [b]) = wt rows row + 1 := fun b => by simp [wt]; omega
    have e2 : wt (rows ++ [row]) [] = wt rows row + 1 := by simp [wt]; omega
    simp only [List.length_cons] at hw
    have st := stepR (P := P) (k := k) (t := t) (rows := rows) (row := row) (at_ := at_) (c := c) (S := S) hw1
    have hb : bindT (.tp [4, 5]) (.tup [.int (at_ : Int), encC c]) (envR t rows row a b) = some (envR t rows row (some (.int (at_ : Int))) (some (encC c))) := rfl
    rw [items_cons, scan]
    by_cases h1 : c = 48
    · rw [if_pos h1] at st ⊢
      rw [loopF_nx hb st]
      exact loopR cs (at_ + 1) rows (row ++ [false]) _ _ (by rw [e1]; omega)
    rw [if_neg h1] at st ⊢
    by_cases h2 : c = 49
    · rw [if_pos h2] at st ⊢
      rw [loopF_nx hb st]
      exact loopR cs (at_ + 1) rows (row ++ [true]) _ _ (by rw [e1]; omega)
    rw [if_neg h2] at st ⊢
    by_cases h3 : c = 47 ∧ row ≠ []
    · rw [if_pos h3] at st ⊢
      rw [loopF_nx hb st]
      exact loopR cs (at_ + 1) (rows ++ [row]) [] _ _ (by rw [e2]; omega)
    rw [if_neg h3] at st ⊢
    by_cases h4 : c = 32
    · rw [if_pos h4] at st ⊢
      rw [loopF_nx hb st]
      exact loopR cs (at_ + 1) rows row _ _ (by omega)
    rw [if_neg h4] at st ⊢
    exact loopF_exc hb st
end
end K03
set_option Elab.async false
set_option linter.all false
set_option maxRecDepth 100000
set_option maxHeartbeats 1000000
namespace K03
open PySem Pe Fp
local macro_rules | `(tactic| trivial) => `(tactic| first
  | exact ev_var rfl
  | exact ev_cst
  | exact es_nil
  | exact eo_no
  | exact ec_no
  | apply es_cons
  | apply eo_so
  | apply ev_op2
  | apply ev_andC
  | apply ev_orC
  | apply ev_notB
  | apply ev_ch2B
  | apply ev_isi
  | apply ev_tup
  | apply ev_lst
  | apply ev_slc
  | apply ev_rev
  | apply ev_ssr
  | apply ev_blt
  | apply ev_join
  | apply ei_seq
  | apply ei_enm
  | apply ei_r1
  | apply ec_so
  | apply gr_asg
  | apply sp_asg
  | apply sp_exp
  | apply sp_par
  | apply sp_asu
  | apply gr_exp
  | apply gr_ret
  | apply gr_par
  | apply gr_asu
  | exact .inl rfl
  | apply ev_call
  | apply gr_iffF
  | exact gr_nil
  | apply evd_of
  | refine ⟨_, rfl, ?_, fun _ => ?_⟩
  | refine ⟨_, rfl, ?_⟩
  | refine fun _ _ => ⟨_, rfl, ?_, fun _ => ?_⟩
  | refine fun _ _ => ⟨_, rfl, ?_⟩
  | exact leI' _ _ | exact geI' _ _ | exact ltI' _ _ | exact gtI' _ _ | exact eqI _ _ | exact neI _ _
  | (simp only [List.length_cons, List.length_nil]; unfold sizeMax; omega)
  | exact len_lst _ | exact len_tup _ | exact enm_lst _ | exact enm_tup _
  | rfl)
local macro_rules | `(tactic| trivial) => `(tactic| first
  | (with_reducible refine rng_nat ?_; omega)
  | exact chars_R _ | exact enm_R _ | exact in_01 _ | exact bit_eq _ | exact all_map _ _ | exact any_map _ _
  | exact len_R (by omega)
  | exact ix_row0 (by assumption)
  | exact ixT (n := 0) rfl | exact ixT (n := 1) rfl
  | exact Fn.at (by assumption) (by omega)
  | (unfold sizeMax; omega))
section
variable {P : Prog}
local macro_rules | `(tactic| trivial) => `(tactic| first
  | exact len_Rw (by omega))
theorem g_is_row (H : HasWeb P) {r : List Bool} {n : Nat} (hr : r.length ≤ 100000) : Fn P 1 s_is_row [encR r, .int n, .str ⟨#[48, 49]⟩] (.fz (.bl (decide (r.length = n)))) := by
  refine fn_of H.is_row rfl rfl rfl rfl fun k hk => ?_
  refine bl_eq (p := true && (decide ((r.length : Int) = n) && r.all fun _ => true)) (by simp [Int.ofNat_inj]) ?_
  repeat' trivial
  apply ev_lcM (enc := encB) (xs := r) (g := fun _ => .bl true)
  repeat' trivial
theorem ix_row00 {w : Web} (h : w ≠ []) : op2 .ix (encW w) (.int 0) = some (.fz (encR (w.getD 0 []))) := ixTm (n := 0) (getD_some (List.length_pos_iff.mpr h))
theorem len_W (w : Web) : bfO .len [encW w] = some (.fz (.int (w.length : Int))) := len_tup w
theorem g_is_web_of (H : HasWeb P) {w : Web} (h0 : w ≠ []) (h1 : ∀ r ∈ w, r ≠ []) (h2 : ∀ r ∈ w, r.length ≤ 100000) : Fn P 2 s_is_web_of [encW w, .str ⟨#[48, 49]⟩] (.fz (.bl (isW w))) := by
  refine fn_of H.is_web_of rfl rfl (by simp [D.pures, pure_W, D.pure]) rfl fun k hk => ?_
  have hm : w.getD 0 [] ∈ w := by
    cases w with
    | nil => exact absurd rfl h0
    | cons r w => exact List.mem_cons_self
  have l0 := h2 _ hm
  have l1 : 0 < (w.getD 0 []).length := List.length_pos_iff.mpr (h1 _ hm)
  have l2 : 0 < w.length := List.length_pos_iff.mpr h0
  have cA : ∀ (ρ : En), ρ = [some (encW w), some (.str ⟨#[48, 49]⟩), none] → Ev (evCall P k) ρ (.or (.op1 .not (.isi (.var 0) .tup)) (.op1 .not (.ch2 .le .le (.cst (.int 1)) (.blt .len (.cons false (.var 0) .nil)) (.cst (.int 6))))) (.fz (.bl (!decide (w.length ≤ 6)))) := fun ρ e => by
    subst e
    have := ev_orC (cf := evCall P k) (ρ := [some (encW w), some (.str ⟨#[48, 49]⟩), none]) (ev_notB (ev_isi (t := .tup) (b := true) (ev_var (i := 0) rfl) rfl rfl)) (ev_notB (ev_ch2B (ev_cst (d := .int 1)) (ev_blt (es_cons (ev_var (i := 0) rfl) es_nil) rfl (len_W w)) (ev_cst (d := .int 6)) rfl rfl rfl (leI' _ _) (leI' _ _)))
    have e : (!true || !(decide ((1 : Int) ≤ (w.length : Int)) && decide ((w.length : Int) ≤ 6))) = !decide (w.length ≤ 6) := by
      have : decide ((1 : Int) ≤ (w.length : Int)) = true := decide_eq_true (by omega)
      rw [this]
      have : decide ((w.length : Int) ≤ 6) = decide (w.length ≤ 6) := by apply decide_eq_decide.mpr; omega
      rw [this]; simp
    rw [e] at this
    exact this
  have cB : Ev (evCall P k) [some (encW w), some (.str ⟨#[48, 49]⟩), none] (.or (.op1 .not (.isi (.op2 .ix (.var 0) (.cst (.int 0))) .str)) (.op1 .not (.ch2 .le .le (.cst (.int 1)) (.blt .len (.cons false (.op2 .ix (.var 0) (.cst (.int 0))) .nil)) (.cst (.int 6))))) (.fz (.bl (!decide ((w.getD 0 []).length ≤ 6)))) := by
    have ix : Ev (evCall P k) [some (encW w), some (.str ⟨#[48, 49]⟩), none] (.op2 .ix (.var 0) (.cst (.int 0))) (.fz (encR (w.getD 0 []))) := ev_op2 (ev_var rfl) ev_cst rfl rfl (ix_row00 h0)
    have := ev_orC (ev_notB (ev_isi (t := .str) (b := true) ix rfl rfl)) (ev_notB (ev_ch2B (ev_cst (d := .int 1)) (ev_blt (es_cons ix es_nil) rfl (len_Rw l0)) (ev_cst (d := .int 6)) rfl rfl rfl (leI' _ _) (leI' _ _)))
    have e : (!true || !(decide ((1 : Int) ≤ ((w.getD 0 []).length : Int)) && decide (((w.getD 0 []).length : Int) ≤ 6))) = !decide ((w.getD 0 []).length ≤ 6) := by
      have : decide ((1 : Int) ≤ ((w.getD 0 []).length : Int)) = true := decide_eq_true (by omega)
      rw [this]
      have : decide (((w.getD 0 []).length : Int) ≤ 6) = decide ((w.getD 0 []).length ≤ 6) := by apply decide_eq_decide.mpr; omega
      rw [this]; simp
    rw [e] at this
    exact this
  by_cases a1 : w.length ≤ 6
  · refine gr_iffF (cA _ rfl) (by rw [decide_eq_true a1]; rfl) ?_
    by_cases a2 : (w.getD 0 []).length ≤ 6
    · refine gr_iffF cB (by rw [decide_eq_true a2]; rfl) ?_
      refine bl_eq (p := w.all fun r => decide (r.length = (w.getD 0 []).length)) (by unfold isW; rw [decide_eq_true a1, decide_eq_true a2]; rfl) ?_
      refine gr_ret ?_
      refine ev_blt (es_cons (v := .nw (w.map fun r : List Bool => D.bl (decide (r.length = (w.getD 0 []).length)))) ?_ es_nil) rfl (all_map (fun r : List Bool => decide (r.length = (w.getD 0 []).length)) w)
      apply ev_lcM (enc := encR) (xs := w) (g := fun r : List Bool => D.bl (decide (r.length = (w.getD 0 []).length)))
      · exact ei_seq (ev_var rfl) rfl
      · refine fun r hr => ⟨_, rfl, ?_⟩
        apply evd_of
        · apply ev_call
          · refine es_cons (ev_var rfl) (es_cons (v := .fz (.int ((w.getD 0 []).length : Int))) (ev_blt (es_cons (v := .fz (encR (w.getD 0 []))) (ev_op2 (ev_var rfl) ev_cst rfl rfl (ix_row00 h0)) es_nil) rfl (len_Rw l0)) (es_cons (ev_var rfl) es_nil))
          · exact (g_is_row H (n := (w.getD 0 []).length) (h2 r hr)).at hk
        · rfl
      · unfold sizeMax; omega
    · refine gr_iffT cB (by rw [decide_eq_false a2]; rfl) ?_
      refine bl_eq (p := false) (by unfold isW; rw [decide_eq_false a2]; simp) (gr_ret ev_cst)
  · refine gr_iffT (cA _ rfl) (by rw [decide_eq_false a1]; rfl) ?_
    refine bl_eq (p := false) (by unfold isW; rw [decide_eq_false a1]; simp) (gr_ret ev_cst)
theorem g_is_web (H : HasWeb P) {w : Web} (h0 : w ≠ []) (h1 : ∀ r ∈ w, r ≠ []) (h2 : ∀ r ∈ w, r.length ≤ 100000) : Fn P 3 s_is_web [encW w] (.fz (.bl (isW w))) := by
  refine fn_of H.is_web rfl rfl (by simp [D.pures, pure_W, D.pure]) rfl fun k hk => ?_
  have q := g_is_web_of H h0 h1 h2
  repeat' trivial
end
end K03
set_option Elab.async false
set_option linter.all false
set_option maxRecDepth 100000
set_option maxHeartbeats 1000000
namespace K03
open PySem Pe Fp
theorem Has.web {P : Prog} (H : Has P) : HasWeb P := ⟨H.is_row, H.is_web_of, H.is_web, H.check_web⟩
theorem Has.drw {P : Prog} (H : Has P) : HasDraw P := ⟨H.law_source, H.law_draw, H.law_pick⟩
section
variable {P : Prog}
theorem mem_sum {x : Nat} : ∀ {l : List Nat}, x ∈ l → x ≤ l.sum
  | y :: l, h => by
    rw [List.sum_cons]
    rcases List.mem_cons.mp h with rfl | h
    · omega
    · have := mem_sum h; omega
theorem row_wt {rows : Web} {row : List Bool} {n : Nat} (h : wt rows row ≤ n) : ∀ r ∈ rows ++ [row], r.length ≤ n := by
  intro r hr
  unfold wt at h
  rcases List.mem_append.mp hr with q | q
  · have : r.length ≤ (rows.map List.length).sum := mem_sum (List.mem_map_of_mem q)
    omega
  · rcases List.mem_singleton.mp q with rfl
    omega
def outR (r : Res) (S : Store) : R Fv := match r with
  | .wrong j => .exc ⟨sText, [fAt], [.int (j : Int)]⟩ S
  | .web => .exc ⟨sWeb, [], []⟩ S
  | .good w => .ok (.fz (encW w)) S
theorem read_web_ok (H : Has P) {t : List Nat} (ht : t.length ≤ 40000) : ∀ k, 5 ≤ k → ∀ S, evCall P k s_read_web [txt t] S = outR (rd t) S := by
  have L := fun (k : Nat) (S : Store) => loopR (P := P) (k := k) (t := t) (S := S) t 0 [] [] none none (by simp [wt]; omega)
  have b1 : ∀ k, Go1 (evCall P k) (startE 6 [txt t]) (.iff (.op1 .not (.isi (.var 0) .str)) (.cons (.rse sText [fAt] (.cons false (.cst (.int 0)) .nil)) .nil) .nil) .nx (startE 6 [txt t]) := fun k =>
    g_iff (t := false) (ev_notB (p := true) (ev_isi (ev_var rfl) rfl rfl)) rfl rfl (fun h => by cases h) fun _ => go_nil
  have b2 : ∀ k, Go1 (evCall P k) (startE 6 [txt t]) (.par [2, 3] (.cons false (.lst .nil) (.cons false (.cst (.str ⟨#[]⟩)) .nil))) .nx (envR t [] [] none none) := fun k =>
    g_par (ds := [.lst [], .str ⟨#[]⟩]) (es_cons (v := .nw []) (ev_lst es_nil (by decide)) (es_cons ev_cst es_nil)) rfl
  have b3 : ∀ k, EvI (evCall P k) (envR t [] [] none none) (.enm (.var 0)) (items 0 t) := fun k => ei_enm (v := .fz (txt t)) (ev_var rfl) (enm_txt t)
  unfold rd
  cases e : scan 0 [] [] t with
  | inl j =>
    rw [e] at L
    exact f_exc (m := 4) H.read_web rfl rfl rfl rfl fun k _ => ⟨.mt, x_go ((b1 k).at_ _) (x_go ((b2 k).at_ _) (x_fr (b3 k) (L k _)))⟩
  | inr a =>
    obtain ⟨rows, row⟩ := a
    rw [e] at L
    have hw := scan_wt e
    have hrows := scan_rows e (fun r hr => by cases hr)
    have hw' : wt rows row ≤ 40000 := by
      have e0 : wt [] [] = 0 := rfl
      omega
    have L' : ∀ k S, ∃ a' b', loopF (.tp [4, 5]) (evSs (evCall P k) bodyR) (items 0 t) (envR t [] [] none none) S = .ok (.nx, envR t rows row a' b') S := L
    have c4 : ∀ k a' b', Ev (evCall P k) (envR t rows row a' b') (.op2 .eq (.var 3) (.cst (.str ⟨#[]⟩))) (.fz (.bl (decide (row = [])))) := fun k a' b' => ev_op2 (x := .fz (encR row)) (ev_var rfl) ev_cst rfl rfl (eqE row)
    have b3' : ∀ k S, ∃ a' b', evS (evCall P k) (.fr (.tp [4, 5]) (.enm (.var 0)) bodyR) (envR t [] [] none none) S = .ok (.nx, envR t rows row a' b') S := fun k S => by
      obtain ⟨a', b', q⟩ := L' k S
      refine ⟨a', b', ?_⟩
      simp only [evS, evI_cell ((b3 k) S), pick]
      rw [bnd_at ((b3 k) S)]; exact q
    show ∀ k, 5 ≤ k → ∀ S, _ = outR (if row = [] then Res.wrong t.length else if isW (rows ++ [row]) = true then Res.good (rows ++ [row]) else Res.web) S
    by_cases hr : row = []
    · rw [if_pos hr]
      refine f_exc (m := 4) H.read_web rfl rfl rfl rfl fun k _ => ?_
      obtain ⟨a', b', q⟩ := b3' k .mt
      exact ⟨.mt, x_go ((b1 k).at_ _) (x_go ((b2 k).at_ _) (x_go q (x_if (p := true) (by have := c4 k a' b'; rw [decide_eq_true hr] at this; exact this) (fun _ => x_rseF (es_cons (v := .fz (.int (t.length : Int))) (ev_blt (es_cons (v := .fz (txt t)) (ev_var rfl) es_nil) rfl (len_txt (by omega))) es_nil) rfl rfl) fun h => by cases h)))⟩
    · rw [if_neg hr]
      have h0 : rows ++ [row] ≠ [] := by simp
      have h1 : ∀ r ∈ rows ++ [row], r ≠ [] := fun r hm => by
        rcases List.mem_append.mp hm with q | q
        · exact hrows r q
        · rcases List.mem_singleton.mp q with rfl
          exact hr
      have h2 : ∀ r ∈ rows ++ [row], r.length ≤ 100000 := fun r hm => Nat.le_trans (row_wt hw' r hm) (by omega)
      have W := g_is_web H.web h0 h1 h2
      have b4 : ∀ k a' b', Go1 (evCall P k) (envR t rows row a' b') (.iff (.op2 .eq (.var 3) (.cst (.str ⟨#[]⟩))) (.cons (.rse sText [fAt] (.cons false (.blt .len (.cons false (.var 0) .nil)) .nil)) .nil) .nil) .nx (envR t rows row a' b') := fun k a' b' =>
        g_iff (t := false) (by have := c4 k a' b'; rw [decide_eq_false hr] at this; exact this) rfl rfl (fun h => by cases h) fun _ => go_nil
      have b5 : ∀ k a' b', Go1 (evCall P k) (envR t rows row a' b') (.asg 1 (.blt .tup (.cons false (.lst (.cons true (.var 2) (.cons false (.var 3) .nil))) .nil))) .nx [some (txt t), some (encW (rows ++ [row])), some (.lst (rows.map encR)), some (encR row), a', b'] := fun k a' b' => by
        have hl : Ev (evCall P k) (envR t rows row a' b') (.lst (.cons true (.var 2) (.cons false (.var 3) .nil))) (.nw ((rows ++ [row]).map encR)) := by
          have q := ev_lst (es_star (v := .fz (.lst (rows.map encR))) (xs := rows.map encR) (ev_var (cf := evCall P k) (ρ := envR t rows row a' b') (i := 2) rfl) (.inl rfl) (es_cons (ev_var (i := 3) (d := encR row) rfl) es_nil)) (by
            have : rows.length ≤ 40000 := by unfold wt at hw'; omega
            simp; unfold sizeMax; omega)
          have e : (rows ++ [row]).map encR = rows.map encR ++ [encR row] := by simp
          rw [e]; exact q
        exact g_asg (v := .fz (encW (rows ++ [row]))) (ev_blt (es_cons hl es_nil) rfl rfl)
      have c6 : ∀ k, 4 ≤ k → ∀ a' b', Ev (evCall P k) [some (txt t), some (encW (rows ++ [row])), some (.lst (rows.map encR)), some (encR row), a', b'] (.op1 .not (.call s_is_web (.cons false (.var 1) .nil))) (.fz (.bl (!isW (rows ++ [row])))) := fun k hk a' b' =>
        ev_notB (ev_call (es_cons (v := .fz (encW (rows ++ [row]))) (ev_var rfl) es_nil) (W.at (by omega)))
      cases hi : isW (rows ++ [row]) with
      | true =>
        rw [hi] at c6
        have F : Fn P 5 s_read_web [txt t] (.fz (encW (rows ++ [row]))) := by
          refine fn_wp H.read_web rfl rfl rfl (pure_W _) fun k hk => ?_
          obtain ⟨a', b', q⟩ := b3' k .mt
          refine s_go (b1 k) (s_go (b2 k) (s_cons ⟨_, _, q, ?_⟩))
          refine s_go (b4 k a' b') (s_go (b5 k a' b') (sp_iffF (c6 k hk a' b') rfl ?_))
          exact sp_ret (v := .fz (encW (rows ++ [row]))) (ev_var rfl) rfl
        intro k hk S
        exact (F.at hk).at_ S
      | false =>
        rw [hi] at c6
        refine f_exc (m := 4) H.read_web rfl rfl rfl rfl fun k hk => ?_
        obtain ⟨a', b', q⟩ := b3' k .mt
        exact ⟨.mt, x_go ((b1 k).at_ _) (x_go ((b2 k).at_ _) (x_go q (x_go ((b4 k a' b').at_ _) (x_go ((b5 k a' b').at_ _) (x_if (p := true) (c6 k hk a' b') (fun _ => x_rse) fun h => by cases h)))))⟩
def restL : Ss := match c_law_read.body with
  | .cons _ (.cons _ (.cons _ r)) => r
  | _ => .nil
def outV (r : R (Fl × En)) : Option (Fv × Store) := match r with
  | .ok (.rt v, _) s => some (v, s)
  | _ => none
theorem wp_out {m : M (Fl × En)} {S S1 : Store} {v : Fv} {Q : Fl × En → Store → Prop} (h : outV (m S) = some (v, S1)) (q : ∀ ρ, Q (.rt v, ρ) S1) : wp m S Q := by
  generalize e : m S = out at h
  unfold outV at h
  split at h
  · cases h
    exact wp_at e (q _)
  · cases h
theorem rest_wrong (cf : Str → List D → M Fv) (x : D) (j : Int) (S : Store) : outV (evSs cf restL [some x, some (.exn sText [fAt] [.int j]), some .non, none, none] S) = some (.nw [.str ⟨#[119, 114, 111, 110, 103]⟩, .int j], S) := by kernel_rfl
theorem rest_web (cf : Str → List D → M Fv) (x : D) (S : Store) : outV (evSs cf restL [some x, some (.exn sWeb [] []), some .non, none, none] S) = some (.nw [.str ⟨#[119, 101, 98]⟩, .non], S) := by kernel_rfl
theorem rest_good (cf : Str → List D → M Fv) (x w : D) (S : Store) : outV (evSs cf restL [some x, some .non, some w, none, none] S) = some (.nw [.str ⟨#[103, 111, 111, 100]⟩, w], S) := by kernel_rfl
theorem f_law_read (H : Has P) {t : List Nat} (ht : t.length ≤ 40000) : Fn P 6 s_law_read [txt t] (.nw (rd t).d) := by
  have R := read_web_ok H ht
  refine fn_wp H.law_read rfl rfl rfl ?_ fun k hk => ?_
  · cases rd t <;> first | rfl | (simp [Res.d, Fv.d, D.pure, D.pures, pure_W])
  refine sp_asg ev_cst (sp_asg ev_cst ?_)
  have hx : ∀ x : Exn, (∀ S, evCall P k s_read_web [txt t] S = .exc x S) → xp (evSs (evCall P k) (.cons (.asg 2 (.call s_read_web (.cons false (.var 0) .nil))) .nil) [some (txt t), some .non, some .non, none, none]) .mt x .mt := fun x hx =>
    x_asg (x_call (ds := [txt t]) (es_cons (v := .fz (txt t)) (ev_var rfl) es_nil) (hx _))
  cases hr : rd t with
  | wrong j =>
    rw [hr] at R
    refine s_trx (hx _ fun S => R k (by omega) S) (by kernel_rfl) ?_
    exact wp_out (rest_wrong _ _ _ _) fun ρ => rfl
  | web =>
    rw [hr] at R
    refine s_trx (hx _ fun S => R k (by omega) S) (by kernel_rfl) ?_
    exact wp_out (rest_web _ _ _) fun ρ => rfl
  | good w =>
    rw [hr] at R
    refine s_tri ?_
    refine sp_asg (v := .fz (encW w)) (ev_call (ds := [txt t]) (es_cons (v := .fz (txt t)) (ev_var rfl) es_nil) (.of fun S => R k (by omega) S)) ?_
    refine s_nil ?_
    exact wp_out (rest_good _ _ _ _) fun ρ => rfl
end
end K03
set_option Elab.async false
set_option linter.all false
set_option maxRecDepth 100000
set_option maxHeartbeats 1000000
namespace K03
open PySem Pe Fp
section
variable {cf : Str → List D → M Fv} {ρ : En}
theorem wl_nil {t : T} {body : En → M (Fl × En)} {S : Store} {Q : Fl × En → Store → Prop} (q : Q (.nx, ρ) S) : wp (loopF t body [] ρ) S Q := wp_ret q
theorem wl_cons {t : T} {body : En → M (Fl × En)} {x : D} {r : List D} {ρ' : En} {S : Store} {Q : Fl × En → Store → Prop} (hb : bindT t x ρ = some ρ')
    (h : wp (body ρ') S fun p S1 => match p.1 with
      | .nx => wp (loopF t body r p.2) S1 Q
      | .rt v => Q (.rt v, p.2) S1) : wp (loopF t body (x :: r) ρ) S Q := by
  rw [loopF, hb]
  refine wp_bnd (wp_ret (wp_bnd (wp_mono h fun p S1 h1 => ?_)))
  obtain ⟨f, ρ2⟩ := p
  cases f with
  | nx => exact h1
  | rt v => exact wp_ret h1
end
theorem ixN_last {n : Nat} : L2.ixN (n + 1) (-1) = some n := by
  unfold L2.ixN
  rw [if_neg (by omega), if_pos (by omega)]
  congr 1
  omega
theorem ix_last {rows : Web} {row : List Bool} : op2 .ix (.lst ((rows ++ [row]).map encR)) (.int (-1)) = some (.fz (encR row)) := by
  show (L2.atI _ _).map Fv.fz = _
  unfold L2.atI
  rw [show ((rows ++ [row]).map encR).length = rows.length + 1 by simp, ixN_last]
  simp
theorem set_last {rows : Web} {row row' : List Bool} : ((rows ++ [row]).map encR).set rows.length (encR row') = (rows ++ [row']).map encR := by
  simp [List.set_append]
theorem ix_txt {t : List Nat} {i c : Nat} (ht : t.length ≤ 100000) (h : t[i]? = some c) : op2 .ix (txt t) (.int (i : Nat)) = some (.fz (encC c)) := by
  show (if (⟨t.toArray⟩ : Str).length ≤ sizeMax then (L2.atI (⟨t.toArray⟩ : Str).cps.toList (i : Int)).map (fun c => Fv.fz (.str ⟨#[c]⟩)) else none) = _
  rw [txt_len, if_pos (by unfold sizeMax; omega), L2.atI_nat (v := c) (by simpa using h)]
  rfl
theorem in_01L (c : Nat) : op2 .in_ (encC c) (.lst [.str ⟨#[48]⟩, .str ⟨#[49]⟩]) = some (.fz (.bl (decide (c = 48 ∨ c = 49)))) := by
  have := in_lst (inst := inferInstance) good_C (by decide) c [48, 49]
  have e : ([48, 49].map encC) = [.str ⟨#[48]⟩, .str ⟨#[49]⟩] := rfl
  rw [e] at this
  rw [this]
  simp
def bodyD : Ss := match c_law_due.body with
  | .cons _ (.cons _ (.cons (.fr _ _ b) _)) => b
  | _ => .nil
def envD (t : List Nat) (a s : Option D) : En := [some (txt t), some (.ref 0), a, none, s, none]
section
variable {P : Prog}
theorem loopD {k : Nat} {t : List Nat} (ht : t.length ≤ 40000) {Q : Fl × En → Store → Prop} : ∀ (cs : List Nat) (at_ : Nat) (rows : Web) (row : List Bool) (a s : Option D) (S : Store), wt rows row + cs.length ≤ 50000 → t.drop at_ = cs → S.get 0 = some (.lst ((rows ++ [row]).map encR)) →
    (∀ j ρ S', scan at_ rows row cs = .inl j → Q (.rt (.nw [.str ⟨#[119, 114, 111, 110, 103]⟩, .int (j : Int)]), ρ) S') → (∀ rows' row' a' s' S', scan at_ rows row cs = .inr (rows', row') → S'.get 0 = some (.lst ((rows' ++ [row']).map encR)) → Q (.nx, envD t a' s') S') →
    wp (loopF (.nm 2) (evSs (evCall P k) bodyD) ((List.range' at_ cs.length).map fun k : Nat => .int (k : Int)) (envD t a s)) S Q
  | [], at_, rows, row, a, s, S, hw, hd, hg, q1, q2 => wl_nil (q2 rows row a s S rfl hg)
  | c :: cs, at_, rows, row, a, s, S, hw, hd, hg, q1, q2 => by
    have e1 : ∀ b, wt rows (row ++ [b]) = wt rows row + 1 := fun b => by simp [wt]; omega
    have e2 : wt (rows ++ [row]) [] = wt rows row + 1 := by simp [wt]; omega
    have hrow : row.length ≤ 50000 := by unfold wt at hw; omega
    have hrows : rows.length ≤ 50000 := by unfold wt at hw; omega
    simp only [List.length_cons] at hw
    have hc : t[at_]? = some c := by
      have : (t.drop at_)[0]? = some c := by rw [hd]; rfl
      simpa using this
    have hd' : t.drop (at_ + 1) = cs := by
      rw [← List.drop_drop, hd]; rfl
    have go : ∀ {rows' : Web} {row' : List Bool} {S' : Store}, wt rows' row' + cs.length ≤ 50000 → S'.get 0 = some (.lst ((rows' ++ [row']).map encR)) → scan at_ rows row (c :: cs) = scan (at_ + 1) rows' row' cs →
        wp (loopF (.nm 2) (evSs (evCall P k) bodyD) ((List.range' (at_ + 1) cs.length).map fun k : Nat => .int (k : Int)) (envD t (some (.int (at_ : Int))) (some (encC c)))) S' Q := fun {rows' row' S'} w g e =>
      loopD ht cs (at_ + 1) rows' row' _ _ S' w hd' g (fun j ρ S' h => q1 j ρ S' (e.trans h)) (fun a b c d S' h => q2 a b c d S' (e.trans h))
    rw [List.length_cons, List.range'_succ, List.map_cons]
    refine wl_cons (ρ' := envD t (some (.int (at_ : Int))) s) rfl ?_
    refine sp_asg (v := .fz (encC c)) (ev_op2 (x := .fz (txt t)) (ev_var rfl) (ev_var rfl) rfl rfl (ix_txt (by omega) hc)) ?_
    have lastW : ∀ {Q : Fv → Store → Prop} {S : Store}, S.get 0 = some (.lst ((rows ++ [row]).map encR)) → Q (.fz (encR row)) S → wp (evE (evCall P k) (.op2 .ix (.var 1) (.op1 .neg (.cst (.int 1)))) (envD t (some (.int (at_ : Int))) (some (encC c)))) S Q := fun {Q S} g q => by
      apply w_op2
      refine w_ev (v := .fz (.ref 0)) (ev_var rfl) ?_
      refine w_ev (v := .fz (.int (-1))) (ev_op1 ev_cst rfl rfl) ⟨.fz (encR row), ?_, q⟩
      show op2 .ix (S.see (.ref 0)) (.int (-1)) = _
      rw [see_cell g]
      exact ix_last
    have cA : ∀ {Q : Fv → Store → Prop}, (Q (.fz (.bl (decide (c = 47) && !decide (row = [])))) S) → wp (evE (evCall P k) (.and (.op2 .eq (.var 4) (.cst (.str ⟨#[47]⟩))) (.op2 .ne (.op2 .ix (.var 1) (.op1 .neg (.cst (.int 1)))) (.cst (.str ⟨#[]⟩)))) (envD t (some (.int (at_ : Int))) (some (encC c)))) S Q := fun {Q} q => by
      apply w_and
      refine w_ev (v := .fz (.bl (decide (c = 47)))) (ev_op2 (ev_var rfl) ev_cst rfl rfl (eqC c 47)) ⟨_, rfl, fun h => ?_, fun h => ?_⟩
      · rw [h] at q
        apply w_op2
        refine lastW hg ?_
        refine w_ev (v := .fz (.str ⟨#[]⟩)) ev_cst ⟨_, neE row, ?_⟩
        simpa using q
      · rw [h] at q ⊢
        exact q
    refine s_iff (cA ⟨_, rfl, fun h => ?_, fun h => ?_⟩)
    · simp only [Bool.and_eq_true, decide_eq_true_eq, Bool.not_eq_true', decide_eq_false_iff_not] at h
      obtain ⟨rfl, hr⟩ := h
      refine s_app (n := 0) (ev_var rfl) hg (w_ev ev_cst ⟨_, hg, by simp; unfold sizeMax; omega, ?_⟩)
      refine s_nil (s_nil ?_)
      refine go (rows' := rows ++ [row]) (row' := []) (by rw [e2]; omega) ?_ ?_
      · rw [put_same hg]
        simp
        rfl
      · rw [scan, if_neg (by decide), if_neg (by decide), if_pos ⟨rfl, hr⟩]
    · have h3 : ¬ (c = 47 ∧ row ≠ []) := by
        rintro ⟨q1, q2⟩
        simp [q1, q2] at h
      refine sp_iff (p := decide (c = 48 ∨ c = 49)) (ev_op2 (y := .nw [.str ⟨#[48]⟩, .str ⟨#[49]⟩]) (ev_var rfl) (ev_lst (es_cons ev_cst (es_cons ev_cst es_nil)) (by decide)) rfl rfl (in_01L c)) (fun h4 => ?_) fun h4 => ?_
      · have bit : ∀ b, c = bit b → scan at_ rows row (c :: cs) = scan (at_ + 1) rows (row ++ [b]) cs := fun b hb => by
          subst hb
          cases b
          · show scan at_ rows row (48 :: cs) = _
            rw [scan, if_pos rfl]
          · show scan at_ rows row (49 :: cs) = _
            rw [scan, if_neg (by decide), if_pos rfl]
        have hb : ∃ b, c = Fp.bit b := by
          rcases of_decide_eq_true h4 with q | q
          · exact ⟨false, q⟩
          · exact ⟨true, q⟩
        obtain ⟨b, hb⟩ := hb
        have eb : encC c = encB b := by rw [hb]; rfl
        apply s_sti
        apply w_op2
        refine lastW hg ?_
        refine w_ev (v := .fz (encC c)) (ev_var rfl) ⟨.fz (encR (row ++ [b])), ?_, ?_⟩
        · rw [eb]
          exact add_R (by omega)
        refine w_ev (v := .fz (.ref 0)) (ev_var rfl) ?_
        refine w_ev (v := .fz (.int (-1))) (ev_op1 ev_cst rfl rfl) ⟨0, _, -1, rows.length, rfl, rfl, hg, ?_, ?_⟩
        · rw [show ((rows ++ [row]).map encR).length = rows.length + 1 by simp]
          exact ixN_last
        refine s_nil (s_nil (s_nil ?_))
        refine go (rows' := rows) (row' := row ++ [b]) (by rw [e1]; omega) ?_ (bit b hb)
        rw [put_same hg]
        show some (Cell.lst (((rows ++ [row]).map encR).set rows.length (encR (row ++ [b])))) = _
        rw [set_last]
      · have h4 := of_decide_eq_false h4
        refine sp_iff (p := !decide (c = 32)) (ev_op2 (ev_var rfl) ev_cst rfl rfl (neC c 32)) (fun h5 => ?_) fun h5 => ?_
        · have h5 : ¬ c = 32 := by simpa using h5
          refine sp_ret (v := .nw [.str ⟨#[119, 114, 111, 110, 103]⟩, .int (at_ : Int)]) (ev_lst (es_cons ev_cst (es_cons (v := .fz (.int (at_ : Int))) (ev_var rfl) es_nil)) (by show 2 ≤ _; decide)) ?_
          refine q1 at_ _ _ ?_
          rw [scan, if_neg (fun q => h4 (.inl q)), if_neg (fun q => h4 (.inr q)), if_neg h3, if_neg h5]
        · have h5 : c = 32 := by simpa using h5
          subst h5
          refine s_nil (s_nil (s_nil (s_nil ?_)))
          refine go (rows' := rows) (row' := row) (by omega) hg ?_
          rw [scan, if_neg (by decide), if_neg (by decide), if_neg h3, if_pos rfl]
theorem isW_due {W : Web} (h0 : W ≠ []) : (decide ((W.filter fun r => !decide ((r.length : Int) = ((W.getD 0 []).length : Int)) || decide (6 < (r.length : Int))) = []) && decide ((W.length : Int) < 7)) = isW W := by
  have hm : W.getD 0 [] ∈ W := by
    cases W with
    | nil => exact absurd rfl h0
    | cons r w => exact List.mem_cons_self
  unfold isW
  rw [Bool.eq_iff_iff]
  simp only [Bool.and_eq_true, decide_eq_true_eq, List.filter_eq_nil_iff, List.all_eq_true, Bool.or_eq_true, Bool.not_eq_true', decide_eq_false_iff_not]
  constructor
  · rintro ⟨a, b⟩
    have c : ∀ r ∈ W, r.length = (W.getD 0 []).length ∧ r.length ≤ 6 := fun r hr => by
      have := a r hr
      omega
    exact ⟨by omega, (c _ hm).2, fun r hr => (c r hr).1⟩
  · rintro ⟨a, b, c⟩
    refine ⟨fun r hr => ?_, by omega⟩
    have := c r hr
    omega
def dueV (t : List Nat) : Fv := match scan 0 [] [] t with
  | .inl j => .nw (Res.wrong j).d
  | .inr (rows, row) => if row = [] then .nw (Res.wrong t.length).d else .fz (.lst (if isW (rows ++ [row]) = true then Res.good (rows ++ [row]) else Res.web).d)
theorem dueV_d (t : List Nat) : (dueV t).d = .lst (rd t).d := by
  unfold dueV rd
  cases scan 0 [] [] t with
  | inl j => rfl
  | inr a =>
    obtain ⟨rows, row⟩ := a
    show (if row = [] then Fv.nw (Res.wrong t.length).d else Fv.fz (.lst (if isW (rows ++ [row]) = true then Res.good (rows ++ [row]) else Res.web).d)).d = .lst (if row = [] then Res.wrong t.length else if isW (rows ++ [row]) = true then Res.good (rows ++ [row]) else Res.web).d
    by_cases h : row = []
    · rw [if_pos h, if_pos h]; rfl
    · rw [if_neg h, if_neg h]; rfl
theorem res_pure (r : Res) : (D.lst r.d).pure = true := by
  cases r <;> first | rfl | (simp [Res.d, D.pure, D.pures, pure_W])
theorem f_law_due (H : Has P) {t : List Nat} (ht : t.length ≤ 40000) : Fn P 1 s_law_due [txt t] (dueV t) := by
  refine fn_wp H.law_due rfl rfl rfl (by rw [dueV_d]; exact res_pure _) fun k hk => ?_
  refine sp_iffF (p := false) (ev_notB (p := true) (ev_isi (ev_var rfl) rfl rfl)) rfl ?_
  apply s_asg
  refine w_mkN (xs := [.str ⟨#[]⟩]) (ev_lst (es_cons ev_cst es_nil) (by decide)) ?_
  apply s_fr
  apply wi_r1
  apply w_blt
  refine w_es (ds := [txt t]) (es_cons (v := .fz (txt t)) (ev_var rfl) es_nil) ⟨_, len_txt (by omega), ?_⟩
  refine ⟨_, _, rfl, rng_nat (by omega), ?_⟩
  have e0 : wt [] [] = 0 := rfl
  rw [List.range_eq_range']
  refine loopD ht t 0 [] [] none none _ (by omega) rfl (new_get (S := .mt)) (fun j ρ S' e => ?_) fun rows row a s S' e g => ?_
  · show Fl.rt _ = _
    unfold dueV
    rw [e]
    rfl
  · have hw := scan_wt e
    have hrows := scan_rows e (fun r hr => by cases hr)
    have hw' : wt rows row ≤ 40000 := by omega
    have hlen : rows.length ≤ 40000 := by unfold wt at hw'; omega
    refine s_stl (n := 0) rfl g ?_
    have ix0 : ∀ {ρ : En}, ρ[1]? = some (some (.lst ((rows ++ [row]).map encR))) → Ev (evCall P k) ρ (.op2 .ix (.var 1) (.op1 .neg (.cst (.int 1)))) (.fz (encR row)) := fun h => ev_op2 (x := .fz (.lst ((rows ++ [row]).map encR))) (ev_var h) (ev_op1 ev_cst rfl rfl) rfl rfl ix_last
    refine sp_iff (p := decide (row = [])) (ev_op2 (ix0 rfl) ev_cst rfl rfl (eqE row)) (fun h => ?_) fun h => ?_
    · have h := of_decide_eq_true h
      refine sp_ret (v := .nw [.str ⟨#[119, 114, 111, 110, 103]⟩, .int (t.length : Int)]) (ev_lst (es_cons ev_cst (es_cons (v := .fz (.int (t.length : Int))) (ev_blt (es_cons (v := .fz (txt t)) (ev_var rfl) es_nil) rfl (len_txt (by omega))) es_nil)) (by show 2 ≤ _; decide)) ?_
      show Fl.rt _ = _
      unfold dueV
      rw [e]
      show _ = Fl.rt (if row = [] then Fv.nw (Res.wrong t.length).d else Fv.fz (.lst (if isW (rows ++ [row]) = true then Res.good (rows ++ [row]) else Res.web).d))
      rw [if_pos h]
      rfl
    · have h := of_decide_eq_false h
      have h0 : rows ++ [row] ≠ [] := by simp
      have h2 : ∀ r ∈ rows ++ [row], r.length ≤ 100000 := fun r hm => Nat.le_trans (row_wt hw' r hm) (by omega)
      have hm : (rows ++ [row]).getD 0 [] ∈ rows ++ [row] := by
        cases rows with
        | nil => exact List.mem_cons_self
        | cons r w => exact List.mem_cons_self
      refine s_nil ?_
      have cf := evCall P k
      refine sp_asg (v := .nw (((rows ++ [row]).filter fun r => !decide ((r.length : Int) = (((rows ++ [row]).getD 0 []).length : Int)) || decide (6 < (r.length : Int))).map encR)) ?_ ?_
      · refine ev_lcT (enc := encR) (ei_seq (v := .fz (.lst ((rows ++ [row]).map encR))) (ev_var rfl) rfl) (fun r hr => ⟨_, rfl, ?_, fun _ => ⟨_, ev_var rfl, rfl⟩⟩) (by simp; unfold sizeMax; omega)
        have l5 : ∀ {ρ : En}, ρ[5]? = some (some (encR r)) → Ev (evCall P k) ρ (.blt .len (.cons false (.var 5) .nil)) (.fz (.int (r.length : Int))) := fun h => ev_blt (es_cons (v := .fz (encR r)) (ev_var h) es_nil) rfl (len_Rw (h2 r hr))
        refine ec_so (v := .fz (.bl (!decide ((r.length : Int) = (((rows ++ [row]).getD 0 []).length : Int)) || decide (6 < (r.length : Int))))) ?_ rfl rfl
        refine ev_orC (ev_op2 (l5 rfl) (ev_blt (es_cons (v := .fz (encR ((rows ++ [row]).getD 0 []))) (ev_op2 (x := .fz (.lst ((rows ++ [row]).map encR))) (ev_var rfl) ev_cst rfl rfl (ixLm (n := 0) (getD_some (by simp)))) es_nil) rfl (len_Rw (h2 _ hm))) rfl rfl (neI _ _)) (ev_op2 (l5 rfl) ev_cst rfl rfl (gtI' _ _))
      · have D := isW_due h0
        refine sp_ret (v := .fz (.lst (if isW (rows ++ [row]) = true then Res.good (rows ++ [row]) else Res.web).d)) ?_ ?_
        · refine ev_op2 (x := .nw [.lst [.str ⟨#[119, 101, 98]⟩, .non], .lst [.str ⟨#[103, 111, 111, 100]⟩, encW (rows ++ [row])]]) (y := .fz (.int (if isW (rows ++ [row]) = true then 1 else 0)))
            (ev_lst (es_cons (v := .nw [.str ⟨#[119, 101, 98]⟩, .non]) (ev_lst (es_cons ev_cst (es_cons ev_cst es_nil)) (by decide)) (es_cons (v := .nw [.str ⟨#[103, 111, 111, 100]⟩, encW (rows ++ [row])]) (ev_lst (es_cons ev_cst (es_cons (v := .fz (encW (rows ++ [row]))) (ev_blt (es_cons (v := .fz (.lst ((rows ++ [row]).map encR))) (ev_var rfl) es_nil) rfl rfl) es_nil)) (by show 2 ≤ _; decide)) es_nil)) (by show 2 ≤ _; decide)) ?_ rfl rfl ?_
          · refine ev_blt (es_cons (v := .fz (.bl (isW (rows ++ [row])))) ?_ es_nil) rfl rfl
            rw [← D]
            refine ev_andC (ev_op2 (x := .fz (.lst (((rows ++ [row]).filter fun r => !decide ((r.length : Int) = (((rows ++ [row]).getD 0 []).length : Int)) || decide (6 < (r.length : Int))).map encR))) (y := .nw []) (ev_var rfl) (ev_lst es_nil (by decide)) rfl rfl ?_) (ev_op2 (ev_blt (es_cons (v := .fz (.lst ((rows ++ [row]).map encR))) (ev_var rfl) es_nil) rfl (len_lst _)) ev_cst rfl rfl (ltI' _ _))
            exact eq_enc good_R.lst (by decide) _ []
          · cases isW (rows ++ [row]) <;> rfl
        · show Fl.rt _ = _
          unfold dueV
          rw [e]
          show _ = Fl.rt (if row = [] then Fv.nw (Res.wrong t.length).d else Fv.fz (.lst (if isW (rows ++ [row]) = true then Res.good (rows ++ [row]) else Res.web).d))
          rw [if_neg h]
end
end K03
set_option Elab.async false
set_option linter.all false
set_option maxRecDepth 100000
set_option maxHeartbeats 1000000
namespace K03
open PySem Pe Fp
def encN (k : Nat) : D := .int (k : Int)
theorem hasPr : Has Pr := by constructor <;> kernel_rfl
section
variable {P : Prog}
theorem bits_len {z : Nat} : True := trivial
/-- a web is drawn -/
theorem d_web (H : Has P) {r c : Nat} : Dr P r c 3 50 s_law_web [.int 6] fun v => ∃ (w : Web) (h u : Nat), v = .fz (encW w) ∧ Rect w h u := by
  intro j hj n S hn hS
  obtain ⟨k, rfl⟩ : ∃ k, j = k + 1 := ⟨j - 1, by omega⟩
  have Hd := H.drw
  refine w_run H.law_web rfl rfl (hS.np _) ?_
  apply s_asu
  apply w_tup
  apply w_cons
  apply w_op2
  refine w_ev (v := .fz (.int 1)) ev_cst ?_
  apply w_call
  refine w_es (ds := [.ref r, .int 6]) (es_cons (v := .fz (.ref r)) (ev_var rfl) (es_cons (v := .fz (.int 6)) (ev_var rfl) es_nil)) ?_
  refine (d_draw Hd (r := r) (c := c) (lim := 6) (by omega) (by omega)).at (n := n) (by omega) (by omega) hS ?_
  rintro v S1 ⟨i, rfl, i0, i1⟩ hS1 hE1
  refine ⟨.fz (.int (1 + i)), rfl, ?_⟩
  obtain ⟨u, hu⟩ : ∃ u : Nat, 1 + i = (u : Int) := ⟨(1 + i).toNat, (Int.toNat_of_nonneg (by omega)).symm⟩
  rw [hu]
  apply w_cons
  apply w_call
  refine w_es (ds := [.ref r, .lst [encR [false, true], encR [false, true, true], encR [false, true, true, true], encR [false, false, true]]]) (Pe.EvEs.of fun S => by kernel_rfl) ?_
  refine (d_pick Hd (r := r) (c := c) (by simp) (by simp)).at (n := n + 1) (by omega) (by omega) hS1 ?_
  rintro v S2 ⟨x, hx, rfl⟩ hS2 hE2
  obtain ⟨bs, rfl, hb0, hb1⟩ : ∃ bs : List Bool, x = encR bs ∧ 0 < bs.length ∧ bs.length ≤ 100 := by
    simp only [List.mem_cons, List.not_mem_nil, or_false] at hx
    rcases hx with rfl | rfl | rfl | rfl <;> exact ⟨_, rfl, by decide, by decide⟩
  refine w_nil ⟨by show 2 ≤ _; decide, ⟨_, _, .inl rfl, rfl, ?_⟩⟩
  have hu0 : 0 < u := by omega
  have hu6 : u ≤ 6 := by omega
  apply s_asg
  refine w_mkN (xs := []) (ev_lst es_nil (by simp)) ?_
  obtain ⟨hS3, hE3⟩ := hS2.new (.lst [])
  have E03 : Ext r c S (S2.new (.lst [])) := (hE1.trans hE2).trans hE3
  have x03 := (hE1.trans hE2).nx
  have fr : S2.nx ≠ r := by have := hS2.hr; omega
  have fc : S2.nx ≠ c := by have := hS2.hc; omega
  apply s_fr
  apply wi_r1
  apply w_op2
  refine w_ev (v := .fz (.int 1)) ev_cst ?_
  apply w_call
  refine w_es (ds := [.ref r, .int 6]) (es_cons (v := .fz (.ref r)) (ev_var rfl) (es_cons (v := .fz (.int 6)) (ev_var rfl) es_nil)) ?_
  refine (d_draw Hd (r := r) (c := c) (lim := 6) (by omega) (by omega)).at (n := n + 1 + 1) (by omega) (by omega) hS3 ?_
  rintro v S4 ⟨i2, rfl, j0, j1⟩ hS4 hE4
  refine ⟨.fz (.int (1 + i2)), rfl, ?_⟩
  obtain ⟨h, hh⟩ : ∃ h : Nat, 1 + i2 = (h : Int) := ⟨(1 + i2).toNat, (Int.toNat_of_nonneg (by omega)).symm⟩
  rw [hh]
  have hh0 : 0 < h := by omega
  have hh6 : h ≤ 6 := by omega
  refine ⟨_, _, rfl, rng_nat (by omega), ?_⟩
  have g4 : S4.get S2.nx = some (.lst (([] : Web).map encR)) := by rw [hE4.get _ (by rw [new_nx]; omega) fr fc]; exact new_get
  refine w_loop (enc := encN) (fun ys ρ S' => ∃ (rows : Web) (m : Nat) (l3 l6 : Option D), ρ = [some (.ref r), some (.int 6), some (.ref S2.nx), l3, some (.int (u : Int)), some (encR bs), l6] ∧ S'.get S2.nx = some (.lst (rows.map encR)) ∧ Src r c m S' ∧ m + 6 * ys.length ≤ n + 40 ∧ Ext r c S S' ∧ S2.nx < S'.nx ∧ rows.length + ys.length = h ∧ ∀ row ∈ rows, row.length = u) ?_ ?_ (ys := List.range h) ⟨[], n + 1 + 1 + 1, none, none, rfl, g4, hS4, by rw [List.length_range]; omega, E03.trans hE4, by have := hE4.nx; rw [new_nx] at this; omega, by simp, by simp⟩
  · rintro y ys ρ S5 ⟨rows, m, l3, l6, rfl, g5, hS5, hm, hE5, x5, hrl, hru⟩
    rw [List.length_cons] at hrl hm
    refine ⟨_, rfl, ?_⟩
    refine s_app (n := S2.nx) (ev_var rfl) g5 ?_
    apply w_ms
    refine w_ev (v := .fz (.str ⟨#[]⟩)) ev_cst ⟨_, rfl, ?_⟩
    apply w_cons
    refine w_lc (enc := encN) (fun ys acc S' => ∃ bits : List Bool, acc = bits.map encB ∧ bits.length + ys.length = u ∧ Src r c (m + bits.length) S' ∧ Ext r c S5 S') ?_ ?_ ?_
    · apply wi_r1
      refine w_ev (v := .fz (.int (u : Int))) (ev_var rfl) ⟨_, _, rfl, rng_nat (by omega), List.range u, rfl, [], rfl, by simp, hS5, Ext.refl⟩
    · rintro z zs acc S6 ⟨bits, rfl, hb, hS6, hE6⟩
      rw [List.length_cons] at hb
      refine ⟨_, rfl, wc_no ⟨fun _ => ?_, fun h => by cases h⟩⟩
      apply w_call
      refine w_es (ds := [.ref r, encR bs]) (es_cons (v := .fz (.ref r)) (ev_var rfl) (es_cons (v := .fz (encR bs)) (ev_var rfl) es_nil)) ?_
      refine (d_pickR Hd (r := r) (c := c) hb0 hb1).at (n := m + bits.length) (by omega) (by omega) hS6 ?_
      rintro v S7 ⟨b, hbm, rfl⟩ hS7 hE7
      refine ⟨by rw [List.length_map]; unfold sizeMax; omega, bits ++ [b], by simp [Fv.d], by simp; omega, ?_, hE6.trans hE7⟩
      rw [List.length_append]
      exact hS7
    · rintro acc S6 ⟨bits, rfl, hb, hS6, hE6⟩
      simp only [List.length_nil, Nat.add_zero] at hb
      have g6 : S6.get S2.nx = some (.lst (rows.map encR)) := by rw [hE6.get _ x5 fr fc]; exact g5
      refine w_nil ⟨.fz (encR bits), join_B (by omega), ?_⟩
      refine ⟨_, g6, by rw [List.length_map]; unfold sizeMax; omega, ?_⟩
      refine s_nil ⟨rows ++ [bits], m + bits.length, _, _, rfl, ?_, hS6.put _ fr fc, by omega, (hE5.trans hE6).put x03, by rw [put_nx]; have := hE6.nx; omega, by simp; omega, fun row hr => ?_⟩
      · rw [put_same g6, List.map_append]; rfl
      · rcases List.mem_append.mp hr with q | q
        · exact hru row q
        · rw [List.mem_singleton.mp q]; exact hb
  · rintro ρ S5 ⟨rows, m, l3, l6, rfl, g5, hS5, hm, hE5, x5, hrl, hru⟩
    simp only [List.length_nil, Nat.add_zero, Nat.mul_zero] at hm hrl
    refine s_stl rfl g5 ?_
    apply sp_ret
    · exact ev_blt (ds := [.lst (rows.map encR)]) (es_cons (v := .fz (.lst (rows.map encR))) (ev_var rfl) es_nil) rfl rfl
    exact ⟨⟨rows, h, u, rfl, ⟨hrl, hru, hh0, hu0, by omega, by omega⟩⟩, (hS5.del fr fc).up (by omega), hE5.del x03⟩
end
end K03
set_option Elab.async false
set_option linter.all false
set_option maxRecDepth 100000
set_option maxHeartbeats 1000000
namespace K03
open PySem Pe Fp
theorem str_txt (s : Str) : D.str s = txt s.cps.toList := by
  unfold txt
  rw [Array.toArray_toList]
theorem sp_mul {k : Int} (h0 : 0 ≤ k) (h3 : k < 3) : ∃ m : Nat, m ≤ 2 ∧ op2 .mul (.str ⟨#[32]⟩) (.int k) = some (.fz (txt (List.replicate m 32))) := by
  have : k = 0 ∨ k = 1 ∨ k = 2 := by omega
  rcases this with rfl | rfl | rfl
  · exact ⟨0, by omega, by kernel_rfl⟩
  · exact ⟨1, by omega, by kernel_rfl⟩
  · exact ⟨2, by omega, by kernel_rfl⟩
section
variable {P : Prog}
theorem d_loose (H : Has P) {r c : Nat} {t : List Nat} (ht : t.length ≤ 60) : Dr P r c 3 100 s_law_loose [txt t] fun v => ∃ u : List Nat, v = .fz (txt u) ∧ Loose t u ∧ u.length ≤ 3 * t.length + 2 := by
  intro j hj n S hn hS
  obtain ⟨k, rfl⟩ : ∃ k, j = k + 1 := ⟨j - 1, by omega⟩
  have Hd := H.drw
  refine w_run H.law_loose rfl rfl (hS.np _) ?_
  apply s_asg
  apply w_op2
  refine w_ev (v := .fz (.str ⟨#[32]⟩)) ev_cst ?_
  apply w_call
  refine w_es (ds := [.ref r, .int 3]) (es_cons (v := .fz (.ref r)) (ev_var rfl) (es_cons (v := .fz (.int 3)) ev_cst es_nil)) ?_
  refine (d_draw Hd (r := r) (c := c) (lim := 3) (by omega) (by omega)).at (n := n) (by omega) (by omega) hS ?_
  rintro v S1 ⟨i, rfl, i0, i1⟩ hS1 hE1
  obtain ⟨m0, hm0, em⟩ := sp_mul i0 i1
  refine ⟨_, em, ?_⟩
  refine sp_for (enc := encC) (xs := t) (fun ys ρ S' => ∃ (u : List Nat) (m : Nat) (l3 : Option D), ρ = [some (.ref r), some (txt t), some (txt u), l3] ∧ (∀ u2, Loose ys u2 → Loose t (u ++ u2)) ∧ u.length + 3 * ys.length ≤ 3 * t.length + 2 ∧ Src r c m S' ∧ m + ys.length ≤ n + 99 ∧ Ext r c S S') (ei_seq (v := .fz (txt t)) (ev_var rfl) (chars_txt t))
    ⟨_, n + 1, none, rfl, fun u2 h => h.blanks m0, by simp; omega, hS1, by omega, hE1⟩ ?_ ?_
  · rintro y ys ρ S5 ⟨u, m, l3, rfl, hl, hu, hS5, hm, hE5⟩
    rw [List.length_cons] at hu hm
    refine ⟨_, rfl, ?_⟩
    apply s_asg
    apply w_op2
    refine w_ev (v := .fz (txt (u ++ [y]))) (ev_op2 (x := .fz (txt u)) (y := .fz (txt [y])) (ev_var rfl) (ev_var rfl) rfl rfl (add_txt (by simp; omega))) ?_
    apply w_op2
    refine w_ev (v := .fz (.str ⟨#[32]⟩)) ev_cst ?_
    apply w_call
    refine w_es (ds := [.ref r, .lst [.int 0, .int 0, .int 0, .int 1, .int 2]]) (es_cons (v := .fz (.ref r)) (ev_var rfl) (es_cons (v := .nw [.int 0, .int 0, .int 0, .int 1, .int 2]) (ev_lst (es_cons ev_cst (es_cons ev_cst (es_cons ev_cst (es_cons ev_cst (es_cons ev_cst es_nil))))) (by show 5 ≤ _; decide)) es_nil)) ?_
    refine (d_pick Hd (r := r) (c := c) (by simp) (by simp)).at (n := m) (by omega) (by omega) hS5 ?_
    rintro v S6 ⟨x, hx, rfl⟩ hS6 hE6
    obtain ⟨q, rfl, q0, q3⟩ : ∃ q : Int, x = .int q ∧ 0 ≤ q ∧ q < 3 := by
      simp only [List.mem_cons, List.not_mem_nil, or_false] at hx
      rcases hx with rfl | rfl | rfl | rfl | rfl <;> exact ⟨_, rfl, by decide, by decide⟩
    obtain ⟨m1, hm1, em1⟩ := sp_mul q0 q3
    refine ⟨_, em1, ?_⟩
    refine ⟨_, add_txt (by simp; omega), ?_⟩
    refine s_nil ⟨u ++ [y] ++ List.replicate m1 32, m + 1, _, rfl, fun u2 h => ?_, by simp; omega, hS6, by omega, hE5.trans hE6⟩
    have := hl (y :: (List.replicate m1 32 ++ u2)) (.cons y (h.blanks m1))
    simpa using this
  · rintro ρ S5 ⟨u, m, l3, rfl, hl, hu, hS5, hm, hE5⟩
    simp only [List.length_nil, Nat.mul_zero, Nat.add_zero] at hu hm
    refine sp_ret (v := .fz (txt u)) (ev_var rfl) ⟨⟨u, rfl, by simpa using hl [] .nil, hu⟩, hS5.up (by omega), hE5⟩
theorem cut_txt (t : List Nat) (lo hi : Option Int) (ht : t.length ≤ 100000) : ∃ u : List Nat, u.length ≤ t.length ∧ cutO (txt t) lo hi = some (.fz (txt u)) := by
  refine ⟨(L2.cutS ⟨t.toArray⟩ lo hi).cps.toList, ?_, ?_⟩
  · unfold L2.cutS
    simp
    omega
  · show (if (⟨t.toArray⟩ : Str).length ≤ sizeMax then some (Fv.fz (.str (L2.cutS ⟨t.toArray⟩ lo hi))) else none) = _
    rw [txt_len, if_pos (by unfold sizeMax; omega), str_txt]
theorem d_bent (H : Has P) {r c : Nat} {t : List Nat} (ht : t.length ≤ 5000) : Dr P r c 3 4 s_law_bent [txt t] fun v => ∃ u : List Nat, v = .fz (txt u) ∧ u.length ≤ 2 * t.length + 3 := by
  intro j hj n S hn hS
  obtain ⟨k, rfl⟩ : ∃ k, j = k + 1 := ⟨j - 1, by omega⟩
  have Hd := H.drw
  refine w_run H.law_bent rfl rfl (hS.np _) ?_
  refine sp_asg (v := .nw [txt [48], txt [49], txt [47], txt [32], txt [50], txt [47, 47], txt [45], txt [9], txt [10], txt [79], txt [63], txt [44], txt [47, 49, 47]]) (Ev.of fun S => by kernel_rfl) ?_
  apply s_asg
  apply w_call
  refine w_es (ds := [.ref r, .int ((t.length : Int) + 1)]) (es_cons (v := .fz (.ref r)) (ev_var rfl) (es_cons (v := .fz (.int ((t.length : Int) + 1))) (ev_op2 (x := .fz (.int (t.length : Int))) (ev_blt (es_cons (v := .fz (txt t)) (ev_var rfl) es_nil) rfl (len_txt (by omega))) ev_cst rfl rfl rfl) es_nil)) ?_
  refine (d_draw Hd (r := r) (c := c) (lim := (t.length : Int) + 1) (by omega) (by omega)).at (n := n) (by omega) (by omega) hS ?_
  rintro v S1 ⟨i, rfl, i0, i1⟩ hS1 hE1
  apply s_asg
  apply w_call
  refine w_es (ds := [.ref r, .int 4]) (es_cons (v := .fz (.ref r)) (ev_var rfl) (es_cons (v := .fz (.int 4)) ev_cst es_nil)) ?_
  refine (d_draw Hd (r := r) (c := c) (lim := 4) (by decide) (by decide)).at (n := n + 1) (by omega) (by omega) hS1 ?_
  rintro v S2 ⟨way, rfl, w0, w1⟩ hS2 hE2
  have E02 := hE1.trans hE2
  obtain ⟨a, ha, ea⟩ := cut_txt t none (some i) (by omega)
  have cutA : ∀ {ρ : En}, ρ[1]? = some (some (txt t)) → ρ[3]? = some (some (.int i)) → Ev (evCall P k) ρ (.slc (.var 1) .no (.so (.var 3))) (.fz (txt a)) := fun h1 h3 => ev_slc (x := .fz (txt t)) (ev_var h1) eo_no (eo_so (i := i) (ev_var h3)) rfl ea
  refine sp_iff (p := decide (way = 0)) (ev_op2 (ev_var rfl) ev_cst rfl rfl (eqI _ _)) (fun _ => ?_) fun _ => ?_
  · exact sp_ret (v := .fz (txt a)) (cutA rfl rfl) ⟨⟨a, rfl, by omega⟩, hS2.up (by omega), E02⟩
  refine s_nil ?_
  refine sp_iff (p := decide (way = 1)) (ev_op2 (ev_var rfl) ev_cst rfl rfl (eqI _ _)) (fun _ => ?_) fun _ => ?_
  · obtain ⟨b, hb, eb⟩ := cut_txt t (some (i + 1)) none (by omega)
    refine sp_ret (v := .fz (txt (a ++ b))) (ev_op2 (cutA rfl rfl) (ev_slc (x := .fz (txt t)) (ev_var rfl) (eo_so (i := i + 1) (ev_op2 (x := .fz (.int i)) (ev_var rfl) ev_cst rfl rfl rfl)) eo_no rfl eb) rfl rfl (add_txt (by omega))) ⟨⟨a ++ b, rfl, by simp; omega⟩, hS2.up (by omega), E02⟩
  refine s_nil ?_
  obtain ⟨b, hb, eb⟩ := cut_txt t (some (i + way - 2)) none (by omega)
  apply s_ret
  apply w_op2
  apply w_op2
  refine w_ev (cutA rfl rfl) ?_
  apply w_call
  refine w_es (ds := [.ref r, .lst [txt [48], txt [49], txt [47], txt [32], txt [50], txt [47, 47], txt [45], txt [9], txt [10], txt [79], txt [63], txt [44], txt [47, 49, 47]]]) (es_cons (v := .fz (.ref r)) (ev_var rfl) (es_cons (v := .fz (.lst _)) (ev_var rfl) es_nil)) ?_
  refine (d_pick Hd (r := r) (c := c) (by simp) (by simp)).at (n := n + 1 + 1) (by omega) (by omega) hS2 ?_
  rintro v S3 ⟨x, hx, rfl⟩ hS3 hE3
  obtain ⟨s, rfl, hs⟩ : ∃ s : List Nat, x = txt s ∧ s.length ≤ 3 := by
    simp only [List.mem_cons, List.not_mem_nil, or_false] at hx
    rcases hx with rfl | rfl | rfl | rfl | rfl | rfl | rfl | rfl | rfl | rfl | rfl | rfl | rfl <;> exact ⟨_, rfl, by decide⟩
  refine ⟨_, add_txt (by omega), ?_⟩
  refine w_ev (v := .fz (txt b)) (ev_slc (x := .fz (txt t)) (ev_var rfl) (eo_so (i := i + way - 2) (ev_op2 (x := .fz (.int (i + way))) (ev_op2 (x := .fz (.int i)) (ev_var rfl) (ev_var rfl) rfl rfl rfl) ev_cst rfl rfl rfl)) eo_no rfl eb) ?_
  refine ⟨_, add_txt (by simp; omega), ?_⟩
  exact ⟨⟨a ++ s ++ b, rfl, by simp; omega⟩, hS3.up (by omega), E02.trans hE3⟩
end
end K03
set_option Elab.async false
set_option linter.all false
set_option maxRecDepth 100000
set_option maxHeartbeats 1000000
namespace K03
open PySem Pe Fp
theorem ne_same {d : D} (hf : d.fine = true) (hp : d.pl = true) : op2 .ne d d = some (.fz (.bl false)) := by
  show (neD d d).map _ = _
  unfold neD eqD
  rw [hf]
  simp only [Bool.and_self, if_true]
  rw [(eqv_iff hp hp).mpr rfl]
  rfl
theorem good_fine (w : Web) : (D.lst (Res.good w).d).fine = true := by
  show (true && (D.ok 19 (encW w) && true)) = true
  rw [ok_up (good_W.ok w) (by omega)]
  rfl
theorem good_pl (w : Web) : (D.lst (Res.good w).d).pl = true := by
  show (true && ((encW w).pl && true)) = true
  rw [good_W.pl w]
  rfl
theorem res_fine (r : Res) : (D.lst r.d).fine = true := by
  cases r with
  | wrong k => rfl
  | web => rfl
  | good w => exact good_fine w
theorem res_pl (r : Res) : (D.lst r.d).pl = true := by
  cases r with
  | wrong k => rfl
  | web => rfl
  | good w => exact good_pl w
theorem joinL_T : ∀ w : Web, TL.joinL [47] (w.map fun r => r.map bit) = joinT w
  | [] => rfl
  | [r] => rfl
  | r :: s :: w => by
    show r.map bit ++ ([47] ++ TL.joinL [47] ((s :: w).map fun r => r.map bit)) = r.map bit ++ 47 :: joinT (s :: w)
    rw [joinL_T (s :: w)]
    rfl
theorem joinT_len : ∀ {w : Web} {u : Nat}, (∀ r ∈ w, r.length = u) → (joinT w).length ≤ w.length * (u + 1)
  | [], u, _ => Nat.zero_le _
  | [r], u, h => by
    have := h r List.mem_cons_self
    show (r.map bit).length ≤ _
    rw [List.length_map, this]
    simp
  | r :: s :: w, u, h => by
    have := h r List.mem_cons_self
    have ih := joinT_len (w := s :: w) (u := u) fun x hx => h x (List.mem_cons_of_mem _ hx)
    show (r.map bit ++ 47 :: joinT (s :: w)).length ≤ (r :: s :: w).length * (u + 1)
    rw [List.length_append, List.length_cons, List.length_map, this, List.length_cons, Nat.succ_mul]
    omega
theorem join_W {w : Web} {h v : Nat} (R : Rect w h v) : bfO .join [.str ⟨#[47]⟩, encW w] = some (.fz (txt (joinT w))) := by
  show (unStrs _).bind _ = _
  have e : unStrs (w.map encR) = some (w.map fun r : List Bool => (⟨(r.map bit).toArray⟩ : Str)) := unStrs_map (fun r : List Bool => (⟨(r.map bit).toArray⟩ : Str)) w
  rw [e]
  simp only [Option.bind_some]
  have hs : ((w.map fun r => (⟨(r.map bit).toArray⟩ : Str)).map (·.length)).sum ≤ w.length * v := by
    have hc := R.cols
    clear e R
    induction w with
    | nil => exact Nat.zero_le _
    | cons r w ih =>
      have := ih fun x hx => hc x (List.mem_cons_of_mem _ hx)
      have h1 := hc r List.mem_cons_self
      simp only [List.map_cons, List.sum_cons, List.length_cons, Nat.succ_mul]
      rw [str_len, h1]
      omega
  have h1 := R.rows
  have h2 := R.h6
  have h3 := R.v6
  have h4 : w.length * v ≤ 6 * 6 := Nat.mul_le_mul (by omega) h3
  rw [if_pos (by
    rw [List.length_map]
    have e1 : (⟨#[47]⟩ : Str).length = 1 := rfl
    rw [e1]
    unfold sizeMax; omega)]
  have j : joinS ⟨#[47]⟩ (w.map fun r => (⟨(r.map bit).toArray⟩ : Str)) = ⟨(joinT w).toArray⟩ := by
    apply str_ext
    show TL.tl (Str.join _ _) = _
    rw [TL.tl_join, List.map_map]
    have e2 : (TL.tl ∘ fun r : List Bool => (⟨(r.map bit).toArray⟩ : Str)) = fun r => r.map bit := by
      funext r
      show (r.map bit).toArray.toList = _
      simp
    rw [e2]
    have e3 : TL.tl ⟨#[47]⟩ = [47] := rfl
    rw [e3, joinL_T]
  rw [j]
  rfl
def restS : Ss := match c_law.body with
  | .cons _ (.cons _ r) => r
  | _ => .nil
theorem rest_true (x r : D) (l2 l5 l6 l7 : Option D) (S : Store) : outV (evSs (evCall Pr 60) restS [some x, some r, l2, none, none, l5, l6, l7] S) = some (.fz (.bl true), S) := by kernel_rfl
section
variable {P : Prog}
theorem f_web_text (H : Has P) {w : Web} {h v : Nat} (R : Rect w h v) : Fn P 5 s_web_text [encW w] (.fz (txt (joinT w))) := by
  refine fn_of H.web_text rfl rfl (by simp [D.pures, pure_W]) rfl fun k hk => ?_
  have q := f_check_web H.web R
  refine gr_exp (v := .fz .non) (ev_call (es_cons (v := .fz (encW w)) (ev_var rfl) es_nil) (q.at (by omega))) ?_
  exact gr_ret (ev_join ev_cst (es_cons (v := .fz (encW w)) (ev_var rfl) es_nil) rfl (join_W R))
end
theorem law_true {ns : List Int} (hn : ns.length ≤ 63) : ∃ S', evCall Pr 61 s_law [.scr ns] .mt = .ok (.fz (.bl true)) S' := by
  have H := hasPr
  have main : wp (evCall Pr 61 s_law [.scr ns]) .mt fun v _ => v = .fz (.bl true) := by
    refine w_run H.law rfl rfl rfl ?_
    apply s_asg
    apply w_mk
    apply w_call
    refine w_es (ds := [.scr ns]) (es_cons (v := .fz (.scr ns)) (ev_var rfl) es_nil) ?_
    refine d_source (k := 59) H.drw hn fun c cells S g l0 l63 hc => ?_
    have hS0 : Src S.nx c 0 (S.new (.lst [.ref c, .int 0])) := ⟨⟨cells, 0, new_get, by rw [new_ne (by omega)]; exact g, by omega, by omega, l0, l63⟩, by omega, by rw [new_nx]; omega, by rw [new_nx]; omega⟩
    show wp _ (S.new (.lst [.ref c, .int 0])) _
    generalize S.new (.lst [.ref c, .int 0]) = S0 at hS0
    generalize S.nx = r at hS0
    refine sp_for (enc := encN) (xs := List.range 30) (fun ys ρ S' => ∃ (m : Nat) (l2 l5 l6 l7 : Option D), ρ = [some (.scr ns), some (.ref r), l2, none, none, l5, l6, l7] ∧ Src r c m S' ∧ m + 162 * ys.length ≤ 162 * 30) (ei_r1 ev_cst (rng_nat (n := 30) (by decide))) ⟨0, none, none, none, none, rfl, hS0, by rw [List.length_range]; omega⟩ ?_ ?_
    · rintro y ys ρ S1 ⟨m, l2, l5, l6, l7, rfl, hS1, hm⟩
      rw [List.length_cons] at hm
      have dm : ∀ a, a ≤ 5000 → a ≤ drawMax := fun a ha => by unfold drawMax; omega
      refine ⟨_, rfl, ?_⟩
      apply s_asg
      apply w_call
      refine w_es (ds := [.ref r, .int 6]) (es_cons (v := .fz (.ref r)) (ev_var rfl) (es_cons (v := .fz (.int 6)) ev_cst es_nil)) ?_
      refine (d_web H (r := r) (c := c)).at (n := m) (by omega) (dm _ (by omega)) hS1 ?_
      rintro v S2 ⟨w, h, u, rfl, R⟩ hS2 hE2
      have hjl : (joinT w).length ≤ 42 := by
        have h1 := joinT_len (w := w) (u := u) R.cols
        have h2 := R.rows
        have h3 := R.h6
        have h4 := R.v6
        have : w.length * (u + 1) ≤ 6 * 7 := Nat.mul_le_mul (by omega) (by omega)
        omega
      refine sp_asg (v := .fz (txt (joinT w))) (ev_join ev_cst (es_cons (v := .fz (encW w)) (ev_var rfl) es_nil) rfl (join_W R)) ?_
      have rdj : Fn Pr 6 s_law_read [txt (joinT w)] (.nw (Res.good w).d) := by
        have := f_law_read H (t := joinT w) (by omega)
        rw [rd_join R] at this
        exact this
      refine sp_iffF (p := false || false) (ev_orC (ev_op2 (x := .fz (txt (joinT w))) (y := .fz (txt (joinT w))) (ev_call (es_cons (v := .fz (encW w)) (ev_var rfl) es_nil) ((f_web_text H R).at (by omega))) (ev_var rfl) rfl rfl (by
        have := ne_enc (inst := inferInstance) good_txt (by decide) (joinT w) (joinT w)
        rw [decide_eq_true rfl] at this
        exact this)) (ev_op2 (x := .nw (Res.good w).d) (y := .nw (Res.good w).d) (ev_call (es_cons (v := .fz (txt (joinT w))) (ev_var rfl) es_nil) (rdj.at (by omega))) (ev_lst (es_cons ev_cst (es_cons (v := .fz (encW w)) (ev_var rfl) es_nil)) (by show 2 ≤ _; decide)) rfl rfl (ne_same (good_fine w) (good_pl w)))) rfl ?_
      apply s_iff
      apply w_op2
      apply w_call
      apply w_cons
      apply w_call
      refine w_es (ds := [.ref r, txt (joinT w)]) (es_cons (v := .fz (.ref r)) (ev_var rfl) (es_cons (v := .fz (txt (joinT w))) (ev_var rfl) es_nil)) ?_
      refine (d_loose H (r := r) (c := c) (t := joinT w) (by omega)).at (n := m + 50) (by omega) (dm _ (by omega)) hS2 ?_
      rintro v S3 ⟨t, rfl, hl, htl⟩ hS3 hE3
      refine w_nil ?_
      have rdl : Fn Pr 6 s_law_read [txt t] (.nw (Res.good w).d) := by
        have := f_law_read H (t := t) (by omega)
        rw [rd_loose R hl] at this
        exact this
      refine w_cl (v := .nw (Res.good w).d) (rdl.at (by omega)) ?_
      refine w_ev (v := .nw (Res.good w).d) (ev_lst (es_cons ev_cst (es_cons (v := .fz (encW w)) (ev_var rfl) es_nil)) (by show 2 ≤ _; decide)) ⟨_, ne_same (good_fine w) (good_pl w), _, rfl, (fun h => by cases h), fun _ => ?_⟩
      refine s_nil ?_
      refine sp_for (enc := encN) (xs := List.range 3) (fun zs ρ S' => ∃ (t : List Nat) (m2 : Nat) (l7 : Option D), ρ = [some (.scr ns), some (.ref r), some (.int (y : Int)), none, none, some (encW w), some (txt t), l7] ∧ (t.length + 3) * 2 ^ zs.length ≤ 360 ∧ Src r c m2 S' ∧ m2 + 4 * zs.length ≤ m + 162) (ei_r1 ev_cst (rng_nat (n := 3) (by decide))) ⟨joinT w, m + 150, l7, rfl, by rw [List.length_range]; omega, hS3, by rw [List.length_range]; omega⟩ ?_ ?_
      · rintro z zs ρ S4 ⟨t, m2, l7, rfl, ht, hS4, hm2⟩
        rw [List.length_cons, Nat.pow_succ] at ht
        rw [List.length_cons] at hm2
        have hp : 0 < 2 ^ zs.length := Nat.two_pow_pos _
        have htl : t.length + 3 ≤ 360 := Nat.le_trans (Nat.le_mul_of_pos_right _ (by omega)) ht
        refine ⟨_, rfl, ?_⟩
        apply s_asg
        apply w_call
        refine w_es (ds := [.ref r, txt t]) (es_cons (v := .fz (.ref r)) (ev_var rfl) (es_cons (v := .fz (txt t)) (ev_var rfl) es_nil)) ?_
        refine (d_bent H (r := r) (c := c) (t := t) (by omega)).at (n := m2) (by omega) (dm _ (by omega)) hS4 ?_
        rintro v S5 ⟨t', rfl, htl'⟩ hS5 hE5
        refine sp_iffF (p := false) (ev_op2 (x := .nw (rd t').d) (y := dueV t') (ev_call (es_cons (v := .fz (txt t')) (ev_var rfl) es_nil) ((f_law_read H (by omega)).at (by omega))) (ev_call (es_cons (v := .fz (txt t')) (ev_var rfl) es_nil) ((f_law_due H (by omega)).at (by omega))) rfl (by rw [dueV_d]; rfl) (by
          rw [dueV_d]
          exact ne_same (res_fine _) (res_pl _))) rfl ?_
        refine s_nil ⟨t', m2 + 4, _, rfl, ?_, hS5, by omega⟩
        have : (t'.length + 3) * 2 ^ zs.length ≤ (t.length + 3) * (2 ^ zs.length * 2) := by
          rw [Nat.mul_comm (2 ^ zs.length) 2, ← Nat.mul_assoc]
          exact Nat.mul_le_mul_right _ (by omega)
        omega
      · rintro ρ S4 ⟨t, m2, l7, rfl, ht, hS4, hm2⟩
        simp only [List.length_nil, Nat.mul_zero, Nat.add_zero] at hm2
        exact s_nil ⟨m + 162, _, _, _, _, rfl, hS4.up (by omega), by omega⟩
    · rintro ρ S1 ⟨m, l2, l5, l6, l7, rfl, hS1, hm⟩
      exact wp_out (rest_true _ _ _ _ _ _ _) fun ρ => rfl
  obtain ⟨v, S', e, rfl⟩ := main
  exact ⟨S', e⟩
end K03
set_option Elab.async false
set_option linter.all false
set_option maxRecDepth 100000
set_option maxHeartbeats 0
namespace K03
open PySem PySem.Spec PyProof.Rows L2 Pe
def top (i : Nat) : Stmt := PySem.Challenge.pw_fullpieces_k03_web_texts.main.body.getD i (.Pass ⟨0, 0, 0, 0⟩)
def mem (i j : Nat) : Stmt := (match top i with
  | .ClassDef (body := b) .. => b
  | _ => []).getD j (.Pass ⟨0, 0, 0, 0⟩)
def d_is_row : Fd := ⟨⟨#[105, 115, 95, 114, 111, 119]⟩, (top 6), [⟨#[118, 97, 108, 117, 101]⟩, ⟨#[109, 97, 110, 121]⟩, ⟨#[115, 105, 103, 110, 115]⟩], [⟨#[118, 97, 108, 117, 101]⟩, ⟨#[109, 97, 110, 121]⟩, ⟨#[115, 105, 103, 110, 115]⟩, ⟨#[115, 105, 103, 110]⟩], ⟨[], [], []⟩, .glo ⟨#[105, 115, 95, 114, 111, 119]⟩, ⟨#[105, 115, 95, 114, 111, 119]⟩, ⟨#[105, 115, 95, 114, 111, 119]⟩⟩
def d_is_web_of : Fd := ⟨⟨#[105, 115, 95, 119, 101, 98, 95, 111, 102]⟩, (top 7), [⟨#[118, 97, 108, 117, 101]⟩, ⟨#[115, 105, 103, 110, 115]⟩], [⟨#[118, 97, 108, 117, 101]⟩, ⟨#[115, 105, 103, 110, 115]⟩, ⟨#[114, 111, 119]⟩], ⟨[], [], []⟩, .glo ⟨#[105, 115, 95, 119, 101, 98, 95, 111, 102]⟩, ⟨#[105, 115, 95, 119, 101, 98, 95, 111, 102]⟩, ⟨#[105, 115, 95, 119, 101, 98, 95, 111, 102]⟩⟩
def d_is_web : Fd := ⟨⟨#[105, 115, 95, 119, 101, 98]⟩, (top 8), [⟨#[118, 97, 108, 117, 101]⟩], [⟨#[118, 97, 108, 117, 101]⟩], ⟨[], [], []⟩, .glo ⟨#[105, 115, 95, 119, 101, 98]⟩, ⟨#[105, 115, 95, 119, 101, 98]⟩, ⟨#[105, 115, 95, 119, 101, 98]⟩⟩
def d_check_web : Fd := ⟨⟨#[99, 104, 101, 99, 107, 95, 119, 101, 98]⟩, (top 9), [⟨#[119, 101, 98]⟩], [⟨#[119, 101, 98]⟩], ⟨[], [], []⟩, .glo ⟨#[99, 104, 101, 99, 107, 95, 119, 101, 98]⟩, ⟨#[99, 104, 101, 99, 107, 95, 119, 101, 98]⟩, ⟨#[99, 104, 101, 99, 107, 95, 119, 101, 98]⟩⟩
def d_web_text : Fd := ⟨⟨#[119, 101, 98, 95, 116, 101, 120, 116]⟩, (top 11), [⟨#[119, 101, 98]⟩], [⟨#[119, 101, 98]⟩], ⟨[], [], []⟩, .glo ⟨#[119, 101, 98, 95, 116, 101, 120, 116]⟩, ⟨#[119, 101, 98, 95, 116, 101, 120, 116]⟩, ⟨#[119, 101, 98, 95, 116, 101, 120, 116]⟩⟩
def d_read_web : Fd := ⟨⟨#[114, 101, 97, 100, 95, 119, 101, 98]⟩, (top 12), [⟨#[116, 101, 120, 116]⟩], [⟨#[116, 101, 120, 116]⟩, ⟨#[102, 111, 117, 110, 100]⟩, ⟨#[114, 111, 119, 115]⟩, ⟨#[114, 111, 119]⟩, ⟨#[97, 116]⟩, ⟨#[115, 105, 103, 110]⟩], ⟨[], [], []⟩, .glo ⟨#[114, 101, 97, 100, 95, 119, 101, 98]⟩, ⟨#[114, 101, 97, 100, 95, 119, 101, 98]⟩, ⟨#[114, 101, 97, 100, 95, 119, 101, 98]⟩⟩
def d_law_source : Fd := ⟨⟨#[95, 108, 97, 119, 95, 115, 111, 117, 114, 99, 101]⟩, (top 14), [⟨#[95, 108, 97, 119, 95, 115, 99, 114, 105, 112, 116]⟩], [⟨#[95, 108, 97, 119, 95, 115, 99, 114, 105, 112, 116]⟩, ⟨#[95, 108, 97, 119, 95, 99, 101, 108, 108, 115]⟩, ⟨#[95, 108, 97, 119, 95, 107]⟩], ⟨[1], [], []⟩, .glo ⟨#[95, 108, 97, 119, 95, 115, 111, 117, 114, 99, 101]⟩, ⟨#[95, 108, 97, 119, 95, 115, 111, 117, 114, 99, 101]⟩, ⟨#[95, 108, 97, 119, 95, 115, 111, 117, 114, 99, 101]⟩⟩
def d_law_draw : Fd := ⟨⟨#[95, 108, 97, 119, 95, 100, 114, 97, 119]⟩, (top 15), [⟨#[95, 108, 97, 119, 95, 115, 111, 117, 114, 99, 101, 95, 104, 101, 114, 101]⟩, ⟨#[95, 108, 97, 119, 95, 108, 105, 109, 105, 116]⟩], [⟨#[95, 108, 97, 119, 95, 115, 111, 117, 114, 99, 101, 95, 104, 101, 114, 101]⟩, ⟨#[95, 108, 97, 119, 95, 108, 105, 109, 105, 116]⟩, ⟨#[95, 108, 97, 119, 95, 112, 108, 97, 99, 101]⟩, ⟨#[95, 108, 97, 119, 95, 99, 101, 108, 108]⟩, ⟨#[95, 108, 97, 119, 95, 110, 117, 109, 98, 101, 114]⟩, ⟨#[95, 108, 97, 119, 95, 99, 101, 108, 108, 115]⟩, ⟨#[95, 108, 97, 119, 95, 116, 117, 114, 110]⟩], ⟨[5], [], []⟩, .glo ⟨#[95, 108, 97, 119, 95, 100, 114, 97, 119]⟩, ⟨#[95, 108, 97, 119, 95, 100, 114, 97, 119]⟩, ⟨#[95, 108, 97, 119, 95, 100, 114, 97, 119]⟩⟩
def d_law_pick : Fd := ⟨⟨#[95, 108, 97, 119, 95, 112, 105, 99, 107]⟩, (top 16), [⟨#[95, 108, 97, 119, 95, 115, 111, 117, 114, 99, 101, 95, 104, 101, 114, 101]⟩, ⟨#[95, 108, 97, 119, 95, 118, 97, 108, 117, 101, 115]⟩], [⟨#[95, 108, 97, 119, 95, 115, 111, 117, 114, 99, 101, 95, 104, 101, 114, 101]⟩, ⟨#[95, 108, 97, 119, 95, 118, 97, 108, 117, 101, 115]⟩], ⟨[], [], []⟩, .glo ⟨#[95, 108, 97, 119, 95, 112, 105, 99, 107]⟩, ⟨#[95, 108, 97, 119, 95, 112, 105, 99, 107]⟩, ⟨#[95, 108, 97, 119, 95, 112, 105, 99, 107]⟩⟩
def d_law_web : Fd := ⟨⟨#[95, 108, 97, 119, 95, 119, 101, 98]⟩, (top 17), [⟨#[95, 108, 97, 119, 95, 115, 111, 117, 114, 99, 101, 95, 104, 101, 114, 101]⟩, ⟨#[95, 108, 97, 119, 95, 109, 111, 115, 116]⟩], [⟨#[95, 108, 97, 119, 95, 115, 111, 117, 114, 99, 101, 95, 104, 101, 114, 101]⟩, ⟨#[95, 108, 97, 119, 95, 109, 111, 115, 116]⟩, ⟨#[95, 108, 97, 119, 95, 102, 111, 117, 110, 100]⟩, ⟨#[95, 108, 97, 119, 95, 107]⟩, ⟨#[95, 108, 97, 119, 95, 119, 105, 100, 101]⟩, ⟨#[95, 108, 97, 119, 95, 115, 105, 103, 110, 115]⟩, ⟨#[95, 108, 97, 119, 95, 106]⟩], ⟨[2], [⟨#[95, 108, 97, 119, 95, 102, 111, 117, 110, 100]⟩], []⟩, .glo ⟨#[95, 108, 97, 119, 95, 119, 101, 98]⟩, ⟨#[95, 108, 97, 119, 95, 119, 101, 98]⟩, ⟨#[95, 108, 97, 119, 95, 119, 101, 98]⟩⟩
def d_law_due : Fd := ⟨⟨#[95, 108, 97, 119, 95, 100, 117, 101]⟩, (top 18), [⟨#[95, 108, 97, 119, 95, 116, 101, 120, 116]⟩], [⟨#[95, 108, 97, 119, 95, 116, 101, 120, 116]⟩, ⟨#[95, 108, 97, 119, 95, 114, 111, 119, 115]⟩, ⟨#[95, 108, 97, 119, 95, 97, 116]⟩, ⟨#[95, 108, 97, 119, 95, 119, 105, 100, 101]⟩, ⟨#[95, 108, 97, 119, 95, 115, 105, 103, 110]⟩, ⟨#[95, 108, 97, 119, 95, 114, 111, 119]⟩], ⟨[1], [⟨#[95, 108, 97, 119, 95, 114, 111, 119, 115]⟩], []⟩, .glo ⟨#[95, 108, 97, 119, 95, 100, 117, 101]⟩, ⟨#[95, 108, 97, 119, 95, 100, 117, 101]⟩, ⟨#[95, 108, 97, 119, 95, 100, 117, 101]⟩⟩
def d_law_read : Fd := ⟨⟨#[95, 108, 97, 119, 95, 114, 101, 97, 100]⟩, (top 19), [⟨#[95, 108, 97, 119, 95, 116, 101, 120, 116]⟩], [⟨#[95, 108, 97, 119, 95, 116, 101, 120, 116]⟩, ⟨#[95, 108, 97, 119, 95, 99, 97, 117, 103, 104, 116]⟩, ⟨#[95, 108, 97, 119, 95, 102, 111, 117, 110, 100]⟩, ⟨#[101]⟩, ⟨#[95, 108, 97, 119, 95, 104, 105, 116, 115]⟩], ⟨[], [], []⟩, .glo ⟨#[95, 108, 97, 119, 95, 114, 101, 97, 100]⟩, ⟨#[95, 108, 97, 119, 95, 114, 101, 97, 100]⟩, ⟨#[95, 108, 97, 119, 95, 114, 101, 97, 100]⟩⟩
def d_law_loose : Fd := ⟨⟨#[95, 108, 97, 119, 95, 108, 111, 111, 115, 101]⟩, (top 20), [⟨#[95, 108, 97, 119, 95, 115, 111, 117, 114, 99, 101, 95, 104, 101, 114, 101]⟩, ⟨#[95, 108, 97, 119, 95, 116, 101, 120, 116]⟩], [⟨#[95, 108, 97, 119, 95, 115, 111, 117, 114, 99, 101, 95, 104, 101, 114, 101]⟩, ⟨#[95, 108, 97, 119, 95, 116, 101, 120, 116]⟩, ⟨#[95, 108, 97, 119, 95, 102, 111, 117, 110, 100]⟩, ⟨#[95, 108, 97, 119, 95, 115, 105, 103, 110]⟩], ⟨[], [], []⟩, .glo ⟨#[95, 108, 97, 119, 95, 108, 111, 111, 115, 101]⟩, ⟨#[95, 108, 97, 119, 95, 108, 111, 111, 115, 101]⟩, ⟨#[95, 108, 97, 119, 95, 108, 111, 111, 115, 101]⟩⟩
def d_law_bent : Fd := ⟨⟨#[95, 108, 97, 119, 95, 98, 101, 110, 116]⟩, (top 21), [⟨#[95, 108, 97, 119, 95, 115, 111, 117, 114, 99, 101, 95, 104, 101, 114, 101]⟩, ⟨#[95, 108, 97, 119, 95, 116, 101, 120, 116]⟩], [⟨#[95, 108, 97, 119, 95, 115, 111, 117, 114, 99, 101, 95, 104, 101, 114, 101]⟩, ⟨#[95, 108, 97, 119, 95, 116, 101, 120, 116]⟩, ⟨#[95, 108, 97, 119, 95, 115, 105, 103, 110, 115]⟩, ⟨#[95, 108, 97, 119, 95, 97, 116]⟩, ⟨#[95, 108, 97, 119, 95, 119, 97, 121]⟩], ⟨[], [], []⟩, .glo ⟨#[95, 108, 97, 119, 95, 98, 101, 110, 116]⟩, ⟨#[95, 108, 97, 119, 95, 98, 101, 110, 116]⟩, ⟨#[95, 108, 97, 119, 95, 98, 101, 110, 116]⟩⟩
def d_law : Fd := ⟨⟨#[108, 97, 119]⟩, (top 22), [⟨#[95, 108, 97, 119, 95, 115, 99, 114, 105, 112, 116]⟩], [⟨#[95, 108, 97, 119, 95, 115, 99, 114, 105, 112, 116]⟩, ⟨#[95, 108, 97, 119, 95, 115, 111, 117, 114, 99, 101, 95, 104, 101, 114, 101]⟩, ⟨#[95, 108, 97, 119, 95, 116, 117, 114, 110]⟩, ⟨#[95, 108, 97, 119, 95, 118, 97, 108, 117, 101]⟩, ⟨#[95, 108, 97, 119, 95, 115, 111, 109, 101]⟩, ⟨#[95, 108, 97, 119, 95, 119, 101, 98, 95, 104, 101, 114, 101]⟩, ⟨#[95, 108, 97, 119, 95, 116, 101, 120, 116]⟩, ⟨#[95, 108, 97, 119, 95, 107]⟩], ⟨[1], [], []⟩, .glo ⟨#[108, 97, 119]⟩, ⟨#[108, 97, 119]⟩, ⟨#[108, 97, 119]⟩⟩
def L : List Fd := [d_is_row, d_is_web_of, d_is_web, d_check_web, d_web_text, d_read_web, d_law_source, d_law_draw, d_law_pick, d_law_web, d_law_due, d_law_read, d_law_loose, d_law_bent, d_law]
def gs : List (Str × Gc) := [(⟨#[77, 79, 83, 84, 95, 83, 73, 68, 69]⟩, .int (6))]
abbrev cs : Str → Option Pe.D := csOf gs
def ki : Ki := ⟨[], [], [], [(⟨#[87, 101, 98, 69, 114, 114, 111, 114]⟩, []), (⟨#[73, 110, 118, 97, 108, 105, 100, 87, 101, 98]⟩, []), (⟨#[73, 110, 118, 97, 108, 105, 100, 84, 101, 120, 116]⟩, [⟨#[97, 116]⟩])], [(⟨#[73, 110, 118, 97, 108, 105, 100, 84, 101, 120, 116]⟩, [⟨#[73, 110, 118, 97, 108, 105, 100, 84, 101, 120, 116]⟩], [⟨#[87, 101, 98, 69, 114, 114, 111, 114]⟩, ⟨#[73, 110, 118, 97, 108, 105, 100, 87, 101, 98]⟩]), (⟨#[73, 110, 118, 97, 108, 105, 100, 87, 101, 98]⟩, [⟨#[73, 110, 118, 97, 108, 105, 100, 87, 101, 98]⟩], [⟨#[87, 101, 98, 69, 114, 114, 111, 114]⟩, ⟨#[73, 110, 118, 97, 108, 105, 100, 84, 101, 120, 116]⟩]), (⟨#[86, 97, 108, 117, 101, 69, 114, 114, 111, 114]⟩, [⟨#[87, 101, 98, 69, 114, 114, 111, 114]⟩, ⟨#[73, 110, 118, 97, 108, 105, 100, 87, 101, 98]⟩, ⟨#[73, 110, 118, 97, 108, 105, 100, 84, 101, 120, 116]⟩], []), (⟨#[87, 101, 98, 69, 114, 114, 111, 114]⟩, [⟨#[87, 101, 98, 69, 114, 114, 111, 114]⟩, ⟨#[73, 110, 118, 97, 108, 105, 100, 87, 101, 98]⟩, ⟨#[73, 110, 118, 97, 108, 105, 100, 84, 101, 120, 116]⟩], [])], [(⟨#[97, 116]⟩, [], [⟨#[73, 110, 118, 97, 108, 105, 100, 84, 101, 120, 116]⟩])], ⟨#[47, 99, 108, 97, 105, 109, 47, 99, 117, 116, 46, 112, 121]⟩⟩
abbrev kt : Kt := ki.kt
theorem p_is_row : FdPre d_is_row := ⟨fun _ _ _ _ _ _ us hl => match us, hl with | [_, _, _], _ => rfl, ⟨rfl, rfl, rfl, by decide +kernel, rfl, by decide +kernel, by decide +kernel⟩⟩
theorem p_is_web_of : FdPre d_is_web_of := ⟨fun _ _ _ _ _ _ us hl => match us, hl with | [_, _], _ => rfl, ⟨rfl, rfl, rfl, by decide +kernel, rfl, by decide +kernel, by decide +kernel⟩⟩
theorem p_is_web : FdPre d_is_web := ⟨fun _ _ _ _ _ _ us hl => match us, hl with | [_], _ => rfl, ⟨rfl, rfl, rfl, by decide +kernel, rfl, by decide +kernel, by decide +kernel⟩⟩
theorem p_check_web : FdPre d_check_web := ⟨fun _ _ _ _ _ _ us hl => match us, hl with | [_], _ => rfl, ⟨rfl, rfl, rfl, by decide +kernel, rfl, by decide +kernel, by decide +kernel⟩⟩
theorem p_web_text : FdPre d_web_text := ⟨fun _ _ _ _ _ _ us hl => match us, hl with | [_], _ => rfl, ⟨rfl, rfl, rfl, by decide +kernel, rfl, by decide +kernel, by decide +kernel⟩⟩
theorem p_read_web : FdPre d_read_web := ⟨fun _ _ _ _ _ _ us hl => match us, hl with | [_], _ => rfl, ⟨rfl, rfl, rfl, by decide +kernel, rfl, by decide +kernel, by decide +kernel⟩⟩
theorem p_law_source : FdPre d_law_source := ⟨fun _ _ _ _ _ _ us hl => match us, hl with | [_], _ => rfl, ⟨rfl, rfl, rfl, by decide +kernel, rfl, by decide +kernel, by decide +kernel⟩⟩
theorem p_law_draw : FdPre d_law_draw := ⟨fun _ _ _ _ _ _ us hl => match us, hl with | [_, _], _ => rfl, ⟨rfl, rfl, rfl, by decide +kernel, rfl, by decide +kernel, by decide +kernel⟩⟩
theorem p_law_pick : FdPre d_law_pick := ⟨fun _ _ _ _ _ _ us hl => match us, hl with | [_, _], _ => rfl, ⟨rfl, rfl, rfl, by decide +kernel, rfl, by decide +kernel, by decide +kernel⟩⟩
theorem p_law_web : FdPre d_law_web := ⟨fun _ _ _ _ _ _ us hl => match us, hl with | [_, _], _ => rfl, ⟨rfl, rfl, rfl, by decide +kernel, rfl, by decide +kernel, by decide +kernel⟩⟩
theorem p_law_due : FdPre d_law_due := ⟨fun _ _ _ _ _ _ us hl => match us, hl with | [_], _ => rfl, ⟨rfl, rfl, rfl, by decide +kernel, rfl, by decide +kernel, by decide +kernel⟩⟩
theorem p_law_read : FdPre d_law_read := ⟨fun _ _ _ _ _ _ us hl => match us, hl with | [_], _ => rfl, ⟨rfl, rfl, rfl, by decide +kernel, rfl, by decide +kernel, by decide +kernel⟩⟩
theorem p_law_loose : FdPre d_law_loose := ⟨fun _ _ _ _ _ _ us hl => match us, hl with | [_, _], _ => rfl, ⟨rfl, rfl, rfl, by decide +kernel, rfl, by decide +kernel, by decide +kernel⟩⟩
theorem p_law_bent : FdPre d_law_bent := ⟨fun _ _ _ _ _ _ us hl => match us, hl with | [_, _], _ => rfl, ⟨rfl, rfl, rfl, by decide +kernel, rfl, by decide +kernel, by decide +kernel⟩⟩
theorem p_law : FdPre d_law := ⟨fun _ _ _ _ _ _ us hl => match us, hl with | [_], _ => rfl, ⟨rfl, rfl, rfl, by decide +kernel, rfl, by decide +kernel, by decide +kernel⟩⟩
end K03

namespace K03
open PySem Pe Fp
theorem e_is_row : d_is_row.comp (tabOf L) cs kt 40 = c_is_row := by kernel_rfl
theorem P_is_row : progOf L cs kt 40 ⟨#[105, 115, 95, 114, 111, 119]⟩ = some c_is_row := by rw [← e_is_row]; kernel_rfl
theorem e_is_web_of : d_is_web_of.comp (tabOf L) cs kt 40 = c_is_web_of := by kernel_rfl
theorem P_is_web_of : progOf L cs kt 40 ⟨#[105, 115, 95, 119, 101, 98, 95, 111, 102]⟩ = some c_is_web_of := by rw [← e_is_web_of]; kernel_rfl
theorem e_is_web : d_is_web.comp (tabOf L) cs kt 40 = c_is_web := by kernel_rfl
theorem P_is_web : progOf L cs kt 40 ⟨#[105, 115, 95, 119, 101, 98]⟩ = some c_is_web := by rw [← e_is_web]; kernel_rfl
theorem e_check_web : d_check_web.comp (tabOf L) cs kt 40 = c_check_web := by kernel_rfl
theorem P_check_web : progOf L cs kt 40 ⟨#[99, 104, 101, 99, 107, 95, 119, 101, 98]⟩ = some c_check_web := by rw [← e_check_web]; kernel_rfl
theorem e_web_text : d_web_text.comp (tabOf L) cs kt 40 = c_web_text := by kernel_rfl
theorem P_web_text : progOf L cs kt 40 ⟨#[119, 101, 98, 95, 116, 101, 120, 116]⟩ = some c_web_text := by rw [← e_web_text]; kernel_rfl
theorem e_read_web : d_read_web.comp (tabOf L) cs kt 40 = c_read_web := by kernel_rfl
theorem P_read_web : progOf L cs kt 40 ⟨#[114, 101, 97, 100, 95, 119, 101, 98]⟩ = some c_read_web := by rw [← e_read_web]; kernel_rfl
theorem e_law_source : d_law_source.comp (tabOf L) cs kt 40 = c_law_source := by kernel_rfl
theorem P_law_source : progOf L cs kt 40 ⟨#[95, 108, 97, 119, 95, 115, 111, 117, 114, 99, 101]⟩ = some c_law_source := by rw [← e_law_source]; kernel_rfl
theorem e_law_draw : d_law_draw.comp (tabOf L) cs kt 40 = c_law_draw := by kernel_rfl
theorem P_law_draw : progOf L cs kt 40 ⟨#[95, 108, 97, 119, 95, 100, 114, 97, 119]⟩ = some c_law_draw := by rw [← e_law_draw]; kernel_rfl
theorem e_law_pick : d_law_pick.comp (tabOf L) cs kt 40 = c_law_pick := by kernel_rfl
theorem P_law_pick : progOf L cs kt 40 ⟨#[95, 108, 97, 119, 95, 112, 105, 99, 107]⟩ = some c_law_pick := by rw [← e_law_pick]; kernel_rfl
theorem e_law_web : d_law_web.comp (tabOf L) cs kt 40 = c_law_web := by kernel_rfl
theorem P_law_web : progOf L cs kt 40 ⟨#[95, 108, 97, 119, 95, 119, 101, 98]⟩ = some c_law_web := by rw [← e_law_web]; kernel_rfl
theorem e_law_due : d_law_due.comp (tabOf L) cs kt 40 = c_law_due := by kernel_rfl
theorem P_law_due : progOf L cs kt 40 ⟨#[95, 108, 97, 119, 95, 100, 117, 101]⟩ = some c_law_due := by rw [← e_law_due]; kernel_rfl
theorem e_law_read : d_law_read.comp (tabOf L) cs kt 40 = c_law_read := by kernel_rfl
theorem P_law_read : progOf L cs kt 40 ⟨#[95, 108, 97, 119, 95, 114, 101, 97, 100]⟩ = some c_law_read := by rw [← e_law_read]; kernel_rfl
theorem e_law_loose : d_law_loose.comp (tabOf L) cs kt 40 = c_law_loose := by kernel_rfl
theorem P_law_loose : progOf L cs kt 40 ⟨#[95, 108, 97, 119, 95, 108, 111, 111, 115, 101]⟩ = some c_law_loose := by rw [← e_law_loose]; kernel_rfl
theorem e_law_bent : d_law_bent.comp (tabOf L) cs kt 40 = c_law_bent := by kernel_rfl
theorem P_law_bent : progOf L cs kt 40 ⟨#[95, 108, 97, 119, 95, 98, 101, 110, 116]⟩ = some c_law_bent := by rw [← e_law_bent]; kernel_rfl
theorem e_law : d_law.comp (tabOf L) cs kt 40 = c_law := by kernel_rfl
theorem P_law : progOf L cs kt 40 ⟨#[108, 97, 119]⟩ = some c_law := by rw [← e_law]; kernel_rfl
theorem find_tab (g : Fd → Def) (f : Str) : ∀ M : List Fd, (M.find? fun d => decide (d.x = f)).map g = lkD f (M.map fun d => (d.x, g d))
  | [] => rfl
  | d :: r => by
    rw [List.find?_cons, List.map_cons]
    unfold lkD
    by_cases h : d.x = f
    · simp [h]
    · simp [h, find_tab g f r]
theorem tab_eq : (L.map fun d => (d.x, d.comp (tabOf L) cs kt 40)) = Tb := by
  simp only [L, List.map_cons, List.map_nil, e_is_row, e_is_web_of, e_is_web, e_check_web, e_web_text, e_read_web, e_law_source, e_law_draw, e_law_pick, e_law_web, e_law_due, e_law_read, e_law_loose, e_law_bent, e_law]
  rfl
theorem prog_eq : progOf L cs kt 40 = Pr := by
  funext f
  unfold progOf Pr
  rw [find_tab, tab_eq]
theorem has : Has (progOf L cs kt 40) := ⟨P_is_row, P_is_web_of, P_is_web, P_check_web, P_web_text, P_read_web, P_law_source, P_law_draw, P_law_pick, P_law_web, P_law_due, P_law_read, P_law_loose, P_law_bent, P_law⟩

end K03

namespace K03
open PySem PySem.Spec PyProof.Rows L2 Pe
abbrev R : PySem.W.OpenRow := PySem.W.OpenLaw.row PySem.Challenge.rw_fullpieces_k03_web_texts
def fa : List He.Fa := faOf L gs
abbrev hk : PySem.W.Hook := hookP 6 fa L ki
def ob (s : PySem.W.SharedT) : AlP := obsPG 6 fa L ki (HandSHeadRun.getT s)
theorem ob_eq (s : PySem.W.SharedT) : ob s = hk.obs s.abs := obsPG_eq (HandSHeadRun.getT_eq s)
def loose0 : List PySem.Str := [("__name__" : PySem.Str), ("WebError" : PySem.Str), ("InvalidWeb" : PySem.Str), ("InvalidText" : PySem.Str), ("MOST_SIDE" : PySem.Str), ("is_row" : PySem.Str), ("is_web_of" : PySem.Str), ("is_web" : PySem.Str), ("check_web" : PySem.Str), ("web_text" : PySem.Str), ("read_web" : PySem.Str), ("_law_source" : PySem.Str)]
def loose1 : List PySem.Str := [("_law_draw" : PySem.Str), ("_law_pick" : PySem.Str), ("_law_web" : PySem.Str), ("_law_due" : PySem.Str), ("_law_read" : PySem.Str), ("_law_loose" : PySem.Str), ("_law_bent" : PySem.Str)]
def loose : List PySem.Str := loose0 ++ loose1
theorem run (w : World) : HandSHeadRun.RunEq R (PySem.W.view R.prog [22]) hk ob 6000 loose w := by
  intro os
  kernel_rfl
theorem pre : ∀ d ∈ L, FdPre d := by
  intro d hd
  simp only [L, List.mem_cons, List.not_mem_nil, or_false] at hd
  rcases hd with rfl | rfl | rfl | rfl | rfl | rfl | rfl | rfl | rfl | rfl | rfl | rfl | rfl | rfl | rfl
  · exact p_is_row
  · exact p_is_web_of
  · exact p_is_web
  · exact p_check_web
  · exact p_web_text
  · exact p_read_web
  · exact p_law_source
  · exact p_law_draw
  · exact p_law_pick
  · exact p_law_web
  · exact p_law_due
  · exact p_law_read
  · exact p_law_loose
  · exact p_law_bent
  · exact p_law
theorem wf : wfB L ki = true := by kernel_rfl
theorem px : pxB (PySem.Challenge.rw_fullpieces_k03_web_texts).prog ki = true := by kernel_rfl
end K03
open PySem PySem.W PySem.Calls PyProof.Rows
/-- what is left: the evaluator's run -/
theorem K03.holds_of (hv : ∀ ns : List Int, ns.length ≤ 63 → ∃ S', Pe.evCall (Pe.progOf K03.L K03.cs K03.kt 40) 61 ⟨#[108, 97, 119]⟩ [.scr ns] .mt = .ok (.fz (.bl true)) S') : PySem.Challenge.rw_fullpieces_k03_web_texts.Holds := by
  w_on; o_law
  refine HandSHeadRun.head_any (r := OpenLaw.row PySem.Challenge.rw_fullpieces_k03_web_texts) (q := view (OpenLaw.row PySem.Challenge.rw_fullpieces_k03_web_texts).prog [22]) (H := K03.hk) (ob := K03.ob) (M := 6000) (loose := K03.loose) (d := HandSHeadRun.topDef (OpenLaw.row PySem.Challenge.rw_fullpieces_k03_web_texts).prog 22) (kwd := []) K03.ob_eq
    (by kernel_rfl) (fun s => by kernel_rfl) K03.run (by kernel_rfl) (by kernel_rfl) (by kernel_rfl) (by rfl) (by first | assumption | decide +kernel) (by decide +kernel) ⟨rfl, rfl, rfl, rfl, rfl, by decide +kernel⟩ ?hw ?hc
  case hw => w_witness2
  case hc =>
    refine Pe.walk_w (l := PySem.Challenge.rw_fullpieces_k03_web_texts) (n := 63) (k := 122) (x := "_law_script") rfl (by decide) (by kernel_rfl) ⟨rfl, by decide, by decide⟩ ?F
    case F =>
      intro w mg fa h Y G hmg0
      obtain ⟨K, KX, c⟩ := Y
      have hmg : mg (⟨#[108, 97, 119]⟩ : PySem.Str) = some (.ref fa) := by
        have e : (HandSHeadRun.topDef (OpenLaw.row PySem.Challenge.rw_fullpieces_k03_web_texts).prog 22).name = (⟨#[108, 97, 119]⟩ : PySem.Str) := by kernel_rfl
        rw [← e]
        exact hmg0
      obtain ⟨fd, hb, hF⟩ := Pe.law_fd (P := (PySem.Challenge.rw_fullpieces_k03_web_texts).prog) (w := w) (n := 40) (k := 60) (d := K03.d_law) (p := "_law_script") KX G c K03.pre K03.wf K03.px (l := ⟨#[108, 97, 119]⟩) (by rfl) (by rfl) (by decide +kernel) hmg
      exact ⟨K, fd, _, KX, hb, fun H a ns hl hS => Pe.law_sp hS (hv ns hl), hF⟩
/-- the law -/
theorem PySem.Challenge.cw_fullpieces_k03_web_texts_holds : PySem.Challenge.rw_fullpieces_k03_web_texts.Holds := by
  exact K03.holds_of fun ns hn => by
    rw [K03.prog_eq]
    exact K03.law_true hn
