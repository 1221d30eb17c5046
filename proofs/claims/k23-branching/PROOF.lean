import PyProof.Rows.All
import Wide.All
import OpenK.AllK
import Wide.FinOn
import HandS.ForMost
import HandS.ForExc
import HandS.StrMore
import HandS.TupAny
import HandS.TupMul
import HandS.IsInst
import HandS.Zip
import HandS.ReplaceLit
import HandS.HeadHook2
import KE.KDictKeyed
import HandS.Dict
import HandS.Conv
import KE.DataEq
import HandS.ExcCtx
import HandS.HotCalls
import HandS.More
import KE.SortCalls
import KE.DataCmp
import KE.SortData
import HandS.SortInts
import KE.DataMinMax
import KE.GoesMore
import PyProof.EnumMake
import HandS.Style
import HandS.ExcIs
import HandS.Deep
import KE.KDictWalk
import KE.KDictCopyH
import HandS.Iter
import HandS.HeadHook3
import HandS.TupSets
import KE.KeyNested
import HandS.SetFor
import HandS.Strs
import HandS.Defaults
import HandS.HeadHook4
import HandS.HeadEnd
import HandS.Codes
import HandS.ReplaceList
import HandS.Head2
import KE.KStateDown
import HandS.Head0
import HandS.Head1
import HandS.Ends
import HandS.Words
import HandS.WordsExc
import PySem.Challenge.RW_fallgroups_k23_branching_refused
set_option Elab.async false
set_option linter.all false
set_option maxRecDepth 100000
set_option maxHeartbeats 4000000
set_option autoImplicit false
/-! the small language: data, store, terms, their values -/
namespace G7
open PySem

/-- data without references -/
inductive P where
  | non | bl (b : Bool) | int (i : Int) | str (x : Str) | tup (xs : List P) | lst (xs : List P)

mutual
def P.py : P → PyData
  | .non => .none
  | .bl b => .bool b
  | .int i => .int i
  | .str x => .str x
  | .tup xs => .tuple (P.pys xs)
  | .lst xs => .list (P.pys xs)
def P.pys : List P → List PyData
  | [] => []
  | x :: xs => x.py :: P.pys xs
end
mutual
/-- what == says -/
def P.eqv : P → P → Bool
  | .non, .non => true
  | .bl a, .bl b => a == b
  | .bl a, .int j => (if a then 1 else 0) == j
  | .int i, .bl b => i == (if b then 1 else 0)
  | .int i, .int j => i == j
  | .str x, .str y => x == y
  | .tup xs, .tup ys => P.eqvs xs ys
  | .lst xs, .lst ys => P.eqvs xs ys
  | .non, .bl _ | .non, .int _ | .non, .str _ | .non, .tup _ | .non, .lst _ => false
  | .bl _, .non | .bl _, .str _ | .bl _, .tup _ | .bl _, .lst _ => false
  | .int _, .non | .int _, .str _ | .int _, .tup _ | .int _, .lst _ => false
  | .str _, .non | .str _, .bl _ | .str _, .int _ | .str _, .tup _ | .str _, .lst _ => false
  | .tup _, .non | .tup _, .bl _ | .tup _, .int _ | .tup _, .str _ | .tup _, .lst _ => false
  | .lst _, .non | .lst _, .bl _ | .lst _, .int _ | .lst _, .str _ | .lst _, .tup _ => false
def P.eqvs : List P → List P → Bool
  | [], [] => true
  | x :: xs, y :: ys => P.eqv x y && P.eqvs xs ys
  | [], _ :: _ => false
  | _ :: _, [] => false
end
mutual
/-- nested so deep at most -/
def P.lim : P → Nat → Bool
  | .tup xs, n + 1 => P.lims xs n
  | .lst xs, n + 1 => P.lims xs n
  | .tup _, 0 => false
  | .lst _, 0 => false
  | .non, _ => true
  | .bl _, _ => true
  | .int _, _ => true
  | .str _, _ => true
def P.lims : List P → Nat → Bool
  | [], _ => true
  | x :: xs, n => P.lim x n && P.lims xs n
end

mutual
/-- may stand within a key of a dict -/
def P.hk : P → Nat → Bool
  | .tup xs, n + 1 => P.hks xs n
  | .tup _, 0 => false
  | .lst _, _ => false
  | .bl _, _ => false
  | .non, _ => true
  | .int _, _ => true
  | .str _, _ => true
def P.hks : List P → Nat → Bool
  | [], _ => true
  | x :: xs, n => P.hk x n && P.hks xs n
end
/-- a key: a tuple -/
def P.key : P → Bool
  | .tup xs => (P.tup xs).hk 8
  | _ => false
/-- what stands under a key of a dict that grows: data, a list, a dict of keys -/
inductive IV where
  | p (a : P) | l (xs : List P) | d (ks : List P)
def findK {α : Type} (k : P) : List (P × α) → Option α
  | [] => none
  | (j, v) :: r => if j.eqv k = true then some v else findK k r
def putK {α : Type} (k : P) (v : α) : List (P × α) → List (P × α)
  | [] => [(k, v)]
  | (j, w) :: r => if j.eqv k = true then (j, v) :: r else (j, w) :: putK k v r

/-- a value: data, the script, an object of the store that stays, one that goes with the def's frame, a tuple with such in it, a def, a dict that is not changed any more -/
inductive D where
  | p (a : P) | scr (xs : List Int) | ref (n : Nat) | tmp (n : Nat) | tup (xs : List D) | fn (n : Nat) | dct (ks : List P) (vs : List D)
/-- a field: data, or an object that stays -/
inductive Fv where
  | p (a : P) | m (n : Nat)
/-- what stands in the store -/
inductive O where
  | lst (xs : List P) | dct (kvs : List (L2.Key × P)) | ins (fs : List (Str × Fv)) | dctL (kvs : List (L2.Key × P)) | dg (kvs : List (P × IV)) | gone
structure Sto where
  t : List O
  m : List O
/-- an end: a value, a refusal, nothing known -/
inductive R (α : Type) where
  | ok (a : α) (s : Sto) | exc (c : Nat) (s : Sto) | bad
def R.bind {α β : Type} (r : R α) (f : α → Sto → R β) : R β := match r with
  | .ok a s => f a s
  | .exc c s => .exc c s
  | .bad => .bad
theorem R.bind_ok {α β : Type} (a : α) (s : Sto) (f : α → Sto → R β) : (R.ok a s).bind f = f a s := rfl
theorem R.bind_exc {α β : Type} (c : Nat) (s : Sto) (f : α → Sto → R β) : (R.exc c s).bind f = .exc c s := rfl
theorem R.bind_bad {α β : Type} (f : α → Sto → R β) : (R.bad : R α).bind f = .bad := rfl
def R.of {α : Type} (o : Option α) (s : Sto) : R α := match o with
  | some a => .ok a s
  | none => .bad
theorem R.of_some {α : Type} (a : α) (s : Sto) : R.of (some a) s = .ok a s := rfl
theorem R.of_none {α : Type} (s : Sto) : (R.of none s : R α) = .bad := rfl

/-! ### the terms -/
inductive Ty where
  | int | bool | str | tuple | list
inductive B1 where
  | len | all | any | tuple | int | str | max1 | min1 | sum
inductive B2 where
  | min | max | maxT
inductive M1 where
  | strip | startswith | join | partition
inductive M2 where
  | count | index
inductive Tg where
  | name (i : Nat) | names (is : List Nat) | nest (i : Nat) (is : List Nat)
mutual
inductive E where
  | var (i : Nat)
  | con (a : P)
  | glb (x : Str) (a : P)
  | tup (es : Es)
  | fz (l : L)
  | own (l : L)
  | bin (op : Operator) (a b : E)
  | neg (a : E)
  | cmp (op : CmpOp) (a b : E)
  | chain (o1 o2 : CmpOp) (a b c : E)
  | and (es : Es)
  | or (es : Es)
  | not (a : E)
  | ite (c a b : E)
  | idx (a i : E)
  | slc (a : E) (lo hi : Eo)
  | call (f : Nat) (es : Es)
  | isi (a : E) (t : Ty)
  | b1 (f : B1) (a : E)
  | b2 (f : B2) (a b : E)
  | m1 (f : M1) (o a : E)
  | jr (sep : Str) (a : E) (y z : Str)
  | app (o a : E)
  | ext (o a : E)
  | nev
  | fld (a : E) (x : Str)
  | meth (f : Nat) (m : Str) (o : E) (es : Es)
  | make (f : Nat) (es : Es)
  | ownD
  | permD
  | perm (l : L)
  | dix (d k : E)
  | dlen (d : E)
  | b1k (f : B1) (i : Nat) (l : L)
  | ftab (fs : List Nat) (a : E) (es : Es)
  | m2 (f : M2) (o a : E)
  | gnew
  | gget (d k x : E)
  | gset (d k x : E)
  | sapp (d k x : E)
  | lset (a : E)
  | pop (o i : E)
  | tget (x : Str) (kvs : List (Str × Int)) (a b : E)
  | mkd (pm : Bool) (a : E)
inductive L where
  | disp (es : Es)
  | comp (tg : Tg) (it : I) (cs : Eo) (elt : E) (vs : List Nat)
  | lof (a : E)
  | split (o a : E)
  | add (a b : E)
  | lod (a : E)
  | srt (a : E)
  | rev (a : E)
  | rep (a b : E)
  | sset (a : E)
  | zipl (a b : E)
  | dvl (a : E)
inductive I where
  | val (e : E)
  | dk (e : E)
  | dks (e : E)
  | dit (e : E)
  | rng1 (e : E)
  | rng2 (a b : E)
  | enum (e : E)
  | zip (a b : E)
inductive Es where
  | nil
  | cons (e : E) (es : Es)
inductive Eo where
  | none
  | some (e : E)
end
mutual
inductive S where
  | asg (tg : Tg) (e : E)
  | exp (e : E)
  | ret (e : E)
  | ife (c : E) (a b : Ss)
  | loop (tg : Tg) (it : I) (b : Ss)
  | whl (n : Nat) (c : E) (b : Ss)
  | brk
  | pass
  | rais (c : Nat)
  | tryW (b : Ss) (i : Nat)
  | tryR (b : Ss) (x : Str)
  | par (is : List Nat) (es : Es)
  | nev
  | fput (o : E) (x : Str) (e : E)
  | dput (d k v : E)
  | iput (o i v : E)
  | sput (d k j v : E)
  | gfz (i : Nat) (st : S)
inductive Ss where
  | nil
  | cons (s : S) (ss : Ss)
end

/-! ### operations on data -/
def cut {α : Type} (xs : List α) (lo hi : Option Int) : List α := (xs.drop (HT.sIx xs.length 0 lo)).take (HT.sIx xs.length xs.length hi - HT.sIx xs.length 0 lo)
/-- data, tuples with nothing else in them -/
def allP : List D → Option (List P)
  | [] => some []
  | .p a :: ds => (allP ds).map (a :: ·)
  | _ :: _ => none
def mkTup (ds : List D) : D := match allP ds with
  | some ps => .p (.tup ps)
  | none => .tup ds
/-- a value as data, read off the store -/
def Sto.get (s : Sto) : D → Option P
  | .p a => some a
  | .tmp n => (match s.t[n]? with
    | some (.lst xs) => some (.lst xs)
    | _ => none)
  | .ref n => (match s.m[n]? with
    | some (.lst xs) => some (.lst xs)
    | _ => none)
  | _ => none
def Sto.get' (s : Sto) : D → Option P
  | .scr xs => some (.lst (xs.map .int))
  | d => s.get d
/-! dicts, instances -/
def keyP : P → Option L2.Key
  | .int i => some (.inl i)
  | .str x => some (.inr x)
  | _ => none
def kP : L2.Key → P
  | .inl i => .int i
  | .inr x => .str x
def Sto.dct (s : Sto) : D → Option (List (L2.Key × P))
  | .tmp n => (match s.t[n]? with
    | some (.dct kvs) => some kvs
    | some (.dctL kvs) => some kvs
    | _ => none)
  | .ref n => (match s.m[n]? with
    | some (.dct kvs) => some kvs
    | some (.dctL kvs) => some kvs
    | _ => none)
  | _ => none
/-- .. that no loop walks -/
def Sto.dctU (s : Sto) : D → Option (List (L2.Key × P))
  | .tmp n => (match s.t[n]? with
    | some (.dct kvs) => some kvs
    | _ => none)
  | .ref n => (match s.m[n]? with
    | some (.dct kvs) => some kvs
    | _ => none)
  | _ => none
/-- .. that a loop walks -/
def Sto.dctW (s : Sto) : D → Option (List (L2.Key × P))
  | .tmp n => (match s.t[n]? with
    | some (.dctL kvs) => some kvs
    | _ => none)
  | _ => none
def valP (kvs : List (L2.Key × P)) (k : L2.Key) : Option P := (kvs.find? fun kv => decide (kv.1 = k)).map (·.2)
def putP (kvs : List (L2.Key × P)) (k : L2.Key) (v : P) : List (L2.Key × P) :=
  if kvs.any (fun kv => decide (kv.1 = k)) then kvs.map (fun kv => if kv.1 = k then (kv.1, v) else kv) else kvs ++ [(k, v)]
def Sto.ins (s : Sto) : D → Option (List (Str × Fv))
  | .ref n => (match s.m[n]? with
    | some (.ins fs) => some fs
    | _ => none)
  | _ => none
def putFv (f : Str) (v : Fv) : List (Str × Fv) → List (Str × Fv)
  | [] => [(f, v)]
  | (g, x) :: r => if g = f then (g, v) :: r else (g, x) :: putFv f v r
def fvD : Fv → D
  | .p a => .p a
  | .m n => .ref n
def dFv : D → Option Fv
  | .p a => some (.p a)
  | .ref n => some (.m n)
  | _ => none
/-- a dict that grows -/
def Sto.dg (s : Sto) : D → Option (List (P × IV))
  | .tmp n => (match s.t[n]? with
    | some (.dg kvs) => some kvs
    | _ => none)
  | _ => none
def dctF (k : P) : List P → List D → Option D
  | j :: ks, v :: vs => if j.eqv k = true then some v else dctF k ks vs
  | _, _ => none
def ivP : IV → Option D
  | .p a => some (.p a)
  | _ => none
def ivF : IV → D
  | .p a => .p a
  | .l xs => .p (.lst xs)
  | .d ks => .dct ks (ks.map fun _ => .p (.bl true))
/-- what stands under a key: none where the dict or the key is none of ours -/
def dFind (s : Sto) (d : D) (k : P) : Option (Option D) := match d with
  | .dct ks vs => if k.key = true then some (dctF k ks vs) else none
  | d => (match s.dg d with
    | some kvs => if k.key = true then (match findK k kvs with
      | some iv => (ivP iv).map some
      | none => some none) else none
    | none => (match s.dct d, keyP k with
      | some kvs, some kk => some ((valP kvs kk).map .p)
      | _, _ => none))
def dixD (d e : D) (s : Sto) : R D := match s.dct d, e with
  | some kvs, .p a => (match keyP a with
    | some k => R.of ((valP kvs k).map .p) s
    | none => .bad)
  | none, .p a => (match dFind s d a with
    | some (some v) => .ok v s
    | _ => .bad)
  | _, _ => .bad
def dlenD (d : D) (s : Sto) : R D := match s.dct d with
  | some kvs => .ok (.p (.int kvs.length)) s
  | none => (match d with
    | .dct ks _ => .ok (.p (.int ks.length)) s
    | d => (match s.dg d with
      | some kvs => .ok (.p (.int kvs.length)) s
      | none => .bad))
def fldD (d : D) (x : Str) (s : Sto) : R D := match s.ins d with
  | some fs => (match fs.lookup x with
    | some v => .ok (fvD v) s
    | none => .bad)
  | none => .bad
/-- data in order -/
def intsP : List P → Option (List Int)
  | [] => some []
  | .int i :: r => (intsP r).map (i :: ·)
  | _ :: _ => none
mutual
/-- may be asked which is less -/
def P.cok : P → P → Bool
  | .int _, .int _ => true
  | .str _, .str _ => true
  | .tup xs, .tup ys => P.coks xs ys
  | .lst xs, .lst ys => P.coks xs ys
  | .non, _ => false
  | .bl _, _ => false
  | .int _, .non | .int _, .bl _ | .int _, .str _ | .int _, .tup _ | .int _, .lst _ => false
  | .str _, .non | .str _, .bl _ | .str _, .int _ | .str _, .tup _ | .str _, .lst _ => false
  | .tup _, .non | .tup _, .bl _ | .tup _, .int _ | .tup _, .str _ | .tup _, .lst _ => false
  | .lst _, .non | .lst _, .bl _ | .lst _, .int _ | .lst _, .str _ | .lst _, .tup _ => false
def P.coks : List P → List P → Bool
  | x :: xs, y :: ys => if x.eqv y = true then P.coks xs ys else P.cok x y
  | [], _ => true
  | _ :: _, [] => true
end
mutual
def P.lt : P → P → Bool
  | .int i, .int j => decide (i < j)
  | .str x, .str y => decide (x.cps.toList < y.cps.toList)
  | .tup xs, .tup ys => P.lts xs ys
  | .lst xs, .lst ys => P.lts xs ys
  | .non, _ => false
  | .bl _, _ => false
  | .int _, .non | .int _, .bl _ | .int _, .str _ | .int _, .tup _ | .int _, .lst _ => false
  | .str _, .non | .str _, .bl _ | .str _, .int _ | .str _, .tup _ | .str _, .lst _ => false
  | .tup _, .non | .tup _, .bl _ | .tup _, .int _ | .tup _, .str _ | .tup _, .lst _ => false
  | .lst _, .non | .lst _, .bl _ | .lst _, .int _ | .lst _, .str _ | .lst _, .tup _ => false
def P.lts : List P → List P → Bool
  | x :: xs, y :: ys => if x.eqv y = true then P.lts xs ys else P.lt x y
  | [], _ :: _ => true
  | [], [] => false
  | _ :: _, [] => false
end
def P.le (a b : P) : Bool := !(b.lt a)
/-- the kind by which a sort compares -/
def P.sk : P → Nat
  | .int _ => 1
  | .str _ => 2
  | .lst _ => 3
  | .tup (.int _ :: _) => 4
  | .tup (.str _ :: _) => 5
  | .tup (.lst _ :: _) => 6
  | .tup (.tup _ :: _) => 7
  | _ => 0
def srtOk (xs : List P) : Bool := xs.all (fun a => a.lim 20 && (a.sk != 0 && xs.all fun b => a.cok b && (a.sk == b.sk)))
def srtP (xs : List P) : List P := xs.mergeSort P.le
/-- each once, as first met -/
def nubP : List P → List P
  | [] => []
  | x :: xs => x :: (nubP xs).filter fun y => !(x.eqv y)
def isStrP : P → Bool
  | .str _ => true
  | _ => false
/-- may all stand in one set -/
def setOk (xs : List P) : Bool := decide (xs.length < 64) && (xs.all isStrP || xs.all P.key)
def binP (op : Operator) (a b : P) : Option P := match op, a, b with
  | .Add, .int i, .int j => some (.int (i + j))
  | .Add, .str x, .str y => if x.length + y.length ≤ sizeLine then some (.str (x ++ y)) else none
  | .Add, .tup xs, .tup ys => if xs.length + ys.length ≤ sizeLine then some (.tup (xs ++ ys)) else none
  | .Add, .lst xs, .lst ys => if xs.length + ys.length ≤ sizeLine then some (.lst (xs ++ ys)) else none
  | .Sub, .int i, .int j => some (.int (i - j))
  | .Mult, .int i, .int j => if (-(2 ^ 64) < i ∧ i < 2 ^ 64) ∨ (-(2 ^ 64) < j ∧ j < 2 ^ 64) then some (.int (i * j)) else none
  | .Mult, .str x, .int k => if 0 ≤ k ∧ k ≤ 1000 ∧ x.length ≤ 1000 then some (.str (Txt.mul x k)) else none
  | .Mult, .tup xs, .int k => if xs ≠ [] ∧ 1 ≤ k ∧ k ≤ 1000 ∧ xs.length ≤ 1000 then some (.tup (List.replicate k.toNat xs).flatten) else none
  | .Mult, .lst xs, .int k => if -(2 ^ 63) ≤ k ∧ k < 2 ^ 63 ∧ xs.length * k.toNat ≤ sizeLine then some (.lst (List.replicate k.toNat xs).flatten) else none
  | .Mod, .int i, .int j => if 0 < j then some (.int (i % j)) else none
  | .FloorDiv, .int i, .int j => if 0 < j ∧ j < 1073741824 then some (.int (i / j)) else none
  | .Pow, .int i, .int j => if 0 ≤ j ∧ j ≤ 1000000 ∧ i.natAbs < 2 ^ 64 then some (.int (i ^ j.toNat)) else none
  | _, _, _ => none
def cmpP (op : CmpOp) (a b : P) : Option Bool := match op, a, b with
  | .Eq, a, b => if a.lim 20 || b.lim 20 then some (a.eqv b) else none
  | .NotEq, a, b => if a.lim 20 || b.lim 20 then some (!a.eqv b) else none
  | .Lt, .int i, .int j => some (decide (i < j))
  | .LtE, .int i, .int j => some (decide (i ≤ j))
  | .Gt, .int i, .int j => some (decide (j < i))
  | .GtE, .int i, .int j => some (decide (j ≤ i))
  | .LtE, .str x, .str y => some (!decide (y.cps.toList < x.cps.toList))
  | .In, .str x, .str y => some (!(Builtin.Str.occurrences y x 0 y.length 1).isEmpty)
  | .NotIn, .str x, .str y => some (!(!(Builtin.Str.occurrences y x 0 y.length 1).isEmpty))
  | .In, a, .lst ys => if a.lim 20 then some (ys.any fun y => y.eqv a) else none
  | .NotIn, a, .lst ys => if a.lim 20 then some (!ys.any fun y => y.eqv a) else none
  | .In, a, .tup ys => if a.lim 20 then some (ys.any fun y => y.eqv a) else none
  | .NotIn, a, .tup ys => if a.lim 20 then some (!ys.any fun y => y.eqv a) else none
  | _, _, _ => none
/-- whether a key is there -/
def dHas (s : Sto) (d : D) (k : P) : Option Bool := match d with
  | .dct ks vs => if k.key = true then some (dctF k ks vs).isSome else none
  | d => (match s.dg d with
    | some kvs => if k.key = true then some (findK k kvs).isSome else none
    | none => none)
def isNon : D → Bool
  | .p .non => true
  | _ => false
def cmpD (op : CmpOp) (d e : D) (s : Sto) : R D := match op, d, e with
  | .Is, d, .p .non => .ok (.p (.bl (isNon d))) s
  | .IsNot, d, .p .non => .ok (.p (.bl (!isNon d))) s
  | op, d, e => (match s.get' d, s.get' e with
    | some a, some b => R.of ((cmpP op a b).map fun k => .p (.bl k)) s
    | some a, none => (match s.dct e, keyP a, op with
      | some kvs, some k, .In => .ok (.p (.bl (valP kvs k).isSome)) s
      | some kvs, some k, .NotIn => .ok (.p (.bl (!(valP kvs k).isSome))) s
      | none, _, .In => (match dHas s e a with
        | some b => .ok (.p (.bl b)) s
        | none => .bad)
      | none, _, .NotIn => (match dHas s e a with
        | some b => .ok (.p (.bl (!b))) s
        | none => .bad)
      | _, _, _ => .bad)
    | _, _ => .bad)
def atP (a : P) (k : Int) : Option P := match a with
  | .tup xs => L2.atI xs k
  | .lst xs => L2.atI xs k
  | .str x => if x.length ≤ sizeLine then (L2.atI x.cps.toList k).map fun c => .str ⟨#[c]⟩ else none
  | _ => none
def idxD (d e : D) (s : Sto) : R D := match d, e with
  | .scr xs, .p (.int k) => R.of ((L2.atI xs k).map fun i => .p (.int i)) s
  | .tup ds, .p (.int k) => R.of (L2.atI ds k) s
  | d, .p (.int k) => (match s.get d with
    | some a => R.of ((atP a k).map .p) s
    | none => .bad)
  | _, _ => .bad
def slcP (a : P) (lo hi : Option Int) : Option P := match a with
  | .tup xs => some (.tup (cut xs lo hi))
  | .lst xs => some (.lst (cut xs lo hi))
  | .str x => if x.length ≤ sizeLine then some (.str (L2.cutS x lo hi)) else none
  | _ => none
def isTyP : Ty → P → Bool
  | .int, .int _ => true
  | .int, .bl _ => true
  | .bool, .bl _ => true
  | .str, .str _ => true
  | .tuple, .tup _ => true
  | .list, .lst _ => true
  | _, _ => false
def isTy (s : Sto) (t : Ty) (d : D) : Option Bool := (s.get d).map (isTyP t)
def allBl : List P → Option (List Bool)
  | [] => some []
  | .bl b :: ds => (allBl ds).map (b :: ·)
  | _ :: _ => none
def allStr : List P → Option (List Str)
  | [] => some []
  | .str b :: ds => (allStr ds).map (b :: ·)
  | _ :: _ => none
def b1P (f : B1) (a : P) : Option P := match f, a with
  | .len, .str x => if x.length ≤ sizeLine then some (.int x.length) else none
  | .len, .tup xs => some (.int xs.length)
  | .len, .lst xs => some (.int xs.length)
  | .all, .lst xs => (allBl xs).map fun bs => .bl (bs.all id)
  | .any, .lst xs => (allBl xs).map fun bs => .bl (bs.any id)
  | .tuple, .lst xs => some (.tup xs)
  | .tuple, .tup xs => some (.tup xs)
  | .int, .int i => some (.int i)
  | .int, .bl b => some (.int (if b then 1 else 0))
  | .str, .int i => if i.natAbs.log2 < 1920 then some (.str (toString i)) else none
  | .int, .str x => if x.length ≤ 640 then (PySem.intText? x).map .int else none
  | .max1, .lst xs => (intsP xs).bind fun is => is.max?.map .int
  | .min1, .lst xs => (intsP xs).bind fun is => is.min?.map .int
  | .sum, .lst xs => (intsP xs).map fun is => .int is.sum
  | _, _ => none
def b1D (f : B1) (d : D) (s : Sto) : R D := match f, d with
  | .len, .scr xs => .ok (.p (.int xs.length)) s
  | f, d => (match s.get d with
    | some a => R.of ((b1P f a).map .p) s
    | none => .bad)
/-- the first unlike items are ints -/
def gokB : List P → List P → Bool
  | x :: xs, y :: ys => if x.eqv y = true then gokB xs ys else (match x, y with
    | .int _, .int _ => true
    | _, _ => false)
  | [], _ => true
  | _ :: _, [] => true
def b2P (f : B2) (a b : P) : Option P := match f, a, b with
  | .min, .int i, .int j => some (.int (if j < i then j else i))
  | .max, .int i, .int j => some (.int (if j > i then j else i))
  | .maxT, .tup xs, .tup ys => if gokB xs ys = true ∧ (P.tup xs).lim 20 = true ∧ (P.tup ys).lim 20 = true then some (if P.lts xs ys = true then .tup ys else .tup xs) else none
  | _, _, _ => none
def m2P (f : M2) (ys : List P) (a : P) : Option P := match f with
  | .count => if a.lim 20 = true then some (.int (ys.countP fun y => y.eqv a)) else none
  | .index => if a.lim 20 = true then (ys.findIdx? fun y => y.eqv a).map (fun (j : Nat) => P.int (j : Int)) else none
def joinFits (sep : Str) (ys : List Str) : Bool := decide ((ys.map (·.length)).sum + ys.length * sep.length ≤ 1000000)
def m1P (f : M1) (a b : P) : Option P := match f, a, b with
  | .strip, .str x, .str y => if x.length ≤ sizeLine then some (.str (Txt.stripChars x y)) else none
  | .startswith, .str x, .str y => some (.bl (Txt.startswith x y))
  | .partition, .str x, .str y => if (y.length == 0) = false ∧ x.length ≤ sizeLine then some (.tup [.str (Txt.partition x y).1, .str (Txt.partition x y).2.1, .str (Txt.partition x y).2.2]) else none
  | .join, .str x, .lst ys => (allStr ys).bind fun zs => if joinFits x zs then some (.str (Txt.join x zs)) else none
  | _, _, _ => none

/-! ### what is walked -/
inductive Src where
  | fix (xs : List D) | tm (n : Nat) | rf (n : Nat)
def Src.at (r : Src) (s : Sto) (j : Nat) : Option (Option D) := match r with
  | .fix xs => some xs[j]?
  | .tm n => (match s.t[n]? with
    | some (.lst xs) => some (xs[j]?.map .p)
    | _ => none)
  | .rf n => (match s.m[n]? with
    | some (.lst xs) => some (xs[j]?.map .p)
    | _ => none)
def Src.len (r : Src) (s : Sto) : Nat := match r with
  | .fix xs => xs.length
  | .tm n => (match s.t[n]? with
    | some (.lst xs) => xs.length
    | _ => 0)
  | .rf n => (match s.m[n]? with
    | some (.lst xs) => xs.length
    | _ => 0)
def srcOf (s : Sto) (d : D) : Option Src := match d with
  | .p (.lst xs) => some (.fix (xs.map .p))
  | .p (.tup xs) => some (.fix (xs.map .p))
  | .p (.str x) => if x.length ≤ sizeLine then some (.fix (x.cps.toList.map fun c => .p (.str ⟨#[c]⟩))) else none
  | .tup ds => some (.fix ds)
  | .tmp n => (match s.t[n]? with
    | some (.lst _) => some (.tm n)
    | _ => none)
  | .ref n => (match s.m[n]? with
    | some (.lst _) => some (.rf n)
    | _ => none)
  | _ => none
def rangeL (lo : Int) (n : Nat) : List D := (List.range n).map fun (k : Nat) => D.p (.int (lo + k))
def enumL : List P → Nat → List D
  | [], _ => []
  | x :: xs, i => .p (.tup [.int i, x]) :: enumL xs (i + 1)
def enumOf (a : P) : Option Src := match a with
  | .lst xs => some (.fix (enumL xs 0))
  | .tup xs => some (.fix (enumL xs 0))
  | .str x => if x.length ≤ sizeLine then some (.fix (enumL (x.cps.toList.map fun c => .str ⟨#[c]⟩) 0)) else none
  | _ => none
def zipL (xs ys : List P) : List D := List.zipWith (fun a b => D.p (.tup [a, b])) xs ys
def zipOf (a b : P) : Option Src := match a, b with
  | .lst xs, .lst ys => some (.fix (zipL xs ys))
  | .tup xs, .tup ys => some (.fix (zipL xs ys))
  | _, _ => none

/-! ### slots -/
abbrev Sl := List (Option D)
def wipe (σ : Sl) : List Nat → Sl
  | [] => σ
  | v :: vs => (wipe σ vs).set v none
def setAll (σ : Sl) : List Nat → List D → Option Sl
  | [], [] => some σ
  | i :: is, d :: ds => setAll (σ.set i (some d)) is ds
  | _, _ => none
def Tg.put (tg : Tg) (d : D) (σ : Sl) : Option Sl := match tg, d with
  | .name i, d => some (σ.set i (some d))
  | .names is, .p (.tup xs) => setAll σ is (xs.map .p)
  | .names is, .tup ds => setAll σ is ds
  | .nest i is, .p (.tup [a, .tup xs]) => setAll (σ.set i (some (.p a))) is (xs.map .p)
  | _, _ => none

/-! ### what terms are worth -/
abbrev Fns := Nat → List D → Sto → R D
/-- a comprehension's loop: the step tells the new item, if there is one -/
def lcLoop (r : Src) (step : D → Sto → R (Option P)) : Nat → Nat → List P → Sto → R (List P)
  | 0, _, _, _ => .bad
  | n + 1, j, acc, s => match r.at s j with
    | none => .bad
    | some none => .ok acc s
    | some (some d) => match step d s with
      | .ok o s' => (match o with
        | some a => lcLoop r step n (j + 1) (acc ++ [a]) s'
        | none => lcLoop r step n (j + 1) acc s')
      | _ => .bad
def Sto.pushT (s : Sto) (o : O) : Sto := ⟨s.t ++ [o], s.m⟩
def Sto.pushM (s : Sto) (o : O) : Sto := ⟨s.t, s.m ++ [o]⟩
def Sto.setT (s : Sto) (n : Nat) (o : O) : Sto := ⟨s.t.set n o, s.m⟩
def Sto.setM (s : Sto) (n : Nat) (o : O) : Sto := ⟨s.t, s.m.set n o⟩
def appD (d e : D) (s : Sto) : R D := match d, e with
  | .tmp n, .p a => (match s.t[n]? with
    | some (.lst xs) => if xs.length < sizeLine then .ok (.p .non) (s.setT n (.lst (xs ++ [a]))) else .bad
    | _ => .bad)
  | .ref n, .p a => (match s.m[n]? with
    | some (.lst xs) => if xs.length < sizeLine then .ok (.p .non) (s.setM n (.lst (xs ++ [a]))) else .bad
    | _ => .bad)
  | _, _ => .bad
def extD (d e : D) (s : Sto) : R D := match d, e with
  | .tmp n, .p (.lst ys) => (match s.t[n]? with
    | some (.lst xs) => if xs.length + ys.length ≤ sizeLine then .ok (.p .non) (s.setT n (.lst (xs ++ ys))) else .bad
    | _ => .bad)
  | _, _ => .bad
/-- xs.pop(i), xs a list of the frame -/
def popD (d e : D) (s : Sto) : R D := match d, e with
  | .tmp n, .p (.int i) => (match s.t[n]? with
    | some (.lst xs) => (match L2.ixN xs.length i with
      | some j => (match xs[j]? with
        | some a => .ok (.p a) (s.setT n (.lst (xs.eraseIdx j)))
        | none => .bad)
      | none => .bad)
    | _ => .bad)
  | _, _ => .bad
def dputD (d e x : D) (s : Sto) : R D := match s.dctU d, e, x with
  | some kvs, .p b, .p a => (match keyP b with
    | some k => if kvs.length < sizeLine then (match d with
      | .tmp n => .ok (.p .non) (s.setT n (.dct (putP kvs k a)))
      | .ref n => .ok (.p .non) (s.setM n (.dct (putP kvs k a)))
      | _ => .bad) else .bad
    | none => .bad)
  | _, _, _ => .bad
/-- d[k] = v in a dict that grows -/
def gputD (d e x : D) (s : Sto) : R D := match d, s.dg d, e, x with
  | .tmp n, some kvs, .p b, .p a => if b.key = true ∧ kvs.length < sizeLine then (match findK b kvs with
    | some (.p _) => .ok (.p .non) (s.setT n (.dg (putK b (.p a) kvs)))
    | none => .ok (.p .non) (s.setT n (.dg (putK b (.p a) kvs)))
    | _ => .bad) else .bad
  | _, _, _, _ => .bad
def dputX (d e x : D) (s : Sto) : R D := match s.dg d with
  | some _ => gputD d e x s
  | none => dputD d e x s
/-- d.get(k, x) -/
def ggetD (d k x : D) (s : Sto) : R D := match k with
  | .p a => (match dFind s d a with
    | some (some v) => .ok v s
    | some none => .ok x s
    | none => .bad)
  | _ => .bad
/-- d.setdefault(k, x), x data -/
def gsetD (d e x : D) (s : Sto) : R D := match d, s.dg d, e, x with
  | .tmp n, some kvs, .p b, .p a => if b.key = true ∧ kvs.length < sizeLine then (match findK b kvs with
    | some (.p c) => .ok (.p c) s
    | none => .ok (.p a) (s.setT n (.dg (putK b (.p a) kvs)))
    | _ => .bad) else .bad
  | _, _, _, _ => .bad
/-- d.setdefault(k, []), d.setdefault(k, {}) -/
def sdefD (iv : IV) (d e : D) (s : Sto) : R D := match d, s.dg d, e with
  | .tmp n, some kvs, .p b => if b.key = true ∧ kvs.length < sizeLine then (match iv, findK b kvs with
    | .l _, some (.l _) => .ok (.p .non) s
    | .d _, some (.d _) => .ok (.p .non) s
    | iv, none => .ok (.p .non) (s.setT n (.dg (putK b iv kvs)))
    | _, _ => .bad) else .bad
  | _, _, _ => .bad
/-- .. .append(x) -/
def sappD (d e x : D) (s : Sto) : R D := match d, s.dg d, e, x with
  | .tmp n, some kvs, .p b, .p a => (match findK b kvs with
    | some (.l xs) => if xs.length < sizeLine then .ok (.p .non) (s.setT n (.dg (putK b (.l (xs ++ [a])) kvs))) else .bad
    | _ => .bad)
  | _, _, _, _ => .bad
/-- ..[j] = True -/
def sputD (d e j : D) (s : Sto) : R D := match d, s.dg d, e, j with
  | .tmp n, some kvs, .p b, .p a => (match findK b kvs with
    | some (.d ks) => if a.key = true ∧ ks.length < sizeLine then .ok (.p .non) (s.setT n (.dg (putK b (.d (if ks.any (fun y => y.eqv a) = true then ks else ks ++ [a])) kvs))) else .bad
    | _ => .bad)
  | _, _, _, _ => .bad
/-- xs[i] = v, xs a list of the frame -/
def iputD (d e x : D) (s : Sto) : R D := match d, e, x with
  | .tmp n, .p (.int i), .p a => (match s.t[n]? with
    | some (.lst xs) => (match L2.ixN xs.length i with
      | some j => .ok (.p .non) (s.setT n (.lst (xs.set j a)))
      | none => .bad)
    | _ => .bad)
  | _, _, _ => .bad
def m2D (f : M2) (d e : D) (s : Sto) : R D := match s.get d, s.get e with
  | some (.lst ys), some a => R.of ((m2P f ys a).map .p) s
  | _, _ => .bad
/-- what a set is made of -/
def setL (s : Sto) (d : D) : Option (List P) := match s.get d with
  | some (.lst xs) => if setOk xs = true then some (nubP xs) else none
  | some (.tup xs) => if setOk xs = true then some (nubP xs) else none
  | _ => none
def lsetD (d : D) (s : Sto) : R D := R.of ((setL s d).map fun xs => .p (.int xs.length)) s
def nubI : List Int → List Int
  | [] => []
  | x :: xs => x :: (nubI xs).filter fun y => decide (y ≠ x)
def ssetD (d : D) (s : Sto) : R (List P) := match s.get d with
  | some (.lst xs) => (match intsP xs with
    | some is => if is.length < 64 then .ok (((nubI is).mergeSort fun a b => decide (a ≤ b)).map .int) s else .bad
    | none => if setOk xs = true ∧ srtOk (nubP xs) = true then .ok (srtP (nubP xs)) s else .bad)
  | some (.tup xs) => if setOk xs = true ∧ srtOk (nubP xs) = true then .ok (srtP (nubP xs)) s else .bad
  | _ => .bad
def repD (d e : D) (s : Sto) : R (List P) := match s.get d, e with
  | some (.lst xs), .p (.int k) => if -(2 ^ 63) ≤ k ∧ k < 2 ^ 63 ∧ xs.length * k.toNat ≤ sizeLine then .ok (List.replicate k.toNat xs).flatten s else .bad
  | _, _ => .bad
def revD (d : D) (s : Sto) : R (List P) := match s.get d with
  | some (.lst xs) => .ok xs.reverse s
  | _ => .bad
def ziplD (d e : D) (s : Sto) : R (List P) := match s.get d, s.get e with
  | some (.lst xs), some (.lst ys) => .ok (List.zipWith (fun a b => .tup [a, b]) xs ys) s
  | _, _ => .bad
/-- list(d.values()) -/
def dvlD (d : D) (s : Sto) : R (List P) := match d with
  | .dct _ vs => R.of (allP vs) s
  | _ => .bad
def isDct (s : Sto) (d : D) : Bool := match d with
  | .dct _ _ => true
  | d => (s.dg d).isSome || (s.dctU d).isSome
def keysD (d : D) (s : Sto) : R (List P) := match d with
  | .dct ks _ => .ok ks s
  | d => (match s.dg d with
    | some kvs => .ok (kvs.map (·.1)) s
    | none => .bad)
def itemsL : List P → List D → List D
  | k :: ks, v :: vs => mkTup [.p k, v] :: itemsL ks vs
  | _, _ => []
def noD : IV → Bool
  | .d _ => false
  | _ => true
def frzSl (i : Nat) (σ : Sl) (s : Sto) : Option (Sl × Sto) := match σ[i]? with
  | some (some (.tmp n)) => (match s.t[n]? with
    | some (.dg kvs) => if kvs.all (fun kv => noD kv.2) = true then some (σ.set i (some (.dct (kvs.map (·.1)) (kvs.map fun kv => ivF kv.2))), s.setT n .gone) else none
    | _ => none)
  | _ => none
def fputD (d : D) (x : Str) (e : D) (s : Sto) : R D := match d, s.ins d, dFv e with
  | .ref n, some fs, some v => if fs.length < 100 then .ok (.p .non) (s.setM n (.ins (putFv x v fs))) else .bad
  | _, _, _ => .bad
/-- a table of functions -/
def tabF (fs : List Nat) (d : D) (s : Sto) : R Nat := match d with
  | .p (.int i) => R.of (L2.atI fs i) s
  | _ => .bad
/-- with the dict of a slot locked -/
def lockL (i : Nat) (fl : Sl → Sto → R (List P)) (σ : Sl) (s : Sto) : R (List P) := match σ[i]? with
  | some (some (.tmp n)) => (match s.t[n]? with
    | some (.dct kvs) => (match fl σ (s.setT n (.dctL kvs)) with
      | .ok xs s2 => (match s2.t[n]? with
        | some (.dctL _) => .ok xs (s2.setT n (.dct kvs))
        | _ => .bad)
      | _ => .bad)
    | _ => .bad)
  | _ => .bad
/-- dict(pairs) -/
def pairP : P → Option (L2.Key × P)
  | .tup [a, b] => (keyP a).map fun k => (k, b)
  | _ => none
def pairsL : List P → Option (List (L2.Key × P))
  | [] => some []
  | x :: xs => (pairP x).bind fun p => (pairsL xs).map fun ps => p :: ps
def mergeP (kvs : List (L2.Key × P)) : List (L2.Key × P) := kvs.foldl (fun acc kv => putP acc kv.1 kv.2) []
def pairsOf (s : Sto) (d : D) : Option (List (L2.Key × P)) := match s.get d with
  | some (.lst xs) => pairsL xs
  | some (.tup xs) => pairsL xs
  | _ => none
def mkdD (pm : Bool) (d : D) (s : Sto) : R D := match pairsOf s d with
  | some kvs => if pm = true then .ok (.ref s.m.length) (s.pushM (.dct (mergeP kvs))) else .ok (.tmp s.t.length) (s.pushT (.dct (mergeP kvs)))
  | none => .bad
/-- a table of the module is asked -/
def tgetD (kvs : List (Str × Int)) (d e : D) (s : Sto) : R D := match d with
  | .p (.str z) => (match kvs.lookup z with
    | some i => .ok (.p (.int i)) s
    | none => .ok e s)
  | _ => .bad
mutual
def ev (F : Fns) : E → Sl → Sto → R D
  | .var i, σ, s => (match σ[i]? with
    | some (some d) => .ok d s
    | _ => .bad)
  | .con a, _, s => .ok (.p a) s
  | .glb _ a, _, s => .ok (.p a) s
  | .tup es, σ, s => (evs F es σ s).bind fun ds s => .ok (mkTup ds) s
  | .fz l, σ, s => (evL F l σ s).bind fun xs s => .ok (.p (.lst xs)) s
  | .own l, σ, s => (evL F l σ s).bind fun xs s => .ok (.tmp s.t.length) (s.pushT (.lst xs))
  | .bin op a b, σ, s => (ev F a σ s).bind fun d s => (ev F b σ s).bind fun e s => (match s.get d, s.get e with
    | some x, some y => R.of ((binP op x y).map .p) s
    | _, _ => .bad)
  | .neg a, σ, s => (ev F a σ s).bind fun d s => (match d with
    | .p (.int i) => .ok (.p (.int (-i))) s
    | _ => .bad)
  | .cmp op a b, σ, s => (ev F a σ s).bind fun d s => (ev F b σ s).bind fun e s => cmpD op d e s
  | .chain o1 o2 a b c, σ, s => (ev F a σ s).bind fun d s => (ev F b σ s).bind fun e s => (cmpD o1 d e s).bind fun k s => (match k with
    | .p (.bl true) => (ev F c σ s).bind fun f s => cmpD o2 e f s
    | .p (.bl false) => .ok (.p (.bl false)) s
    | _ => .bad)
  | .and es, σ, s => evAnd F es σ s
  | .or es, σ, s => evOr F es σ s
  | .not a, σ, s => (ev F a σ s).bind fun d s => (match d with
    | .p (.bl b) => .ok (.p (.bl (!b))) s
    | _ => .bad)
  | .ite c a b, σ, s => (ev F c σ s).bind fun d s => (match d with
    | .p (.bl true) => ev F a σ s
    | .p (.bl false) => ev F b σ s
    | _ => .bad)
  | .idx a i, σ, s => (ev F a σ s).bind fun d s => (ev F i σ s).bind fun e s => idxD d e s
  | .slc a lo hi, σ, s => (ev F a σ s).bind fun d s => (evo F lo σ s).bind fun l s => (evo F hi σ s).bind fun h s => (match s.get d with
    | some x => R.of ((slcP x l h).map .p) s
    | none => .bad)
  | .call f es, σ, s => (evs F es σ s).bind fun ds s => F f ds s
  | .isi a t, σ, s => (ev F a σ s).bind fun d s => R.of ((isTy s t d).map fun b => .p (.bl b)) s
  | .b1 f a, σ, s => (ev F a σ s).bind fun d s => b1D f d s
  | .b2 f a b, σ, s => (ev F a σ s).bind fun d s => (ev F b σ s).bind fun e s => (match d, e with
    | .p x, .p y => R.of ((b2P f x y).map .p) s
    | _, _ => .bad)
  | .m1 f a b, σ, s => (ev F a σ s).bind fun d s => (match d with
    | .p (.str x) => (ev F b σ s).bind fun e s => (match s.get e with
      | some y => R.of ((m1P f (.str x) y).map .p) s
      | _ => .bad)
    | _ => .bad)
  | .jr sep a y z, σ, s => (ev F a σ s).bind fun d s => (match s.get d with
    | some (.lst ys) => (match allStr ys with
      | some zs => if joinFits sep zs then .ok (.p (.str (Txt.replace (Txt.join sep zs) y z))) s else .bad
      | none => .bad)
    | _ => .bad)
  | .app a b, σ, s => (ev F a σ s).bind fun d s => (match s.get d with
    | some (.lst _) => (ev F b σ s).bind fun e s => appD d e s
    | _ => .bad)
  | .ext a b, σ, s => (ev F a σ s).bind fun d s => (match s.get d with
    | some (.lst _) => (ev F b σ s).bind fun e s => extD d e s
    | _ => .bad)
  | .nev, _, _ => .bad
  | .fld a x, σ, s => (ev F a σ s).bind fun d s => fldD d x s
  | .meth f m a es, σ, s => (ev F a σ s).bind fun d s => (match s.ins d with
    | some fs => if (fs.lookup m).isNone then (evs F es σ s).bind fun ds s => F f (d :: ds) s else .bad
    | none => .bad)
  | .make f es, σ, s => (evs F es σ s).bind fun ds s => (F f (.ref s.m.length :: ds) (s.pushM (.ins []))).bind fun r s' => (match r with
    | .p .non => .ok (.ref s.m.length) s'
    | _ => .bad)
  | .ownD, _, s => .ok (.tmp s.t.length) (s.pushT (.dct []))
  | .permD, _, s => .ok (.ref s.m.length) (s.pushM (.dct []))
  | .perm l, σ, s => (evL F l σ s).bind fun xs s => .ok (.ref s.m.length) (s.pushM (.lst xs))
  | .dix a b, σ, s => (ev F a σ s).bind fun d s => (ev F b σ s).bind fun e s => dixD d e s
  | .dlen a, σ, s => (ev F a σ s).bind fun d s => dlenD d s
  | .b1k f i l, σ, s => (lockL i (fun σ s => evL F l σ s) σ s).bind fun xs s => b1D f (.p (.lst xs)) s
  | .ftab fs a es, σ, s => (ev F a σ s).bind fun d s => (tabF fs d s).bind fun f s => (evs F es σ s).bind fun ds s => F f ds s
  | .m2 f a b, σ, s => (ev F a σ s).bind fun d s => (match s.get d with
    | some (.lst _) => (ev F b σ s).bind fun e s => m2D f d e s
    | _ => .bad)
  | .gnew, _, s => .ok (.tmp s.t.length) (s.pushT (.dg []))
  | .gget a b c, σ, s => (ev F a σ s).bind fun d s => if isDct s d = true then (ev F b σ s).bind fun k s => (ev F c σ s).bind fun x s => ggetD d k x s else .bad
  | .gset a b c, σ, s => (ev F a σ s).bind fun d s => if isDct s d = true then (ev F b σ s).bind fun k s => (ev F c σ s).bind fun x s => gsetD d k x s else .bad
  | .sapp a b c, σ, s => (ev F a σ s).bind fun d s => if isDct s d = true then (ev F b σ s).bind fun k s => (sdefD (.l []) d k s).bind fun _ s => (ev F c σ s).bind fun x s => sappD d k x s else .bad
  | .lset a, σ, s => (ev F a σ s).bind fun d s => lsetD d s
  | .tget _ kvs a b, σ, s => (ev F a σ s).bind fun d s => (ev F b σ s).bind fun e s => tgetD kvs d e s
  | .mkd pm a, σ, s => (ev F a σ s).bind fun d s => mkdD pm d s
  | .pop a b, σ, s => (ev F a σ s).bind fun d s => (match s.get d with
    | some (.lst _) => (ev F b σ s).bind fun e s => popD d e s
    | _ => .bad)
def evL (F : Fns) : L → Sl → Sto → R (List P)
  | .disp es, σ, s => (evs F es σ s).bind fun ds s => R.of (allP ds) s
  | .comp tg it cs elt vs, σ, s => (evI F it σ s).bind fun r s => lcLoop r (fun d s => match tg.put d (wipe σ vs) with
      | none => .bad
      | some σ1 => (match cs with
        | .none => (ev F elt σ1 s).bind fun x s => (match x with
          | .p a => .ok (some a) s
          | _ => .bad)
        | .some c => (ev F c σ1 s).bind fun k s => (match k with
          | .p (.bl true) => (ev F elt σ1 s).bind fun x s => (match x with
            | .p a => .ok (some a) s
            | _ => .bad)
          | .p (.bl false) => .ok none s
          | _ => .bad))) (r.len s + 1) 0 [] s
  | .lof a, σ, s => (ev F a σ s).bind fun d s => (match s.get d with
    | some (.lst xs) => .ok xs s
    | some (.tup xs) => .ok xs s
    | _ => .bad)
  | .split a b, σ, s => (ev F a σ s).bind fun d s => (match d with
    | .p (.str x) => (ev F b σ s).bind fun e s => (match e with
      | .p (.str y) => if (y.length == 0) = false ∧ x.length + 2 ≤ sizeLine then .ok ((Txt.split x y).map .str) s else .bad
      | _ => .bad)
    | _ => .bad)
  | .add a b, σ, s => (ev F a σ s).bind fun d s => (ev F b σ s).bind fun e s => (match s.get d, s.get e with
    | some (.lst xs), some (.lst ys) => if xs.length + ys.length ≤ sizeLine then .ok (xs ++ ys) s else .bad
    | _, _ => .bad)
  | .lod a, σ, s => (ev F a σ s).bind fun d s => (match s.dctU d with
    | some kvs => .ok (kvs.map fun kv => kP kv.1) s
    | none => keysD d s)
  | .srt a, σ, s => (ev F a σ s).bind fun d s => (match s.get d with
    | some (.lst xs) => (match intsP xs with
      | some is => .ok ((is.mergeSort (fun a b => decide (a ≤ b))).map .int) s
      | none => if srtOk xs = true then .ok (srtP xs) s else .bad)
    | _ => .bad)
  | .rev a, σ, s => (ev F a σ s).bind fun d s => revD d s
  | .rep a b, σ, s => (ev F a σ s).bind fun d s => (ev F b σ s).bind fun e s => repD d e s
  | .sset a, σ, s => (ev F a σ s).bind fun d s => ssetD d s
  | .zipl a b, σ, s => (ev F a σ s).bind fun d s => (ev F b σ s).bind fun e s => ziplD d e s
  | .dvl a, σ, s => (ev F a σ s).bind fun d s => dvlD d s
def evI (F : Fns) : I → Sl → Sto → R Src
  | .dk e, σ, s => (ev F e σ s).bind fun d s => (match s.dctW d with
    | some kvs => .ok (.fix (kvs.map fun kv => .p (kP kv.1))) s
    | none => .bad)
  | .dks e, σ, s => (ev F e σ s).bind fun d s => (match d with
    | .dct ks _ => .ok (.fix (ks.map .p)) s
    | _ => .bad)
  | .dit e, σ, s => (ev F e σ s).bind fun d s => (match d with
    | .dct ks vs => .ok (.fix (itemsL ks vs)) s
    | _ => .bad)
  | .val e, σ, s => (ev F e σ s).bind fun d s => R.of (srcOf s d) s
  | .rng1 e, σ, s => (ev F e σ s).bind fun d s => (match d with
    | .p (.int j) => if -1000000 ≤ j ∧ j ≤ 1000000 then .ok (.fix (rangeL 0 j.toNat)) s else .bad
    | _ => .bad)
  | .rng2 a b, σ, s => (ev F a σ s).bind fun d s => (ev F b σ s).bind fun e s => (match d, e with
    | .p (.int i), .p (.int j) => if -1000000 ≤ i ∧ i ≤ 1000000 ∧ -1000000 ≤ j ∧ j ≤ 1000000 then .ok (.fix (rangeL i (j - i).toNat)) s else .bad
    | _, _ => .bad)
  | .enum e, σ, s => (ev F e σ s).bind fun d s => (match d with
    | .p a => R.of (enumOf a) s
    | _ => .bad)
  | .zip a b, σ, s => (ev F a σ s).bind fun d s => (ev F b σ s).bind fun e s => (match d, e with
    | .p x, .p y => R.of (zipOf x y) s
    | _, _ => .bad)
def evs (F : Fns) : Es → Sl → Sto → R (List D)
  | .nil, _, s => .ok [] s
  | .cons e es, σ, s => (ev F e σ s).bind fun d s => (evs F es σ s).bind fun ds s => .ok (d :: ds) s
def evo (F : Fns) : Eo → Sl → Sto → R (Option Int)
  | .none, _, s => .ok none s
  | .some e, σ, s => (ev F e σ s).bind fun d s => (match d with
    | .p (.int i) => .ok (some i) s
    | _ => .bad)
def evAnd (F : Fns) : Es → Sl → Sto → R D
  | .nil, _, _ => .bad
  | .cons e es, σ, s => (ev F e σ s).bind fun d s => (match es with
    | .nil => .ok d s
    | _ => (match d with
      | .p (.bl true) => evAnd F es σ s
      | .p (.bl false) => .ok (.p (.bl false)) s
      | _ => .bad))
def evOr (F : Fns) : Es → Sl → Sto → R D
  | .nil, _, _ => .bad
  | .cons e es, σ, s => (ev F e σ s).bind fun d s => (match es with
    | .nil => .ok d s
    | _ => (match d with
      | .p (.bl false) => evOr F es σ s
      | .p (.bl true) => .ok (.p (.bl true)) s
      | _ => .bad))
end

/-! ### statements -/
inductive RS where
  | nx (σ : Sl) (s : Sto) | rt (d : D) (s : Sto) | bk (σ : Sl) (s : Sto) | ex (c : Nat) (σ : Sl) (s : Sto) | bad
def R.st {α : Type} (r : R α) (σ : Sl) (f : α → Sto → RS) : RS := match r with
  | .ok a s => f a s
  | .exc c s => .ex c σ s
  | .bad => .bad
theorem R.st_ok {α : Type} (a : α) (s : Sto) (σ : Sl) (f : α → Sto → RS) : (R.ok a s).st σ f = f a s := rfl
theorem R.st_exc {α : Type} (c : Nat) (s : Sto) (σ : Sl) (f : α → Sto → RS) : (R.exc c s).st σ f = .ex c σ s := rfl
theorem R.st_bad {α : Type} (σ : Sl) (f : α → Sto → RS) : (R.bad : R α).st σ f = .bad := rfl
def RS.then (r : RS) (f : Sl → Sto → RS) : RS := match r with
  | .nx σ s => f σ s
  | .rt d s => .rt d s
  | .bk σ s => .bk σ s
  | .ex c σ s => .ex c σ s
  | .bad => .bad
theorem RS.then_nx (σ : Sl) (s : Sto) (f : Sl → Sto → RS) : (RS.nx σ s).then f = f σ s := rfl
theorem RS.then_rt (d : D) (s : Sto) (f : Sl → Sto → RS) : (RS.rt d s).then f = .rt d s := rfl
theorem RS.then_bk (σ : Sl) (s : Sto) (f : Sl → Sto → RS) : (RS.bk σ s).then f = .bk σ s := rfl
theorem RS.then_ex (c : Nat) (σ : Sl) (s : Sto) (f : Sl → Sto → RS) : (RS.ex c σ s).then f = .ex c σ s := rfl
theorem RS.then_bad (f : Sl → Sto → RS) : RS.bad.then f = .bad := rfl
/-- a for loop -/
def forLoop (r : Src) (tg : Tg) (body : Sl → Sto → RS) : Nat → Nat → Sl → Sto → RS
  | 0, _, _, _ => .bad
  | n + 1, j, σ, s => match r.at s j with
    | none => .bad
    | some none => .nx σ s
    | some (some d) => match tg.put d σ with
      | none => .bad
      | some σ1 => match body σ1 s with
        | .nx σ2 s2 => forLoop r tg body n (j + 1) σ2 s2
        | .bk σ2 s2 => .nx σ2 s2
        | .rt d s2 => .rt d s2
        | .ex c σ2 s2 => .ex c σ2 s2
        | .bad => .bad
def whileLoop (c : Sl → Sto → R D) (body : Sl → Sto → RS) : Nat → Sl → Sto → RS
  | 0, _, _ => .bad
  | n + 1, σ, s => (c σ s).st σ fun k s => match k with
    | .p (.bl false) => .nx σ s
    | .p (.bl true) => (match body σ s with
      | .nx σ2 s2 => whileLoop c body n σ2 s2
      | .bk σ2 s2 => .nx σ2 s2
      | .rt d s2 => .rt d s2
      | .ex c σ2 s2 => .ex c σ2 s2
      | .bad => .bad)
    | _ => .bad
/-- the refusals' places in the law's own list -/
abbrev Wh := Nat → Option Int
mutual
def ex (F : Fns) (W : Wh) : S → Sl → Sto → RS
  | .asg tg e, σ, s => (ev F e σ s).st σ fun d s => (match tg.put d σ with
    | some σ1 => .nx σ1 s
    | none => .bad)
  | .par is es, σ, s => (evs F es σ s).st σ fun ds s => (match setAll σ is ds with
    | some σ1 => .nx σ1 s
    | none => .bad)
  | .nev, _, _ => .bad
  | .fput a x e, σ, s => (ev F e σ s).st σ fun d s => (ev F a σ s).st σ fun o s => (fputD o x d s).st σ fun _ s => .nx σ s
  | .dput a b e, σ, s => (ev F e σ s).st σ fun x s => (ev F a σ s).st σ fun d s => (ev F b σ s).st σ fun k s => (dputX d k x s).st σ fun _ s => .nx σ s
  | .iput a b e, σ, s => (ev F e σ s).st σ fun x s => (ev F a σ s).st σ fun d s => (ev F b σ s).st σ fun k s => (iputD d k x s).st σ fun _ s => .nx σ s
  | .sput a b c e, σ, s => (ev F e σ s).st σ fun x s => (match x with
    | .p (.bl true) => (ev F a σ s).st σ fun d s => if isDct s d = true then (ev F b σ s).st σ fun k s => (sdefD (.d []) d k s).st σ fun _ s => (ev F c σ s).st σ fun j s => (sputD d k j s).st σ fun _ s => .nx σ s else .bad
    | _ => .bad)
  | .gfz i st, σ, s => (match frzSl i σ s with
    | some (σ1, s1) => ex F W st σ1 s1
    | none => .bad)
  | .exp e, σ, s => (ev F e σ s).st σ fun _ s => .nx σ s
  | .ret e, σ, s => (ev F e σ s).st σ fun d s => .rt d s
  | .ife c a b, σ, s => (ev F c σ s).st σ fun d s => (match d with
    | .p (.bl true) => exs F W a σ s
    | .p (.bl false) => exs F W b σ s
    | _ => .bad)
  | .loop tg it b, σ, s => (evI F it σ s).st σ fun r s => forLoop r tg (exs F W b) (r.len s + 1) 0 σ s
  | .whl n c b, σ, s => whileLoop (ev F c) (exs F W b) n σ s
  | .brk, σ, s => .bk σ s
  | .pass, σ, s => .nx σ s
  | .rais c, σ, s => .ex c σ s
  | .tryW b i, σ, s => (match exs F W b σ s with
    | .ex c τ s => (match W c with
      | some k => if i < τ.length then .rt (.p (.tup [.str "refused", .int k])) s else .bad
      | none => .bad)
    | .nx σ s => .nx σ s
    | .rt d s => .rt d s
    | .bk σ s => .bk σ s
    | .bad => .bad)
  | .tryR b x, σ, s => (match exs F W b σ s with
    | .ex c _ s => (match W c with
      | some _ => .rt (.p (.str x)) s
      | none => .bad)
    | .nx σ s => .nx σ s
    | .rt d s => .rt d s
    | .bk σ s => .bk σ s
    | .bad => .bad)
def exs (F : Fns) (W : Wh) : Ss → Sl → Sto → RS
  | .nil, σ, s => .nx σ s
  | .cons st ss, σ, s => (ex F W st σ s).then fun σ s => exs F W ss σ s
end

/-! ### defs -/
structure Fd where
  np : Nat
  ns : Nat
  body : Ss
mutual
/-- what was made in the frame and is handed out is not changed any more -/
def Sto.frz (s : Sto) (n : Nat) : D → Option D
  | .p a => some (.p a)
  | .scr xs => some (.scr xs)
  | .ref i => some (.ref i)
  | .tmp i => if i < n then some (.tmp i) else (match s.t[i]? with
    | some (.lst xs) => some (.p (.lst xs))
    | _ => none)
  | .tup ds => (Sto.frzs s n ds).map mkTup
  | .fn _ => none
  | .dct ks vs => (Sto.frzs s n vs).map (.dct ks)
def Sto.frzs (s : Sto) (n : Nat) : List D → Option (List D)
  | [] => some []
  | d :: ds => (match Sto.frz s n d with
    | some e => (Sto.frzs s n ds).map (e :: ·)
    | none => none)
end
def Sto.back (s : Sto) (n : Nat) : Sto := ⟨s.t.take n, s.m⟩
def fin (n : Nat) : RS → R D
  | .nx _ s => .ok (.p .non) (s.back n)
  | .rt d s => (match s.frz n d with
    | some e => .ok e (s.back n)
    | none => .bad)
  | .ex c _ s => .exc c (s.back n)
  | _ => .bad
def run (tab : List Fd) (W : Wh) : Nat → Fns
  | 0, _, _, _ => .bad
  | k + 1, f, ds, s => match tab[f]? with
    | none => .bad
    | some fd => if ds.length = fd.np then fin s.t.length (exs (run tab W k) W fd.body (ds.map some ++ List.replicate (fd.ns - fd.np) none) s) else .bad
end G7

namespace G7
open PySem PySem.Spec
open L2 (V Hp HO St WX TE TS RelV upd upd_same upd_ne ne_of_none SqL SqT)

/-- the world of the run (its texts' hashes) -/
class WW where
  w : World
/-! ### keys of dicts -/
mutual
def P.nk : P → NestedKey
  | .non => .none
  | .int i => .num i
  | .str x => .text x
  | .tup xs => .tup (P.nks xs)
  | .bl b => .num (if b then 1 else 0)
  | .lst _ => .none
def P.nks : List P → List NestedKey
  | [] => []
  | x :: xs => P.nk x :: P.nks xs
end
mutual
theorem hk_depth : ∀ (x : P) (n : Nat), x.hk n = true → x.nk.depth ≤ n
  | .non, n, _ => by simp [P.nk, NestedKey.depth]
  | .bl b, n, h => by simp [P.hk] at h
  | .int i, n, _ => by simp [P.nk, NestedKey.depth]
  | .str x, n, _ => by simp [P.nk, NestedKey.depth]
  | .lst _, n, h => by simp [P.hk] at h
  | .tup xs, 0, h => by simp [P.hk] at h
  | .tup xs, n + 1, h => by
    have := hks_depth xs n (by simpa [P.hk] using h)
    simp only [P.nk, NestedKey.depth]
    omega
theorem hks_depth : ∀ (xs : List P) (n : Nat), P.hks xs n = true → NestedKey.depthAll (P.nks xs) ≤ n
  | [], n, _ => by simp [P.nks, NestedKey.depthAll]
  | x :: xs, n, h => by
    simp only [P.hks, Bool.and_eq_true] at h
    have h1 := hk_depth x n h.1
    have h2 := hks_depth xs n h.2
    simp only [P.nks, NestedKey.depthAll]
    omega
end
mutual
theorem nk_eqv : ∀ (x y : P) (n m : Nat), x.hk n = true → y.hk m = true → (x.eqv y = true ↔ x.nk = y.nk)
  | .non, y, n, m, _, hy => by cases y <;> simp_all [P.eqv, P.nk, P.hk]
  | .bl b, y, n, m, hx, _ => by simp [P.hk] at hx
  | .lst b, y, n, m, hx, _ => by simp [P.hk] at hx
  | .int i, y, n, m, _, hy => by cases y <;> simp_all [P.eqv, P.nk, P.hk]
  | .str i, y, n, m, _, hy => by cases y <;> simp_all [P.eqv, P.nk, P.hk]
  | .tup xs, .tup ys, n, m, hx, hy => by
    cases n with
    | zero => simp [P.hk] at hx
    | succ n =>
      cases m with
      | zero => simp [P.hk] at hy
      | succ m =>
        have := nks_eqv xs ys n m (by simpa [P.hk] using hx) (by simpa [P.hk] using hy)
        simp only [P.eqv, P.nk, NestedKey.tup.injEq]
        exact this
  | .tup xs, .non, n, m, hx, hy => by simp [P.eqv, P.nk]
  | .tup xs, .int _, n, m, hx, hy => by simp [P.eqv, P.nk]
  | .tup xs, .str _, n, m, hx, hy => by simp [P.eqv, P.nk]
  | .tup xs, .bl _, n, m, hx, hy => by simp [P.eqv, P.nk]
  | .tup xs, .lst _, n, m, hx, hy => by simp [P.hk] at hy
theorem nks_eqv : ∀ (xs ys : List P) (n m : Nat), P.hks xs n = true → P.hks ys m = true → (P.eqvs xs ys = true ↔ P.nks xs = P.nks ys)
  | [], [], _, _, _, _ => by simp [P.eqvs]
  | [], _ :: _, _, _, _, _ => by simp [P.eqvs, P.nks]
  | _ :: _, [], _, _, _, _ => by simp [P.eqvs, P.nks]
  | x :: xs, y :: ys, n, m, hx, hy => by
    simp only [P.hks, Bool.and_eq_true] at hx hy
    have h1 := nk_eqv x y n m hx.1 hy.1
    have h2 := nks_eqv xs ys n m hx.2 hy.2
    simp only [P.eqvs, P.nks, Bool.and_eq_true, List.cons.injEq, h1, h2]
end
theorem key_hk {x : P} (h : x.key = true) : x.hk 8 = true := by
  cases x <;> simp_all [P.key]
theorem key_eqv {x y : P} (hx : x.key = true) (hy : y.key = true) : x.eqv y = decide (x.nk = y.nk) := by
  have := nk_eqv x y 8 8 (key_hk hx) (key_hk hy)
  rw [Bool.eq_iff_iff, this]
  simp

/-! ### data in a heap -/
mutual
inductive HasP (F : Hp) : V → P → Prop
  | non : HasP F .non .non
  | bl (b : Bool) : HasP F (.bl b) (.bl b)
  | int (i : Int) : HasP F (.int i) (.int i)
  | str (x : Str) : HasP F (.str x) (.str x)
  | tup {a : Addr} {vs : List V} {xs : List P} : F a = some (.tup vs) → xs.length ≤ sizeLine → HasPs F vs xs → HasP F (.ref a) (.tup xs)
  | lst {a : Addr} {vs : List V} {xs : List P} : F a = some (.lst vs) → xs.length ≤ sizeLine → HasPs F vs xs → HasP F (.ref a) (.lst xs)
inductive HasPs (F : Hp) : List V → List P → Prop
  | nil : HasPs F [] []
  | cons {v : V} {vs : List V} {x : P} {xs : List P} : HasP F v x → HasPs F vs xs → HasPs F (v :: vs) (x :: xs)
end
def Sub (F F' : Hp) : Prop := ∀ a o, F a = some o → F' a = some o
theorem Sub.refl (F : Hp) : Sub F F := fun _ _ h => h
theorem Sub.trans {F G H : Hp} (a : Sub F G) (b : Sub G H) : Sub F H := fun x o h => b x o (a x o h)
theorem Sub.ups {F H : Hp} {p : Addr} {o : HO} (h : Sub F H) (hp : H p = none) : Sub (upd F p o) (upd H p o) := fun a o' e => by
  by_cases ha : a = p
  · subst ha; rw [upd_same] at e ⊢; exact e
  · rw [upd_ne ha] at e ⊢; exact h a o' e
theorem Sub.updR {F H : Hp} {p : Addr} {o : HO} (h : Sub F H) (hp : F p = none) : Sub F (upd H p o) := fun a o' e => by
  have ha : a ≠ p := fun z => by rw [z, hp] at e; cases e
  rw [upd_ne ha]; exact h a o' e
theorem sub_upd {F : Hp} {p : Addr} {o : HO} (hp : F p = none) : Sub F (upd F p o) := (Sub.refl F).updR hp
theorem Sub.none {F H : Hp} (h : Sub F H) {a : Addr} (e : H a = none) : F a = none := by
  cases q : F a with
  | none => rfl
  | some o => rw [h a o q] at e; cases e
mutual
theorem HasP.mono {F F' : Hp} (s : Sub F F') : ∀ (x : P) (v : V), HasP F v x → HasP F' v x
  | .non, _, h => by cases h; exact .non
  | .bl b, _, h => by cases h; exact .bl b
  | .int i, _, h => by cases h; exact .int i
  | .str x, _, h => by cases h; exact .str x
  | .tup xs, _, h => by
    cases h with
    | tup e z r => exact .tup (s _ _ e) z (HasPs.mono s xs _ r)
  | .lst xs, _, h => by
    cases h with
    | lst e z r => exact .lst (s _ _ e) z (HasPs.mono s xs _ r)
theorem HasPs.mono {F F' : Hp} (s : Sub F F') : ∀ (xs : List P) (vs : List V), HasPs F vs xs → HasPs F' vs xs
  | [], _, h => by cases h; exact .nil
  | x :: xs, _, h => by
    cases h with
    | cons a b => exact .cons (HasP.mono s x _ a) (HasPs.mono s xs _ b)
end
theorem HasPs.length {F : Hp} : ∀ {vs : List V} {xs : List P}, HasPs F vs xs → vs.length = xs.length
  | _, _, .nil => rfl
  | _, _, .cons _ t => congrArg (· + 1) (HasPs.length t)
theorem HasPs.get {F : Hp} : ∀ {vs : List V} {xs : List P} {i : Nat} {x : P}, HasPs F vs xs → xs[i]? = some x → ∃ v, vs[i]? = some v ∧ HasP F v x
  | _, _, _, _, .nil, e => by simp at e
  | _, _, 0, _, .cons r _, e => by simp at e; subst e; exact ⟨_, rfl, r⟩
  | _, _, i + 1, x, .cons _ t, e => by
    obtain ⟨u, h1, h2⟩ := HasPs.get (i := i) (x := x) t (by simpa using e)
    exact ⟨u, by simpa using h1, h2⟩
theorem HasPs.getV {F : Hp} : ∀ {vs : List V} {xs : List P} {i : Nat} {v : V}, HasPs F vs xs → vs[i]? = some v → ∃ x, xs[i]? = some x ∧ HasP F v x
  | _, _, _, _, .nil, e => by simp at e
  | _, _, 0, _, .cons r _, e => by simp at e; subst e; exact ⟨_, rfl, r⟩
  | _, _, i + 1, x, .cons _ t, e => by
    obtain ⟨u, h1, h2⟩ := HasPs.getV (i := i) (v := x) t (by simpa using e)
    exact ⟨u, by simpa using h1, h2⟩
theorem HasPs.append {F : Hp} : ∀ {vs ws : List V} {xs ys : List P}, HasPs F vs xs → HasPs F ws ys → HasPs F (vs ++ ws) (xs ++ ys)
  | _, _, _, _, .nil, s => s
  | _, _, _, _, .cons r t, s => .cons r (HasPs.append t s)
theorem HasPs.take {F : Hp} : ∀ {vs : List V} {xs : List P} (n : Nat), HasPs F vs xs → HasPs F (vs.take n) (xs.take n)
  | _, _, 0, _ => .nil
  | _, _, _ + 1, .nil => .nil
  | _, _, n + 1, .cons r t => .cons r (HasPs.take n t)
theorem HasPs.drop {F : Hp} : ∀ {vs : List V} {xs : List P} (n : Nat), HasPs F vs xs → HasPs F (vs.drop n) (xs.drop n)
  | _, _, 0, r => r
  | _, _, _ + 1, .nil => .nil
  | _, _, n + 1, .cons _ t => HasPs.drop n t
theorem HasPs.cut {F : Hp} {vs : List V} {xs : List P} (r : HasPs F vs xs) (lo hi : Option Int) : HasPs F (L2.cutV vs lo hi) (cut xs lo hi) := by
  unfold L2.cutV G7.cut
  rw [r.length]
  exact (r.drop _).take _
theorem cut_len {α : Type} (xs : List α) (lo hi : Option Int) : (G7.cut xs lo hi).length ≤ xs.length := by
  unfold G7.cut
  rw [List.length_take, List.length_drop]
  omega
theorem rep_len {α : Type} (xs : List α) : ∀ k : Nat, (List.replicate k xs).flatten.length = xs.length * k
  | 0 => by simp
  | k + 1 => by rw [List.replicate_succ, List.flatten_cons, List.length_append, rep_len xs k, Nat.mul_succ, Nat.add_comm]
theorem HasPs.rep {F : Hp} {vs : List V} {xs : List P} (h : HasPs F vs xs) : ∀ k : Nat, HasPs F (List.replicate k vs).flatten (List.replicate k xs).flatten
  | 0 => .nil
  | k + 1 => by
    rw [List.replicate_succ, List.replicate_succ, List.flatten_cons, List.flatten_cons]
    exact h.append (HasPs.rep h k)


/-- an entry of a dict -/
abbrev Ent := NestedKey × Addr × Value
/-- what stands within a dict of ours: whose, under which key; the dicts' entries -/
structure UU where
  o : Addr → Option (Addr × NestedKey)
  e : Addr → List Ent
structure Rho where
  t : List Addr
  m : List Addr
  C : Addr
  u : UU
section
variable [WW]
def entN (x : Ent) : DictEntry := ⟨x.1.hash WW.w, .ref x.2.1, x.2.2⟩
def gO (a : Addr) (xs : List Ent) : HO := .ext fun h => (a == sysModules) = false ∧ ∃ o es ep, h.get? a = some o ∧ o.ExactDict ∧ o.data = .dict es ep ∧ es.toList = xs.map entN
inductive HasKs (F : Hp) : List Ent → List P → Prop
  | nil : HasKs F [] []
  | cons {a : Addr} {v : Value} {xs : List Ent} {x : P} {ks : List P} : HasP F (.ref a) x → x.key = true → HasKs F xs ks → HasKs F ((x.nk, a, v) :: xs) (x :: ks)
theorem HasKs.mono {F F' : Hp} (s : Sub F F') : ∀ {xs : List Ent} {ks : List P}, HasKs F xs ks → HasKs F' xs ks
  | _, _, .nil => .nil
  | _, _, .cons a b c => .cons (HasP.mono s _ _ a) b (HasKs.mono s c)
theorem HasKs.length {F : Hp} : ∀ {xs : List Ent} {ks : List P}, HasKs F xs ks → xs.length = ks.length
  | _, _, .nil => rfl
  | _, _, .cons _ _ c => congrArg (· + 1) (HasKs.length c)
mutual
inductive HasD (K : PySem.W.Frag) (F : Hp) (ρ : Rho) : V → D → Prop
  | p {v : V} {a : P} : HasP F v a → HasD K F ρ v (.p a)
  | scr {a : Addr} {xs : List Int} : SqL K F a (xs.map V.int) → HasD K F ρ (.ref a) (.scr xs)
  | ref {a : Addr} {n : Nat} : ρ.m[n]? = some a → HasD K F ρ (.ref a) (.ref n)
  | tmp {a : Addr} {n : Nat} : ρ.t[n]? = some a → HasD K F ρ (.ref a) (.tmp n)
  | tup {a : Addr} {vs : List V} {ds : List D} : F a = some (.tup vs) → ds.length ≤ sizeLine → HasDs K F ρ vs ds → HasD K F ρ (.ref a) (.tup ds)
  | dct {a : Addr} {od : Obj} {xs : List Ent} {ws : List V} {ks : List P} {ds : List D} : F a = some (.frz od (gO a xs)) → (xs.map (·.1)).Nodup → ks.length ≤ sizeLine → HasKs F xs ks → L2.Vals ws (xs.map (·.2.2)) → HasDs K F ρ ws ds → HasD K F ρ (.ref a) (.dct ks ds)
inductive HasDs (K : PySem.W.Frag) (F : Hp) (ρ : Rho) : List V → List D → Prop
  | nil : HasDs K F ρ [] []
  | cons {v : V} {vs : List V} {d : D} {ds : List D} : HasD K F ρ v d → HasDs K F ρ vs ds → HasDs K F ρ (v :: vs) (d :: ds)
end
/-- what may come to be: frozen things stay, new ones were not there; all but our own objects is kept -/
structure Ext (F H : Hp) (ρ : Rho) (F' H' : Hp) (ρ' : Rho) : Prop where
  f : Sub F F'
  t : ∃ r, ρ'.t = ρ.t ++ r
  m : ∃ r, ρ'.m = ρ.m ++ r
  k : ∀ a o, H a = some o → a ∉ ρ.t ++ ρ.m → ρ.u.o a = none → H' a = some o
  n : ∀ a ∈ ρ'.t ++ ρ'.m, a ∈ ρ.t ++ ρ.m ∨ H a = none
  g : ∀ a o, F' a = some o → F a = some o ∨ H a = none ∨ a ∈ ρ.t ++ ρ.m ∨ ρ.u.o a ≠ none
  w : ∀ a, H a ≠ none → H' a ≠ none
  c : ρ'.C = ρ.C
  nu : ∀ a, ρ'.u.o a ≠ none → ρ.u.o a ≠ none ∨ H a = none
  um : ∀ b q k, ρ.u.o b = some (q, k) → ρ'.u.o b = some (q, k) ∨ F' q ≠ none
theorem Ext.refl (F H : Hp) (ρ : Rho) : Ext F H ρ F H ρ := ⟨Sub.refl F, ⟨[], by simp⟩, ⟨[], by simp⟩, fun _ _ h _ _ => h, fun _ h => .inl h, fun _ _ h => .inl h, fun _ h => h, rfl, fun _ h => .inl h, fun _ _ _ h => .inl h⟩
theorem Ext.trans {F F' F'' H H' H'' : Hp} {ρ ρ' ρ'' : Rho} (a : Ext F H ρ F' H' ρ') (b : Ext F' H' ρ' F'' H'' ρ'') : Ext F H ρ F'' H'' ρ'' := by
  obtain ⟨r1, e1⟩ := a.t
  obtain ⟨r2, e2⟩ := b.t
  obtain ⟨q1, f1⟩ := a.m
  obtain ⟨q2, f2⟩ := b.m
  refine ⟨a.f.trans b.f, ⟨r1 ++ r2, by rw [e2, e1, List.append_assoc]⟩, ⟨q1 ++ q2, by rw [f2, f1, List.append_assoc]⟩, fun x o h hn hu => ?_, fun x hx => ?_, fun x o h => ?_, fun x h => b.w x (a.w x h), b.c.trans a.c, fun x hx => ?_, fun x q k hx => ?_⟩
  · refine b.k x o (a.k x o h hn hu) (fun z => ?_) ?_
    · rcases a.n x z with z | z
      · exact hn z
      · rw [h] at z; cases z
    · cases q : ρ'.u.o x with
      | none => rfl
      | some y =>
        rcases a.nu x (by rw [q]; exact fun z => nomatch z) with z | z
        · exact absurd hu z
        · rw [h] at z; cases z
  · rcases b.n x hx with z | z
    · exact a.n x z
    · refine .inr ?_
      cases q : H x with
      | none => rfl
      | some o => exact absurd z (a.w x (by rw [q]; exact fun z => nomatch z))
  · have hw : H' x = none → H x = none := fun z => by
      cases q : H x with
      | none => rfl
      | some o => exact absurd z (a.w x (by rw [q]; exact fun z => nomatch z))
    rcases b.g x o h with z | z | z | z
    · exact a.g x o z
    · exact .inr (.inl (hw z))
    · rcases a.n x z with z | z
      · exact .inr (.inr (.inl z))
      · exact .inr (.inl z)
    · rcases a.nu x z with z | z
      · exact .inr (.inr (.inr z))
      · exact .inr (.inl z)
  · rcases b.nu x hx with z | z
    · exact a.nu x z
    · refine .inr ?_
      cases q : H x with
      | none => rfl
      | some o => exact absurd z (a.w x (by rw [q]; exact fun z => nomatch z))
  · rcases a.um x q k hx with z | z
    · exact b.um x q k z
    · refine .inr ?_
      cases e : F' q with
      | none => exact absurd e z
      | some o => rw [b.f _ _ e]; exact fun z => nomatch z
theorem upd_keeps {H : Hp} {p : Addr} {o : HO} (a : Addr) (h : H a ≠ none) : upd H p o a ≠ none := by
  by_cases e : a = p
  · subst e; rw [upd_same]; exact fun z => nomatch z
  · rw [upd_ne e]; exact h
theorem upd_new {F : Hp} {p a : Addr} {o o' : HO} (h : upd F p o a = some o') : F a = some o' ∨ a = p := by
  by_cases e : a = p
  · exact .inr e
  · rw [upd_ne e] at h; exact .inl h
theorem get_pre {α : Type} {l r : List α} {i : Nat} {a : α} (h : l[i]? = some a) : (l ++ r)[i]? = some a := by
  have hi : i < l.length := (List.getElem?_eq_some_iff.mp h).1
  rw [List.getElem?_append_left hi]; exact h
theorem SqL.sub {K : PySem.W.Frag} {F F' : Hp} {a : Addr} {xs : List V} (s : Sub F F') (h : SqL K F a xs) : SqL K F' a xs := by
  rcases h with (h | ⟨o, h⟩) | h
  · exact .inl (.inl (s _ _ h))
  · exact .inl (.inr ⟨o, s _ _ h⟩)
  · exact .inr h
mutual
theorem HasD.mono {K : PySem.W.Frag} {F H F' H' : Hp} {ρ ρ' : Rho} (e : Ext F H ρ F' H' ρ') : ∀ (d : D) (v : V), HasD K F ρ v d → HasD K F' ρ' v d
  | .p a, v, h => by cases h with | p h => exact .p (HasP.mono e.f a v h)
  | .scr xs, _, h => by cases h with | scr h => exact .scr (SqL.sub e.f h)
  | .ref n, _, h => by
    cases h with | ref h =>
    obtain ⟨r, q⟩ := e.m
    exact .ref (by rw [q]; exact get_pre h)
  | .tmp n, _, h => by
    cases h with | tmp h =>
    obtain ⟨r, q⟩ := e.t
    exact .tmp (by rw [q]; exact get_pre h)
  | .tup ds, _, h => by cases h with | tup h z r => exact .tup (e.f _ _ h) z (HasDs.mono e ds _ r)
  | .fn _, _, h => by cases h
  | .dct ks ds, _, h => by cases h with | dct h n z r w q => exact .dct (e.f _ _ h) n z (r.mono e.f) w (HasDs.mono e ds _ q)
theorem HasDs.mono {K : PySem.W.Frag} {F H F' H' : Hp} {ρ ρ' : Rho} (e : Ext F H ρ F' H' ρ') : ∀ (ds : List D) (vs : List V), HasDs K F ρ vs ds → HasDs K F' ρ' vs ds
  | [], _, h => by cases h; exact .nil
  | d :: ds, _, h => by cases h with | cons a b => exact .cons (HasD.mono e d _ a) (HasDs.mono e ds _ b)
end
theorem HasDs.length {K : PySem.W.Frag} {F : Hp} {ρ : Rho} : ∀ {vs : List V} {xs : List D}, HasDs K F ρ vs xs → vs.length = xs.length
  | _, _, .nil => rfl
  | _, _, .cons _ t => congrArg (· + 1) (HasDs.length t)
theorem HasDs.get {K : PySem.W.Frag} {F : Hp} {ρ : Rho} : ∀ {vs : List V} {xs : List D} {i : Nat} {x : D}, HasDs K F ρ vs xs → xs[i]? = some x → ∃ v, vs[i]? = some v ∧ HasD K F ρ v x
  | _, _, _, _, .nil, e => by simp at e
  | _, _, 0, _, .cons r _, e => by simp at e; subst e; exact ⟨_, rfl, r⟩
  | _, _, i + 1, x, .cons _ t, e => by
    obtain ⟨u, h1, h2⟩ := HasDs.get (i := i) (x := x) t (by simpa using e)
    exact ⟨u, by simpa using h1, h2⟩
theorem HasDs.getV {K : PySem.W.Frag} {F : Hp} {ρ : Rho} : ∀ {vs : List V} {xs : List D} {i : Nat} {v : V}, HasDs K F ρ vs xs → vs[i]? = some v → ∃ x, xs[i]? = some x ∧ HasD K F ρ v x
  | _, _, _, _, .nil, e => by simp at e
  | _, _, 0, _, .cons r _, e => by simp at e; subst e; exact ⟨_, rfl, r⟩
  | _, _, i + 1, x, .cons _ t, e => by
    obtain ⟨u, h1, h2⟩ := HasDs.getV (i := i) (v := x) t (by simpa using e)
    exact ⟨u, by simpa using h1, h2⟩
theorem HasDs.ofP {K : PySem.W.Frag} {F : Hp} {ρ : Rho} : ∀ {vs : List V} {xs : List P}, HasPs F vs xs → HasDs K F ρ vs (xs.map .p)
  | _, _, .nil => .nil
  | _, _, .cons r t => .cons (.p r) (HasDs.ofP t)
theorem allP_has {K : PySem.W.Frag} {F : Hp} {ρ : Rho} : ∀ {ds : List D} {ps : List P} {vs : List V}, allP ds = some ps → HasDs K F ρ vs ds → HasPs F vs ps
  | [], ps, _, e, h => by cases h; cases e; exact .nil
  | d :: ds, ps, _, e, h => by
    cases h with | cons a b =>
    cases a with
    | p ha =>
      simp only [allP, Option.map_eq_some_iff] at e
      obtain ⟨qs, e1, e2⟩ := e
      subst e2
      exact .cons ha (allP_has e1 b)
    | scr _ => cases e
    | ref _ => cases e
    | tmp _ => cases e
    | tup _ _ _ => cases e
    | dct _ _ _ _ _ _ => cases e
theorem allP_len : ∀ {ds : List D} {ps : List P}, allP ds = some ps → ps.length = ds.length
  | [], ps, e => by cases e; rfl
  | d :: ds, ps, e => by
    cases d with
    | p a =>
      simp only [allP, Option.map_eq_some_iff] at e
      obtain ⟨qs, e1, e2⟩ := e
      subst e2
      rw [List.length_cons, List.length_cons, allP_len e1]
    | scr _ => cases e
    | ref _ => cases e
    | tmp _ => cases e
    | tup _ => cases e
    | fn _ => cases e
    | dct _ _ => cases e
theorem HasD.mkTup {K : PySem.W.Frag} {F : Hp} {ρ : Rho} {a : Addr} {vs : List V} {ds : List D} (h : F a = some (.tup vs)) (z : ds.length ≤ sizeLine) (r : HasDs K F ρ vs ds) : HasD K F ρ (.ref a) (mkTup ds) := by
  unfold G7.mkTup
  cases e : allP ds with
  | some ps => exact .p (.tup h (by rw [allP_len e]; exact z) (allP_has e r))
  | none => exact .tup h z r

/-- an object of the store, in a heap -/
inductive HasKV (F : Hp) : List (L2.Key × V) → List (L2.Key × P) → Prop
  | nil : HasKV F [] []
  | cons {k : L2.Key} {v : V} {x : P} {vs : List (L2.Key × V)} {xs : List (L2.Key × P)} : HasP F v x → HasKV F vs xs → HasKV F ((k, v) :: vs) ((k, x) :: xs)
def FvOk (F : Hp) (m : List Addr) (v : V) : Fv → Prop
  | .p a => HasP F v a
  | .m n => ∃ a, v = .ref a ∧ m[n]? = some a
inductive HasFs (F : Hp) (m : List Addr) : List (Str × V) → List (Str × Fv) → Prop
  | nil : HasFs F m [] []
  | cons {k : Str} {v : V} {x : Fv} {vs : List (Str × V)} {xs : List (Str × Fv)} : FvOk F m v x → HasFs F m vs xs → HasFs F m ((k, v) :: vs) ((k, x) :: xs)
/-- what stands under a key of the dict at a -/
def IVOk (u : UU) (F H : Hp) (a : Addr) (k : NestedKey) (v : V) : IV → Prop
  | .p x => HasP F v x
  | .l xs => ∃ b vs, v = .ref b ∧ u.o b = some (a, k) ∧ H b = some (.lst vs) ∧ xs.length ≤ sizeLine ∧ HasPs F vs xs
  | .d ks => ∃ b ys, v = .ref b ∧ u.o b = some (a, k) ∧ H b = some (gO b ys) ∧ (ys.map (·.1)).Nodup ∧ ks.length ≤ sizeLine ∧ HasKs F ys ks ∧ ∀ y ∈ ys, y.2.2 = Value.bool true
inductive HasG (u : UU) (F H : Hp) (a : Addr) : List Ent → List (P × IV) → Prop
  | nil : HasG u F H a [] []
  | cons {b : Addr} {v : Value} {y : V} {xs : List Ent} {x : P} {iv : IV} {kvs : List (P × IV)} : HasP F (.ref b) x → x.key = true → RelV y v → IVOk u F H a x.nk y iv → HasG u F H a xs kvs → HasG u F H a ((x.nk, b, v) :: xs) ((x, iv) :: kvs)
def OOk (m : List Addr) (C : Addr) (u : UU) (F H : Hp) (a : Addr) : O → Prop
  | .lst xs => xs.length ≤ sizeLine ∧ ∃ vs, H a = some (.lst vs) ∧ HasPs F vs xs
  | .dct kvs => kvs.length ≤ sizeLine ∧ ∃ ws, H a = some (.dK ws) ∧ HasKV F ws kvs
  | .ins fs => ∃ dx ws, H a = some (.ins C dx ws) ∧ HasFs F m ws fs
  | .dctL kvs => kvs.length ≤ sizeLine ∧ ∃ od ws, F a = some (.frz od (.dK ws)) ∧ H a = some (.frz od (.dK ws)) ∧ HasKV F ws kvs
  | .dg kvs => kvs.length ≤ sizeLine ∧ H a = some (gO a (u.e a)) ∧ ((u.e a).map (·.1)).Nodup ∧ HasG u F H a (u.e a) kvs
  | .gone => H a ≠ none
theorem IVOk.mono {u u' : UU} {F F' H H' : Hp} {a : Addr} {k : NestedKey} {v : V} (s : Sub F F') (hu : ∀ b k, u.o b = some (a, k) → u'.o b = some (a, k)) (hH : ∀ b, u.o b = some (a, k) → H' b = H b) : ∀ {iv : IV}, IVOk u F H a k v iv → IVOk u' F' H' a k v iv
  | .p _, h => HasP.mono s _ _ h
  | .l _, ⟨b, vs, e, h1, h2, z, r⟩ => ⟨b, vs, e, hu _ _ h1, by rw [hH b h1]; exact h2, z, HasPs.mono s _ _ r⟩
  | .d _, ⟨b, ys, e, h1, h2, n, z, r, q⟩ => ⟨b, ys, e, hu _ _ h1, by rw [hH b h1]; exact h2, n, z, r.mono s, q⟩
theorem HasG.mono {u u' : UU} {F F' H H' : Hp} {a : Addr} (s : Sub F F') (hu : ∀ b k, u.o b = some (a, k) → u'.o b = some (a, k)) (hH : ∀ b k, u.o b = some (a, k) → H' b = H b) : ∀ {xs : List Ent} {kvs : List (P × IV)}, HasG u F H a xs kvs → HasG u' F' H' a xs kvs
  | _, _, .nil => .nil
  | _, _, .cons h1 h2 h3 h4 h5 => .cons (HasP.mono s _ _ h1) h2 h3 (h4.mono s hu fun b e => hH b _ e) (HasG.mono s hu hH h5)
theorem HasG.length {u : UU} {F H : Hp} {a : Addr} : ∀ {xs : List Ent} {kvs : List (P × IV)}, HasG u F H a xs kvs → xs.length = kvs.length
  | _, _, .nil => rfl
  | _, _, .cons _ _ _ _ h => congrArg (· + 1) (HasG.length h)
theorem HasG.keys {u : UU} {F H : Hp} {a : Addr} : ∀ {xs : List Ent} {kvs : List (P × IV)}, HasG u F H a xs kvs → HasKs F xs (kvs.map (·.1))
  | _, _, .nil => .nil
  | _, _, .cons h1 h2 _ _ h => .cons h1 h2 (HasG.keys h)
theorem HasKV.mono {F F' : Hp} (s : Sub F F') : ∀ {ws : List (L2.Key × V)} {kvs : List (L2.Key × P)}, HasKV F ws kvs → HasKV F' ws kvs
  | _, _, .nil => .nil
  | _, _, .cons a b => .cons (HasP.mono s _ _ a) (HasKV.mono s b)
theorem HasKV.length {F : Hp} : ∀ {ws : List (L2.Key × V)} {kvs : List (L2.Key × P)}, HasKV F ws kvs → ws.length = kvs.length
  | _, _, .nil => rfl
  | _, _, .cons _ b => congrArg (· + 1) (HasKV.length b)
theorem HasKV.val {F : Hp} (k : L2.Key) : ∀ {ws : List (L2.Key × V)} {kvs : List (L2.Key × P)}, HasKV F ws kvs → (∀ x, valP kvs k = some x → ∃ v, L2.valV ws k = some v ∧ HasP F v x) ∧ (L2.valV ws k).isSome = (valP kvs k).isSome
  | _, _, .nil => ⟨fun x e => (by simp [valP] at e), rfl⟩
  | _, _, .cons (k := j) (v := v) (x := y) (vs := vs) (xs := xs) a b => by
    by_cases h : j = k
    · rw [L2.valV_pos h, show valP ((j, y) :: xs) k = some y by simp [valP, h]]
      exact ⟨fun x e => by cases e; exact ⟨v, rfl, a⟩, rfl⟩
    · rw [L2.valV_neg h, show valP ((j, y) :: xs) k = valP xs k by simp [valP, h]]
      exact HasKV.val k b
theorem HasKV.any {F : Hp} (k : L2.Key) : ∀ {ws : List (L2.Key × V)} {kvs : List (L2.Key × P)}, HasKV F ws kvs → (ws.any fun kv => decide (kv.1 = k)) = kvs.any fun kv => decide (kv.1 = k)
  | _, _, .nil => rfl
  | _, _, .cons a b => by simp only [List.any_cons, HasKV.any k b]
theorem HasKV.repl {F : Hp} (k : L2.Key) {v : V} {x : P} (hv : HasP F v x) : ∀ {ws : List (L2.Key × V)} {kvs : List (L2.Key × P)}, HasKV F ws kvs → HasKV F (ws.map fun kv => if kv.1 = k then (kv.1, v) else kv) (kvs.map fun kv => if kv.1 = k then (kv.1, x) else kv)
  | _, _, .nil => .nil
  | _, _, .cons (k := j) a b => by
    simp only [List.map_cons]
    by_cases h : j = k
    · rw [if_pos h, if_pos h]; exact .cons hv (HasKV.repl k hv b)
    · rw [if_neg h, if_neg h]; exact .cons a (HasKV.repl k hv b)
theorem HasKV.snoc {F : Hp} (k : L2.Key) {v : V} {x : P} (hv : HasP F v x) : ∀ {ws : List (L2.Key × V)} {kvs : List (L2.Key × P)}, HasKV F ws kvs → HasKV F (ws ++ [(k, v)]) (kvs ++ [(k, x)])
  | _, _, .nil => .cons hv .nil
  | _, _, .cons a b => .cons a (HasKV.snoc k hv b)
theorem HasKV.put {F : Hp} (k : L2.Key) {v : V} {x : P} (hv : HasP F v x) {ws : List (L2.Key × V)} {kvs : List (L2.Key × P)} (h : HasKV F ws kvs) : HasKV F (L2.putK ws k v) (putP kvs k x) := by
  unfold L2.putK putP
  rw [h.any k]
  split
  · exact h.repl k hv
  · exact h.snoc k hv
theorem putP_len (kvs : List (L2.Key × P)) (k : L2.Key) (v : P) : (putP kvs k v).length ≤ kvs.length + 1 := by
  unfold putP
  split <;> simp
theorem HasKV.keys {F : Hp} : ∀ {ws : List (L2.Key × V)} {kvs : List (L2.Key × P)}, HasKV F ws kvs → HasPs F (ws.map fun p => L2.kV p.1) (kvs.map fun kv => kP kv.1)
  | _, _, .nil => .nil
  | _, _, .cons (k := .inl i) a b => .cons (.int i) (HasKV.keys b)
  | _, _, .cons (k := .inr x) a b => .cons (.str x) (HasKV.keys b)
theorem FvOk.mono {F F' : Hp} {m m' : List Addr} (s : Sub F F') (hm : ∃ r, m' = m ++ r) {v : V} : ∀ {x : Fv}, FvOk F m v x → FvOk F' m' v x
  | .p a, h => HasP.mono s _ _ h
  | .m n, ⟨a, e, h⟩ => by
    obtain ⟨r, rfl⟩ := hm
    exact ⟨a, e, get_pre h⟩
theorem HasFs.mono {F F' : Hp} {m m' : List Addr} (s : Sub F F') (hm : ∃ r, m' = m ++ r) : ∀ {ws : List (Str × V)} {fs : List (Str × Fv)}, HasFs F m ws fs → HasFs F' m' ws fs
  | _, _, .nil => .nil
  | _, _, .cons a b => .cons (a.mono s hm) (HasFs.mono s hm b)
theorem HasFs.lookup {F : Hp} {m : List Addr} (x : Str) : ∀ {ws : List (Str × V)} {fs : List (Str × Fv)}, HasFs F m ws fs → (∀ f, fs.lookup x = some f → ∃ v, ws.lookup x = some v ∧ FvOk F m v f) ∧ (fs.lookup x = none → ws.lookup x = none)
  | _, _, .nil => ⟨fun f e => (by simp at e), fun _ => rfl⟩
  | _, _, .cons (k := j) (v := v) (x := y) (vs := vs) (xs := xs) a b => by
    by_cases h : x = j
    · subst h
      simp only [List.lookup_cons, beq_self_eq_true]
      exact ⟨fun f e => by cases e; exact ⟨v, rfl, a⟩, fun e => by cases e⟩
    · have hb : (x == j) = false := by simpa using h
      simp only [List.lookup_cons, hb]
      exact HasFs.lookup x b
theorem HasFs.put {F : Hp} {m : List Addr} (x : Str) {v : V} {f : Fv} (hv : FvOk F m v f) : ∀ {ws : List (Str × V)} {fs : List (Str × Fv)}, HasFs F m ws fs → HasFs F m (L2.putF x v ws) (putFv x f fs)
  | _, _, .nil => .cons hv .nil
  | _, _, .cons (k := j) a b => by
    unfold L2.putF putFv
    by_cases h : j = x
    · rw [if_pos h, if_pos h]; exact .cons hv b
    · rw [if_neg h, if_neg h]; exact .cons a (HasFs.put x hv b)
theorem HasFs.length {F : Hp} {m : List Addr} : ∀ {ws : List (Str × V)} {fs : List (Str × Fv)}, HasFs F m ws fs → ws.length = fs.length
  | _, _, .nil => rfl
  | _, _, .cons _ b => congrArg (· + 1) (HasFs.length b)
structure Stt (F H : Hp) (ρ : Rho) (s : Sto) : Prop where
  sub : Sub F H
  tl : ρ.t.length = s.t.length
  ml : ρ.m.length = s.m.length
  nd : (ρ.t ++ ρ.m).Nodup
  out : ∀ a ∈ ρ.t ++ ρ.m, F a = none ∨ ∃ od u, F a = some (.frz od u)
  ot : ∀ (i : Nat) (o : O) (a : Addr), s.t[i]? = some o → ρ.t[i]? = some a → OOk ρ.m ρ.C ρ.u F H a o
  om : ∀ (i : Nat) (o : O) (a : Addr), s.m[i]? = some o → ρ.m[i]? = some a → OOk ρ.m ρ.C ρ.u F H a o
  uo : ∀ b, ρ.u.o b ≠ none → F b = none ∧ b ∉ ρ.t ++ ρ.m ∧ H b ≠ none
  uw : ∀ b q k, ρ.u.o b = some (q, k) → H q = some (gO q (ρ.u.e q)) ∧ ∃ c, atKey (ρ.u.e q) k = some (c, Value.ref b)
/-- the object at a, and what stands within it, is the same -/
def SameAt (u : UU) (H H' : Hp) (a : Addr) : Prop := H' a = H a ∧ ∀ b k, u.o b = some (a, k) → H' b = H b
theorem SameAt.refl {u : UU} {H : Hp} {a : Addr} : SameAt u H H a := ⟨rfl, fun _ _ _ => rfl⟩
theorem OOk.mono2 {m m' : List Addr} {C : Addr} {u u' : UU} {F F' H H' : Hp} {a : Addr} (hm : ∃ r, m' = m ++ r) (hu : (∀ b k, u.o b = some (a, k) → u'.o b = some (a, k)) ∧ u'.e a = u.e a) : ∀ {o : O}, Sub F F' → SameAt u H H' a → OOk m C u F H a o → OOk m' C u' F' H' a o
  | .lst xs, s, e, ⟨z, vs, h, r⟩ => ⟨z, vs, by rw [e.1]; exact h, HasPs.mono s _ _ r⟩
  | .dct _, s, e, ⟨z, vs, h, r⟩ => ⟨z, vs, by rw [e.1]; exact h, r.mono s⟩
  | .ins _, s, e, ⟨dx, vs, h, r⟩ => ⟨dx, vs, by rw [e.1]; exact h, r.mono s hm⟩
  | .dctL _, s, e, ⟨z, od, vs, f, h, r⟩ => ⟨z, od, vs, s _ _ f, by rw [e.1]; exact h, r.mono s⟩
  | .dg _, s, e, ⟨z, h, n, r⟩ => ⟨z, by rw [e.1, hu.2]; exact h, by rw [hu.2]; exact n, by rw [hu.2]; exact r.mono s hu.1 e.2⟩
  | .gone, s, e, h => by show H' a ≠ none; rw [e.1]; exact h
theorem OOk.mono {m : List Addr} {C : Addr} {u : UU} {F F' H H' : Hp} {a : Addr} {o : O} (s : Sub F F') (e : SameAt u H H' a) (h : OOk m C u F H a o) : OOk m C u F' H' a o := OOk.mono2 ⟨[], by simp⟩ ⟨fun _ _ z => z, rfl⟩ s e h
theorem OOk.there {m : List Addr} {C : Addr} {u : UU} {F H : Hp} {a : Addr} : ∀ {o : O}, OOk m C u F H a o → H a ≠ none
  | .lst xs, ⟨_, vs, h, r⟩ => by rw [h]; exact fun z => nomatch z
  | .dct _, ⟨_, vs, h, r⟩ => by rw [h]; exact fun z => nomatch z
  | .ins _, ⟨_, vs, h, r⟩ => by rw [h]; exact fun z => nomatch z
  | .dctL _, ⟨_, od, vs, f, h, r⟩ => by rw [h]; exact fun z => nomatch z
  | .dg _, ⟨_, h, r⟩ => by rw [h]; exact fun z => nomatch z
  | .gone, h => h
/-- what is new, or one of ours, is not within another -/
theorem Stt.same {F H : Hp} {ρ : Rho} {s : Sto} (st : Stt F H ρ s) {p a : Addr} {o : HO} (hp : H p = none ∨ p ∈ ρ.t ++ ρ.m) (ha : a ≠ p) : SameAt ρ.u H (upd H p o) a :=
  ⟨upd_ne ha, fun b k hb => upd_ne fun z => by
    obtain ⟨_, h1, h2⟩ := st.uo b (by rw [hb]; exact fun z => nomatch z)
    subst z
    rcases hp with hp | hp
    · exact h2 hp
    · exact h1 hp⟩
theorem Stt.inH {F H : Hp} {ρ : Rho} {s : Sto} (st : Stt F H ρ s) {a : Addr} (ha : a ∈ ρ.t ++ ρ.m) : H a ≠ none := by
  rcases List.mem_append.mp ha with h | h
  · obtain ⟨i, hi, e⟩ := List.mem_iff_getElem.mp h
    have hi' : i < s.t.length := by rw [← st.tl]; exact hi
    exact (st.ot i s.t[i] a (List.getElem?_eq_getElem hi') (by rw [List.getElem?_eq_getElem hi, e])).there
  · obtain ⟨i, hi, e⟩ := List.mem_iff_getElem.mp h
    have hi' : i < s.m.length := by rw [← st.ml]; exact hi
    exact (st.om i s.m[i] a (List.getElem?_eq_getElem hi') (by rw [List.getElem?_eq_getElem hi, e])).there
theorem Stt.uwS {F H : Hp} {ρ : Rho} {s : Sto} (st : Stt F H ρ s) {p : Addr} {o : HO} (hp : ∀ xs, H p ≠ some (gO p xs)) : ∀ b q k, ρ.u.o b = some (q, k) → upd H p o q = some (gO q (ρ.u.e q)) ∧ ∃ c, atKey (ρ.u.e q) k = some (c, Value.ref b) := fun b q k h => by
  obtain ⟨h1, h2⟩ := st.uw b q k h
  exact ⟨by rw [upd_ne (fun z => by subst z; exact hp _ h1)]; exact h1, h2⟩
theorem ne_gO {H : Hp} {p : Addr} (h : H p = none) : ∀ xs, H p ≠ some (gO p xs) := fun xs z => by rw [h] at z; cases z
theorem Stt.uNew {F H : Hp} {ρ : Rho} {s : Sto} (st : Stt F H ρ s) {p : Addr} {o : HO} : ∀ b, ρ.u.o b ≠ none → upd H p o b ≠ none := fun b hb => upd_keeps b (st.uo b hb).2.2
theorem Stt.uNe {F H : Hp} {ρ : Rho} {s : Sto} (st : Stt F H ρ s) {p : Addr} (hp : H p = none) {b : Addr} (hb : ρ.u.o b ≠ none) : b ≠ p := fun z => (st.uo b hb).2.2 (by rw [z]; exact hp)
/-- a new object, not to be changed -/
theorem Stt.new {F H : Hp} {ρ : Rho} {s : Sto} (st : Stt F H ρ s) {p : Addr} {o : HO} (hp : H p = none) : Stt (upd F p o) (upd H p o) ρ s := by
  have ne : ∀ a ∈ ρ.t ++ ρ.m, a ≠ p := fun a ha z => st.inH ha (by rw [z]; exact hp)
  have fp := st.sub.none hp
  refine ⟨st.sub.ups hp, st.tl, st.ml, st.nd, fun a ha => by rw [upd_ne (ne a ha)]; exact st.out a ha, fun i o a e1 e2 => ?_, fun i o a e1 e2 => ?_, fun b hb => ?_, st.uwS (ne_gO hp)⟩
  · exact (st.ot i o a e1 e2).mono (sub_upd fp) (st.same (.inl hp) (ne a (List.mem_append_left _ (List.mem_of_getElem? e2))))
  · exact (st.om i o a e1 e2).mono (sub_upd fp) (st.same (.inl hp) (ne a (List.mem_append_right _ (List.mem_of_getElem? e2))))
  · exact ⟨by rw [upd_ne (st.uNe hp hb)]; exact (st.uo b hb).1, (st.uo b hb).2.1, st.uNew b hb⟩
/-- a new object that nobody of ours knows -/
theorem Stt.skip {F H : Hp} {ρ : Rho} {s : Sto} (st : Stt F H ρ s) {p : Addr} {o : HO} (hp : H p = none) : Stt F (upd H p o) ρ s := by
  have ne : ∀ a ∈ ρ.t ++ ρ.m, a ≠ p := fun a ha z => st.inH ha (by rw [z]; exact hp)
  have fp := st.sub.none hp
  refine ⟨st.sub.updR fp, st.tl, st.ml, st.nd, st.out, fun i o a e1 e2 => ?_, fun i o a e1 e2 => ?_, fun b hb => ⟨(st.uo b hb).1, (st.uo b hb).2.1, st.uNew b hb⟩, st.uwS (ne_gO hp)⟩
  · exact (st.ot i o a e1 e2).mono (Sub.refl F) (st.same (.inl hp) (ne a (List.mem_append_left _ (List.mem_of_getElem? e2))))
  · exact (st.om i o a e1 e2).mono (Sub.refl F) (st.same (.inl hp) (ne a (List.mem_append_right _ (List.mem_of_getElem? e2))))
/-- a new object of the frame -/
theorem Stt.pushO {F H : Hp} {ρ : Rho} {s : Sto} (st : Stt F H ρ s) {p : Addr} {ho : HO} {ob : O} (hp : H p = none) (ok : OOk ρ.m ρ.C ρ.u F (upd H p ho) p ob) : Stt F (upd H p ho) ⟨ρ.t ++ [p], ρ.m, ρ.C, ρ.u⟩ (s.pushT ob) := by
  have ne : ∀ a ∈ ρ.t ++ ρ.m, a ≠ p := fun a ha z => st.inH ha (by rw [z]; exact hp)
  have fp := st.sub.none hp
  refine ⟨st.sub.updR fp, by simp [Sto.pushT, st.tl], by simp [Sto.pushT, st.ml], ?_, fun a ha => ?_, fun i o a e1 e2 => ?_, fun i o a e1 e2 => ?_, fun b hb => ?_, st.uwS (ne_gO hp)⟩
  · show ((ρ.t ++ [p]) ++ ρ.m).Nodup
    have h := st.nd
    rw [List.nodup_append] at h ⊢
    refine ⟨?_, h.2.1, fun a ha b hb => ?_⟩
    · rw [List.nodup_append]
      refine ⟨h.1, by simp, fun a ha b hb => ?_⟩
      have e : b = p := by simpa using hb
      rw [e]; exact ne a (List.mem_append_left _ ha)
    · rcases List.mem_append.mp ha with ha | ha
      · exact h.2.2 a ha b hb
      · have e : a = p := by simpa using ha
        rw [e]; exact (ne b (List.mem_append_right _ hb)).symm
  · rcases List.mem_append.mp ha with ha | ha
    · rcases List.mem_append.mp ha with ha | ha
      · exact st.out a (List.mem_append_left _ ha)
      · have e : a = p := by simpa using ha
        exact .inl (by rw [e]; exact fp)
    · exact st.out a (List.mem_append_right _ ha)
  · have hi : i < (s.t ++ [ob]).length := (List.getElem?_eq_some_iff.mp e1).1
    by_cases hl : i < s.t.length
    · have e1' : s.t[i]? = some o := by
        have := e1; rw [show (s.pushT ob).t = s.t ++ [ob] from rfl, List.getElem?_append_left hl] at this; exact this
      have e2' : ρ.t[i]? = some a := by
        have := e2; rw [List.getElem?_append_left (by rw [st.tl]; exact hl)] at this; exact this
      exact (st.ot i o a e1' e2').mono (Sub.refl F) (st.same (.inl hp) (ne a (List.mem_append_left _ (List.mem_of_getElem? e2'))))
    · have hi' : i = s.t.length := by simp at hi; omega
      subst hi'
      have e1' : ob = o := by simpa [Sto.pushT] using e1
      have e2' : p = a := by
        have := e2; rw [show s.t.length = ρ.t.length from st.tl.symm] at this; simpa using this
      subst e1'; subst e2'
      exact ok
  · have hm : a ∈ ρ.t ++ ρ.m := List.mem_append_right _ (List.mem_of_getElem? e2)
    exact (st.om i o a e1 e2).mono (Sub.refl F) (st.same (.inl hp) (ne a hm))
  · refine ⟨(st.uo b hb).1, fun h => ?_, st.uNew b hb⟩
    have h : b ∈ (ρ.t ++ [p]) ++ ρ.m := h
    rcases List.mem_append.mp h with h | h
    · rcases List.mem_append.mp h with h | h
      · exact (st.uo b hb).2.1 (List.mem_append_left _ h)
      · exact st.uNe hp hb (by simpa using h)
    · exact (st.uo b hb).2.1 (List.mem_append_right _ h)
theorem Stt.pushT {F H : Hp} {ρ : Rho} {s : Sto} (st : Stt F H ρ s) {p : Addr} {vs : List V} {xs : List P} (hp : H p = none) (z : xs.length ≤ sizeLine) (r : HasPs F vs xs) : Stt F (upd H p (.lst vs)) ⟨ρ.t ++ [p], ρ.m, ρ.C, ρ.u⟩ (s.pushT (.lst xs)) := st.pushO hp ⟨z, vs, upd_same, r⟩
/-- a new object that stays -/
theorem Stt.pushM {F H : Hp} {ρ : Rho} {s : Sto} (st : Stt F H ρ s) {p : Addr} {ho : HO} {ob : O} (hp : H p = none) (ok : OOk (ρ.m ++ [p]) ρ.C ρ.u F (upd H p ho) p ob) : Stt F (upd H p ho) ⟨ρ.t, ρ.m ++ [p], ρ.C, ρ.u⟩ (s.pushM ob) := by
  have ne : ∀ a ∈ ρ.t ++ ρ.m, a ≠ p := fun a ha z => st.inH ha (by rw [z]; exact hp)
  have fp := st.sub.none hp
  refine ⟨st.sub.updR fp, by simp [Sto.pushM, st.tl], by simp [Sto.pushM, st.ml], ?_, fun a ha => ?_, fun i o a e1 e2 => ?_, fun i o a e1 e2 => ?_, fun b hb => ?_, st.uwS (ne_gO hp)⟩
  · show (ρ.t ++ (ρ.m ++ [p])).Nodup
    rw [← List.append_assoc, List.nodup_append]
    refine ⟨st.nd, by simp, fun a ha b hb => ?_⟩
    have e : b = p := by simpa using hb
    rw [e]; exact ne a ha
  · have ha : a ∈ (ρ.t ++ ρ.m) ++ [p] := by rw [List.append_assoc]; exact ha
    rcases List.mem_append.mp ha with ha | ha
    · exact st.out a ha
    · have e : a = p := by simpa using ha
      exact .inl (by rw [e]; exact fp)
  · exact (st.ot i o a e1 e2).mono2 ⟨[p], rfl⟩ ⟨fun _ _ z => z, rfl⟩ (Sub.refl F) (st.same (.inl hp) (ne a (List.mem_append_left _ (List.mem_of_getElem? e2))))
  · have hi : i < (s.m ++ [ob]).length := (List.getElem?_eq_some_iff.mp e1).1
    by_cases hl : i < s.m.length
    · have e1' : s.m[i]? = some o := by
        have := e1; rw [show (s.pushM ob).m = s.m ++ [ob] from rfl, List.getElem?_append_left hl] at this; exact this
      have e2' : ρ.m[i]? = some a := by
        have := e2; rw [List.getElem?_append_left (by rw [st.ml]; exact hl)] at this; exact this
      exact (st.om i o a e1' e2').mono2 ⟨[p], rfl⟩ ⟨fun _ _ z => z, rfl⟩ (Sub.refl F) (st.same (.inl hp) (ne a (List.mem_append_right _ (List.mem_of_getElem? e2'))))
    · have hi' : i = s.m.length := by simp at hi; omega
      subst hi'
      have e1' : ob = o := by simpa [Sto.pushM] using e1
      have e2' : p = a := by
        have := e2; rw [show s.m.length = ρ.m.length from st.ml.symm] at this; simpa using this
      subst e1'; subst e2'
      exact ok
  · refine ⟨(st.uo b hb).1, fun h => ?_, st.uNew b hb⟩
    have h : b ∈ (ρ.t ++ ρ.m) ++ [p] := by rw [List.append_assoc]; exact h
    rcases List.mem_append.mp h with h | h
    · exact (st.uo b hb).2.1 h
    · exact st.uNe hp hb (by simpa using h)
theorem get_set {α : Type} {l : List α} {n i : Nat} {a o : α} (h : (l.set n a)[i]? = some o) : (i = n ∧ o = a) ∨ (i ≠ n ∧ l[i]? = some o) := by
  by_cases e : i = n
  · subst e
    have hi : i < (l.set i a).length := (List.getElem?_eq_some_iff.mp h).1
    rw [List.getElem?_set_self (by simpa using hi)] at h
    exact .inl ⟨rfl, (Option.some.inj h).symm⟩
  · rw [List.getElem?_set_ne (Ne.symm e)] at h
    exact .inr ⟨e, h⟩
theorem nodup_ix {l : List Addr} (h : l.Nodup) {i j : Nat} {a : Addr} (hi : l[i]? = some a) (hj : l[j]? = some a) : i = j := by
  obtain ⟨h1, e1⟩ := List.getElem?_eq_some_iff.mp hi
  obtain ⟨h2, e2⟩ := List.getElem?_eq_some_iff.mp hj
  exact (List.getElem_inj h).mp (e1.trans e2.symm)
theorem Stt.free {F H : Hp} {ρ : Rho} {s : Sto} (st : Stt F H ρ s) {p : Addr} {ho : HO} (hm : p ∈ ρ.t ++ ρ.m) (hH : H p = some ho) (hn : ∀ od u, ho ≠ .frz od u) : F p = none := by
  rcases st.out p hm with h | ⟨od, u, h⟩
  · exact h
  · rw [st.sub _ _ h] at hH
    cases hH
    exact absurd rfl (hn od u)
/-- a list of the frame is written -/
theorem Stt.setTO {F H : Hp} {ρ : Rho} {s : Sto} (st : Stt F H ρ s) {n : Nat} {p : Addr} {ho : HO} {ob : O} (hp : ρ.t[n]? = some p) (hF : F p = none) (hw : ∀ b q k, ρ.u.o b = some (q, k) → upd H p ho q = some (gO q (ρ.u.e q)) ∧ ∃ c, atKey (ρ.u.e q) k = some (c, Value.ref b)) (ok : OOk ρ.m ρ.C ρ.u F (upd H p ho) p ob) : Stt F (upd H p ho) ρ (s.setT n ob) := by
  have hm : p ∈ ρ.t ++ ρ.m := List.mem_append_left _ (List.mem_of_getElem? hp)
  have ndt := (List.nodup_append.mp st.nd)
  refine ⟨st.sub.updR hF, by simp [Sto.setT, st.tl], by simp [Sto.setT, st.ml], st.nd, st.out, fun i o a e1 e2 => ?_, fun i o a e1 e2 => ?_, fun b hb => ⟨(st.uo b hb).1, (st.uo b hb).2.1, st.uNew b hb⟩, hw⟩
  · rcases get_set e1 with ⟨h1, h2⟩ | ⟨h1, h2⟩
    · subst h1; subst h2
      rw [hp] at e2; cases e2
      exact ok
    · exact (st.ot i o a h2 e2).mono (Sub.refl F) (st.same (.inr hm) fun z => h1 (nodup_ix ndt.1 e2 (z ▸ hp)))
  · exact (st.om i o a e1 e2).mono (Sub.refl F) (st.same (.inr hm) fun z => ndt.2.2 p (List.mem_of_getElem? hp) a (List.mem_of_getElem? e2) z.symm)
theorem Stt.setT {F H : Hp} {ρ : Rho} {s : Sto} (st : Stt F H ρ s) {n : Nat} {p : Addr} {vs : List V} {xs : List P} (hp : ρ.t[n]? = some p) (hF : F p = none) (hg : ∀ xs, H p ≠ some (gO p xs)) (z : xs.length ≤ sizeLine) (r : HasPs F vs xs) : Stt F (upd H p (.lst vs)) ρ (s.setT n (.lst xs)) := st.setTO hp hF (st.uwS hg) ⟨z, vs, upd_same, r⟩
theorem Stt.setMO {F H : Hp} {ρ : Rho} {s : Sto} (st : Stt F H ρ s) {n : Nat} {p : Addr} {ho : HO} {ob : O} (hp : ρ.m[n]? = some p) (hF : F p = none) (hw : ∀ b q k, ρ.u.o b = some (q, k) → upd H p ho q = some (gO q (ρ.u.e q)) ∧ ∃ c, atKey (ρ.u.e q) k = some (c, Value.ref b)) (ok : OOk ρ.m ρ.C ρ.u F (upd H p ho) p ob) : Stt F (upd H p ho) ρ (s.setM n ob) := by
  have hm : p ∈ ρ.t ++ ρ.m := List.mem_append_right _ (List.mem_of_getElem? hp)
  have ndt := (List.nodup_append.mp st.nd)
  refine ⟨st.sub.updR hF, by simp [Sto.setM, st.tl], by simp [Sto.setM, st.ml], st.nd, st.out, fun i o a e1 e2 => ?_, fun i o a e1 e2 => ?_, fun b hb => ⟨(st.uo b hb).1, (st.uo b hb).2.1, st.uNew b hb⟩, hw⟩
  · exact (st.ot i o a e1 e2).mono (Sub.refl F) (st.same (.inr hm) fun z => ndt.2.2 a (List.mem_of_getElem? e2) p (List.mem_of_getElem? hp) z)
  · rcases get_set e1 with ⟨h1, h2⟩ | ⟨h1, h2⟩
    · subst h1; subst h2
      rw [hp] at e2; cases e2
      exact ok
    · exact (st.om i o a h2 e2).mono (Sub.refl F) (st.same (.inr hm) fun z => h1 (nodup_ix ndt.2.1 e2 (z ▸ hp)))
theorem Stt.setM {F H : Hp} {ρ : Rho} {s : Sto} (st : Stt F H ρ s) {n : Nat} {p : Addr} {vs : List V} {xs : List P} (hp : ρ.m[n]? = some p) (hF : F p = none) (hg : ∀ xs, H p ≠ some (gO p xs)) (z : xs.length ≤ sizeLine) (r : HasPs F vs xs) : Stt F (upd H p (.lst vs)) ρ (s.setM n (.lst xs)) := st.setMO hp hF (st.uwS hg) ⟨z, vs, upd_same, r⟩

/-! the steps as Ext -/
theorem Stt.xnew {F H : Hp} {ρ : Rho} {s : Sto} (st : Stt F H ρ s) {p : Addr} {o : HO} (hp : H p = none) : Ext F H ρ (upd F p o) (upd H p o) ρ := by
  refine ⟨sub_upd (st.sub.none hp), ⟨[], by simp⟩, ⟨[], by simp⟩, fun a o' h _ _ => ?_, fun a h => .inl h, fun a o' h => ?_, fun a h => upd_keeps a h, rfl, fun _ h => .inl h, fun _ _ _ h => .inl h⟩
  · rw [upd_ne (ne_of_none h hp)]; exact h
  · rcases upd_new h with z | z
    · exact .inl z
    · exact .inr (.inl (by rw [z]; exact hp))
theorem Stt.xskip {F H : Hp} {ρ : Rho} {s : Sto} (st : Stt F H ρ s) {p : Addr} {o : HO} (hp : H p = none) : Ext F H ρ F (upd H p o) ρ :=
  ⟨Sub.refl F, ⟨[], by simp⟩, ⟨[], by simp⟩, fun a o' h _ _ => by rw [upd_ne (ne_of_none h hp)]; exact h, fun a h => .inl h, fun a o' h => .inl h, fun a h => upd_keeps a h, rfl, fun _ h => .inl h, fun _ _ _ h => .inl h⟩
theorem Stt.xpush {F H : Hp} {ρ : Rho} {s : Sto} (st : Stt F H ρ s) {p : Addr} {o : HO} (hp : H p = none) : Ext F H ρ F (upd H p o) ⟨ρ.t ++ [p], ρ.m, ρ.C, ρ.u⟩ := by
  refine ⟨Sub.refl F, ⟨[p], rfl⟩, ⟨[], by simp⟩, fun a o' h _ _ => by rw [upd_ne (ne_of_none h hp)]; exact h, fun a h => ?_, fun a o' h => .inl h, fun a h => upd_keeps a h, rfl, fun _ h => .inl h, fun _ _ _ h => .inl h⟩
  rcases List.mem_append.mp h with h | h
  · rcases List.mem_append.mp h with h | h
    · exact .inl (List.mem_append_left _ h)
    · exact .inr (by rw [show a = p by simpa using h]; exact hp)
  · exact .inl (List.mem_append_right _ h)
theorem Stt.xpushM {F H : Hp} {ρ : Rho} {s : Sto} (st : Stt F H ρ s) {p : Addr} {o : HO} (hp : H p = none) : Ext F H ρ F (upd H p o) ⟨ρ.t, ρ.m ++ [p], ρ.C, ρ.u⟩ := by
  refine ⟨Sub.refl F, ⟨[], by simp⟩, ⟨[p], rfl⟩, fun a o' h _ _ => by rw [upd_ne (ne_of_none h hp)]; exact h, fun a h => ?_, fun a o' h => .inl h, fun a h => upd_keeps a h, rfl, fun _ h => .inl h, fun _ _ _ h => .inl h⟩
  have h : a ∈ (ρ.t ++ ρ.m) ++ [p] := by rw [List.append_assoc]; exact h
  rcases List.mem_append.mp h with h | h
  · exact .inl h
  · exact .inr (by rw [show a = p by simpa using h]; exact hp)
theorem Stt.xset {F H : Hp} {ρ : Rho} {p : Addr} {o : HO} (hp : p ∈ ρ.t ++ ρ.m) : Ext F H ρ F (upd H p o) ρ :=
  ⟨Sub.refl F, ⟨[], by simp⟩, ⟨[], by simp⟩, fun a o' h hn _ => by rw [upd_ne (show a ≠ p from fun z => hn (by rw [z]; exact hp))]; exact h, fun a h => .inl h, fun a o' h => .inl h, fun a h => upd_keeps a h, rfl, fun _ h => .inl h, fun _ _ _ h => .inl h⟩

theorem Stt.more {F H H' : Hp} {ρ : Rho} {s : Sto} (st : Stt F H ρ s) (h : Sub H H') : Stt F H' ρ s := by
  have eq : ∀ a, a ∈ ρ.t ++ ρ.m → H' a = H a := fun a ha => by
    cases e : H a with
    | none => exact absurd e (st.inH ha)
    | some o => exact h a o e
  have equ : ∀ b, ρ.u.o b ≠ none → H' b = H b := fun b hb => by
    cases e : H b with
    | none => exact absurd e (st.uo b hb).2.2
    | some o => exact h b o e
  have sa : ∀ a, a ∈ ρ.t ++ ρ.m → SameAt ρ.u H H' a := fun a ha => ⟨eq a ha, fun b k hb => equ b (by rw [hb]; exact fun z => nomatch z)⟩
  exact ⟨st.sub.trans h, st.tl, st.ml, st.nd, st.out, fun i o a e1 e2 => (st.ot i o a e1 e2).mono (Sub.refl F) (sa a (List.mem_append_left _ (List.mem_of_getElem? e2))),
    fun i o a e1 e2 => (st.om i o a e1 e2).mono (Sub.refl F) (sa a (List.mem_append_right _ (List.mem_of_getElem? e2))), fun b hb => ⟨(st.uo b hb).1, (st.uo b hb).2.1, by rw [equ b hb]; exact (st.uo b hb).2.2⟩, fun b q k e => let ⟨h1, h2⟩ := st.uw b q k e; ⟨h _ _ h1, h2⟩⟩
theorem Ext.more {F H H' : Hp} {ρ : Rho} (h : Sub H H') : Ext F H ρ F H' ρ :=
  ⟨Sub.refl F, ⟨[], by simp⟩, ⟨[], by simp⟩, fun a o e _ _ => h a o e, fun a e => .inl e, fun a o e => .inl e, fun a e z => by
    cases q : H a with
    | none => exact e q
    | some o => rw [h a o q] at z; exact (nomatch z), rfl, fun _ h => .inl h, fun _ _ _ h => .inl h⟩

/-- the slots -/
structure SlOk (K : PySem.W.Frag) (F : Hp) (ρ : Rho) (σ : St) (τ : Sl) : Prop where
  c : ρ.C = He.ga K (Str.ofString "House")
  len : σ.length = τ.length
  at_ : ∀ (i : Nat) (d : D), τ[i]? = some (some d) → ∃ v, σ[i]? = some (some v) ∧ HasD K F ρ v d
theorem SlOk.mono {K : PySem.W.Frag} {F H F' H' : Hp} {ρ ρ' : Rho} {σ : St} {τ : Sl} (h : SlOk K F ρ σ τ) (e : Ext F H ρ F' H' ρ') : SlOk K F' ρ' σ τ :=
  ⟨e.c.trans h.c, h.len, fun i d q => let ⟨v, h1, h2⟩ := h.at_ i d q; ⟨v, h1, HasD.mono e _ _ h2⟩⟩
theorem SlOk.set {K : PySem.W.Frag} {F : Hp} {ρ : Rho} {σ : St} {τ : Sl} (h : SlOk K F ρ σ τ) {i : Nat} {v : V} {d : D} (hd : HasD K F ρ v d) : SlOk K F ρ (σ.set i (some v)) (τ.set i (some d)) := by
  refine ⟨h.c, by simp [h.len], fun j e q => ?_⟩
  rcases get_set q with ⟨h1, h2⟩ | ⟨h1, h2⟩
  · subst h1
    cases h2
    have hj : j < τ.length := by
      have := (List.getElem?_eq_some_iff.mp q).1
      simpa using this
    exact ⟨v, by rw [List.getElem?_set_self (by rw [h.len]; exact hj)], hd⟩
  · obtain ⟨w, h3, h4⟩ := h.at_ j e h2
    exact ⟨w, by rw [List.getElem?_set_ne (Ne.symm h1)]; exact h3, h4⟩
theorem SlOk.unset {K : PySem.W.Frag} {F : Hp} {ρ : Rho} {σ : St} {τ : Sl} (h : SlOk K F ρ σ τ) {i : Nat} : SlOk K F ρ (σ.set i none) (τ.set i none) := by
  refine ⟨h.c, by simp [h.len], fun j e q => ?_⟩
  rcases get_set q with ⟨h1, h2⟩ | ⟨h1, h2⟩
  · cases h2
  · obtain ⟨w, h3, h4⟩ := h.at_ j e h2
    exact ⟨w, by rw [List.getElem?_set_ne (Ne.symm h1)]; exact h3, h4⟩
theorem SlOk.wipe {K : PySem.W.Frag} {F : Hp} {ρ : Rho} {σ : St} {τ : Sl} (h : SlOk K F ρ σ τ) : ∀ vs : List Nat, SlOk K F ρ (L2.wipe σ vs) (G7.wipe τ vs)
  | [] => h
  | v :: vs => (SlOk.wipe h vs).unset

/-! ### ends -/
/-- what is wanted of an end: xc tells the class of a refusal -/
def RP {α : Type} (xc : Nat → Value) (W : WX) (σ : St) (F H : Hp) (ρ : Rho) (r : R α) (C : α → Sto → Hp → Hp → Rho → Prop) : Prop := match r with
  | .ok a s => ∀ F' H' ρ', Ext F H ρ F' H' ρ' → Stt F' H' ρ' s → C a s F' H' ρ'
  | .exc c s => ∀ F' H' ρ', Ext F H ρ F' H' ρ' → Stt F' H' ρ' s → W (xc c) none σ H'
  | .bad => False
section
variable {α β : Type} {xc : Nat → Value} {W : WX} {σ : St} {F H F' H' : Hp} {ρ ρ' : Rho} {r : R α}
theorem RP.mono {C : α → Sto → Hp → Hp → Rho → Prop} (h : RP xc W σ F H ρ r C) (e : Ext F H ρ F' H' ρ') : RP xc W σ F' H' ρ' r C := by
  cases r with
  | ok a s => exact fun F'' H'' ρ'' e' => h F'' H'' ρ'' (e.trans e')
  | exc c s => exact fun F'' H'' ρ'' e' => h F'' H'' ρ'' (e.trans e')
  | bad => exact h
theorem RP.imp {C C' : α → Sto → Hp → Hp → Rho → Prop} (h : RP xc W σ F H ρ r C) (g : ∀ a s F' H' ρ', Ext F H ρ F' H' ρ' → Stt F' H' ρ' s → C a s F' H' ρ' → C' a s F' H' ρ') : RP xc W σ F H ρ r C' := by
  cases r with
  | ok a s => exact fun F' H' ρ' e st => g a s F' H' ρ' e st (h F' H' ρ' e st)
  | exc c s => exact h
  | bad => exact h
theorem RP.impE {C C' : α → Sto → Hp → Hp → Rho → Prop} (h : RP xc W σ F H ρ r C) (g : ∀ a s F' H' ρ', r = .ok a s → Ext F H ρ F' H' ρ' → Stt F' H' ρ' s → C a s F' H' ρ' → C' a s F' H' ρ') : RP xc W σ F H ρ r C' := by
  cases r with
  | ok a s => exact fun F' H' ρ' e st => g a s F' H' ρ' rfl e st (h F' H' ρ' e st)
  | exc c s => exact h
  | bad => exact h
theorem RP.bind {f : α → Sto → R β} {C : β → Sto → Hp → Hp → Rho → Prop} (h : RP xc W σ F H ρ (r.bind f) C) : RP xc W σ F H ρ r (fun a s F' H' ρ' => RP xc W σ F' H' ρ' (f a s) C) := by
  cases r with
  | ok a s => exact fun F' H' ρ' e _ => RP.mono (r := f a s) h e
  | exc c s => exact h
  | bad => exact h
theorem RP.of {o : Option α} {s : Sto} {C : α → Sto → Hp → Hp → Rho → Prop} (h : RP xc W σ F H ρ (R.of o s) C) : ∃ a, o = some a ∧ RP xc W σ F H ρ (.ok a s) C := by
  cases o with
  | none => exact h.elim
  | some a => exact ⟨a, rfl, h⟩
theorem RP.now {a : α} {s : Sto} {C : α → Sto → Hp → Hp → Rho → Prop} (h : RP xc W σ F H ρ (.ok a s) C) (st : Stt F H ρ s) : C a s F H ρ := h F H ρ (Ext.refl F H ρ) st
end
/-- an end with a value -/
def CV (K : PySem.W.Frag) (Q : V → Hp → Prop) : D → Sto → Hp → Hp → Rho → Prop := fun d s F H ρ => ∀ v, HasD K F ρ v d → Q v H
def CVs (K : PySem.W.Frag) (Q : List V → Hp → Prop) : List D → Sto → Hp → Hp → Rho → Prop := fun d s F H ρ => ∀ v, HasDs K F ρ v d → Q v H
/-- a fresh list -/
def CL (K : PySem.W.Frag) (Q : V → Hp → Prop) : List P → Sto → Hp → Hp → Rho → Prop := fun xs s F H ρ => ∀ p vs, H p = none → xs.length ≤ sizeLine → HasPs F vs xs → Q (.ref p) (upd H p (.lst vs))
/-- .. now and later -/
def Fut (K : PySem.W.Frag) (Q : V → Hp → Prop) (F H : Hp) (ρ : Rho) (d : D) (s : Sto) : Prop := ∀ F' H' ρ', Ext F H ρ F' H' ρ' → Stt F' H' ρ' s → CV K Q d s F' H' ρ'
theorem Fut.now {K : PySem.W.Frag} {Q : V → Hp → Prop} {F H : Hp} {ρ : Rho} {d : D} {s : Sto} (h : Fut K Q F H ρ d s) {v : V} (st : Stt F H ρ s) (hd : HasD K F ρ v d) : Q v H := h F H ρ (Ext.refl F H ρ) st v hd
theorem Fut.new {K : PySem.W.Frag} {Q : V → Hp → Prop} {F H : Hp} {ρ : Rho} {a : P} {s : Sto} (h : Fut K Q F H ρ (.p a) s) {p : Addr} {o : HO} (st : Stt F H ρ s) (hp : H p = none) (hd : HasP (upd F p o) (.ref p) a) : Q (.ref p) (upd H p o) :=
  h (upd F p o) (upd H p o) ρ (st.xnew hp) (st.new hp) (.ref p) (.p hd)
theorem RP.fut {K : PySem.W.Frag} {xc : Nat → Value} {W : WX} {σ : St} {F H : Hp} {ρ : Rho} {Q : V → Hp → Prop} {d : D} {s : Sto} (h : RP xc W σ F H ρ (.ok d s) (CV K Q)) : Fut K Q F H ρ d s := h
def tE (K : PySem.W.Frag) (xc : Nat → Value) (W : WX) (x : Sl → Sto → R D) : TE := fun σ H Q => ∃ F ρ τ s, Stt F H ρ s ∧ SlOk K F ρ σ τ ∧ RP xc W σ F H ρ (x τ s) (CV K Q)
def tL (K : PySem.W.Frag) (xc : Nat → Value) (W : WX) (x : Sl → Sto → R (List P)) : TE := fun σ H Q => ∃ F ρ τ s, Stt F H ρ s ∧ SlOk K F ρ σ τ ∧ RP xc W σ F H ρ (x τ s) (CL K Q)
def tA (K : PySem.W.Frag) (xc : Nat → Value) (W : WX) (x : Sl → Sto → R (List D)) : L2.TA := fun σ H Q => ∃ F ρ τ s, Stt F H ρ s ∧ SlOk K F ρ σ τ ∧ RP xc W σ F H ρ (x τ s) (CVs K Q)
def tT (K : PySem.W.Frag) (xc : Nat → Value) (W : WX) (x : Sl → Sto → R D) : L2.TT := fun σ H Q => ∃ F ρ τ s, Stt F H ρ s ∧ SlOk K F ρ σ τ ∧ RP xc W σ F H ρ (x τ s) (fun d s F H ρ => ∃ b, d = .p (.bl b) ∧ Q b H)
end
end G7

namespace G7
open PySem PySem.Spec
open L2 (V Hp HO St WX TE TS R2 OpR CallR MtR MtM SlR IxR Inv RelV Vals ObjOk Mut upd upd_same upd_ne ne_of_none SqL SqT Cx Room EP VK PE PT PA PI PG PGs PO Sp XK It TI TG TGs FnOk thn)
variable [WW]
/-! ### a key in the heap -/
mutual
inductive NK (H : Hp) : V → NestedKey → Prop
  | non : NK H .non .none
  | int (i : Int) : NK H (.int i) (.num i)
  | str (x : Str) : NK H (.str x) (.text x)
  | tup {a : Addr} {vs : List V} {ks : List NestedKey} : H a = some (.tup vs) → NKs H vs ks → NK H (.ref a) (.tup ks)
inductive NKs (H : Hp) : List V → List NestedKey → Prop
  | nil : NKs H [] []
  | cons {v : V} {k : NestedKey} {vs : List V} {ks : List NestedKey} : NK H v k → NKs H vs ks → NKs H (v :: vs) (k :: ks)
end
mutual
theorem HasP.nk {F H : Hp} (s : Sub F H) : ∀ (x : P) (v : V) (n : Nat), x.hk n = true → HasP F v x → NK H v x.nk
  | .non, _, _, _, h => by cases h; exact .non
  | .bl b, _, _, hk, h => by simp [P.hk] at hk
  | .int i, _, _, _, h => by cases h; exact .int i
  | .str x, _, _, _, h => by cases h; exact .str x
  | .lst xs, _, _, hk, h => by simp [P.hk] at hk
  | .tup xs, _, 0, hk, h => by simp [P.hk] at hk
  | .tup xs, _, n + 1, hk, h => by
    cases h with
    | tup e z r => exact .tup (s _ _ e) (HasPs.nk s xs _ n (by simpa [P.hk] using hk) r)
theorem HasPs.nk {F H : Hp} (s : Sub F H) : ∀ (xs : List P) (vs : List V) (n : Nat), P.hks xs n = true → HasPs F vs xs → NKs H vs (P.nks xs)
  | [], _, _, _, h => by cases h; exact .nil
  | x :: xs, _, n, hk, h => by
    simp only [P.hks, Bool.and_eq_true] at hk
    cases h with
    | cons a b => exact .cons (HasP.nk s x _ n hk.1 a) (HasPs.nk s xs _ n hk.2 b)
end
mutual
theorem NK.is {X : Cx} {pins : List (Addr × Obj)} {σ : St} {H : Hp} {s : Shared} (I : Inv X pins σ H s) : ∀ (k : NestedKey) (v : V) (u : Value), NK H v k → RelV v u → NestedIs s.heap k u
  | .none, _, _, h, r => by cases h; cases (show _ = Value.none from r); exact .none
  | .num i, _, _, h, r => by
    cases h
    obtain ⟨t, e⟩ := (show ∃ t, _ = Value.int i t from r)
    subst e; exact .int i t
  | .text x, _, _, h, r => by
    cases h
    obtain ⟨t, e⟩ := (show ∃ t, _ = Value.str x t from r)
    subst e; exact .text x t
  | .tup ks, _, _, h, r => by
    cases h with
    | @tup a vs _ e q =>
      cases (show _ = Value.ref a from r)
      obtain ⟨z, its, rv, o, ho, hc, n, hd⟩ := I.hok a _ e
      exact .tup ho hc hd (NKs.is I ks vs its q rv)
theorem NKs.is {X : Cx} {pins : List (Addr × Obj)} {σ : St} {H : Hp} {s : Shared} (I : Inv X pins σ H s) : ∀ (ks : List NestedKey) (vs : List V) (us : List Value), NKs H vs ks → Vals vs us → NestedAll s.heap ks us
  | [], _, _, h, r => by cases h; cases r; exact .nil
  | k :: ks, _, _, h, r => by
    cases h with | cons a b =>
    cases r with | cons r1 r2 =>
    exact .cons (NK.is I k _ _ a r1) (NKs.is I ks _ _ b r2)
end
mutual
theorem NK.mono {H H' : Hp} (s : ∀ a vs, H a = some (.tup vs) → H' a = some (.tup vs)) : ∀ (k : NestedKey) (v : V), NK H v k → NK H' v k
  | .none, _, h => by cases h; exact .non
  | .num i, _, h => by cases h; exact .int i
  | .text x, _, h => by cases h; exact .str x
  | .tup ks, _, h => by cases h with | tup e q => exact .tup (s _ _ e) (NKs.mono s ks _ q)
theorem NKs.mono {H H' : Hp} (s : ∀ a vs, H a = some (.tup vs) → H' a = some (.tup vs)) : ∀ (ks : List NestedKey) (vs : List V), NKs H vs ks → NKs H' vs ks
  | [], _, h => by cases h; exact .nil
  | k :: ks, _, h => by cases h with | cons a b => exact .cons (NK.mono s k _ a) (NKs.mono s ks _ b)
end
/-- a dict under keys, in a heap -/
structure GD (H : Hp) (a : Addr) (xs : List Ent) : Prop where
  o : L2.Rd H a (gO a xs)
  ks : ∀ x ∈ xs, NK H (.ref x.2.1) x.1 ∧ x.1.depth ≤ 8
  nd : (xs.map (·.1)).Nodup
  sz : xs.length ≤ sizeLine
theorem HasKs.nk {F H : Hp} (s : Sub F H) : ∀ {xs : List Ent} {ks : List P}, HasKs F xs ks → ∀ x ∈ xs, NK H (.ref x.2.1) x.1 ∧ x.1.depth ≤ 8
  | _, _, .nil, x, hx => by cases hx
  | _, _, .cons h1 h2 h3, x, hx => by
    rcases List.mem_cons.mp hx with rfl | hx
    · exact ⟨HasP.nk s _ _ 8 (key_hk h2) h1, hk_depth _ _ (key_hk h2)⟩
    · exact HasKs.nk s h3 x hx
theorem entN_map {w : World} (hw : WW.w = w) (P : Program) (xs : List Ent) : xs.map entN = xs.map (entryOfKey (nestedKind P w)) := by
  subst hw; rfl
section
variable {X : Cx} {pins : List (Addr × Obj)} {σ : St} {H : Hp} {s : Shared} {a : Addr} {xs : List Ent} {E : Value → Shared → Prop}
theorem GD.dict (hw : WW.w = X.w) (I : Inv X pins σ H s) (g : GD H a xs) : (a == sysModules) = false ∧ s.heap.DictOfH (nestedKind X.prog X.w) a xs := by
  obtain ⟨⟨h1, o, es, ep, ho, hx, hd, he⟩, _, _⟩ := g.o.ok I.hok
  refine ⟨h1, o, es, ep, ho, hx, hd, by rw [he, entN_map hw], fun x hx => ?_, g.nd⟩
  exact ⟨NK.is I _ _ _ (g.ks x hx).1 rfl, (g.ks x hx).2⟩
theorem gO_new {P : Program} {w : World} {H' : Hp} {h' : Heap} (hw : WW.w = w) (hd : (a == sysModules) = false) (d : h'.DictOfH (nestedKind P w) a xs) : ObjOk P w H' h' a (gO a xs) := by
  obtain ⟨o, es, ep, ho, hx, hdt, he, _⟩ := d
  refine ⟨⟨hd, o, es, ep, ho, hx, hdt, by rw [he, entN_map hw]⟩, ⟨o, ho⟩, fun h1 h2 ⟨q1, o, es, ep, ho, r⟩ k => ⟨q1, o, es, ep, k o ho, r⟩⟩
/-- a key -/
structure GK (H : Hp) (v : V) (b : Addr) (k : NestedKey) : Prop where
  e : v = .ref b
  nk : NK H (.ref b) k
  d : k.depth ≤ 8
theorem GK.is (I : Inv X pins σ H s) {v : V} {b : Addr} {k : NestedKey} (g : GK H v b k) : (nestedKind X.prog X.w).is s.heap k b := ⟨NK.is I k _ _ g.nk rfl, g.d⟩
theorem gk_of {F : Hp} (sub : Sub F H) {v : V} {x : P} (h : HasP F v x) (hk : x.key = true) : ∃ b, GK H v b x.nk ∧ HasP F (.ref b) x := by
  cases x with
  | tup ys =>
    have hk' := key_hk hk
    have n := HasP.nk sub _ _ 8 hk' h
    cases h with
    | @tup b _ _ e z r => exact ⟨b, ⟨rfl, n, hk_depth _ _ hk'⟩, .tup e z r⟩
  | _ => simp [P.key] at hk
theorem room8 (hu : X.A.units + 64 < cLine) : (nestedKind X.prog X.w).room X.A.in1 := by
  show X.A.in1.units + 8 < cLine
  have : X.A.in1.units = X.A.units + 1 := rfl
  omega
theorem g_in {v : V} {b : Addr} {k : NestedKey} {Q : Value → Shared → Prop} (hw : WW.w = X.w) (hu : X.A.units + 64 < cLine) (I : Inv X pins σ H s) (g : GD H a xs) (gk : GK H v b k) (h : ∀ s', Inv X pins σ H s' → Q (.bool (atKey xs k).isSome) s') :
    wpAny (model X.prog X.w) X.A (compareOp .In (.ref b) (.ref a)) Q E s := by
  obtain ⟨hd, dd⟩ := g.dict hw I
  exact wpAny_in_heap (room8 hu) (gk.is I) hd dd (h _ (I.tok _))
theorem g_notIn {v : V} {b : Addr} {k : NestedKey} {Q : Value → Shared → Prop} (hw : WW.w = X.w) (hu : X.A.units + 64 < cLine) (I : Inv X pins σ H s) (g : GD H a xs) (gk : GK H v b k) (h : ∀ s', Inv X pins σ H s' → Q (.bool (!(atKey xs k).isSome)) s') :
    wpAny (model X.prog X.w) X.A (compareOp .NotIn (.ref b) (.ref a)) Q E s := by
  obtain ⟨hd, dd⟩ := g.dict hw I
  refine notIn_keyed (room8 hu) (gk.is I) hd ⟨xs, dd, rfl⟩ ?_
  rw [valueAt_pairsH, Option.isSome_map]
  exact h _ (I.tok _)
theorem g_get {v : V} {b c : Addr} {k : NestedKey} {val : Value} {Q : Value → Shared → Prop} (hw : WW.w = X.w) (hu : X.A.units + 64 < cLine) (I : Inv X pins σ H s) (g : GD H a xs) (gk : GK H v b k) (hv : atKey xs k = some (c, val)) (h : ∀ s', Inv X pins σ H s' → Q val s') :
    wpAny (model X.prog X.w) X.A (getItem (.ref a) (.ref b)) Q E s := by
  obtain ⟨hd, dd⟩ := g.dict hw I
  exact wpAny_getItem_heap (room8 hu) (gk.is I) dd hv (h _ (I.tok _))
theorem g_getOr {v : V} {b : Addr} {k : NestedKey} {x : Value} {Q : Value → Shared → Prop} (hw : WW.w = X.w) (hu : X.A.units + 64 < cLine) (I : Inv X pins σ H s) (g : GD H a xs) (gk : GK H v b k) (h : ∀ s', Inv X pins σ H s' → Q (((atKey xs k).map (·.2)).getD x) s') :
    wpAny (model X.prog X.w) X.A (call (.builtin "dict.get") [.ref a, .ref b, x]) Q E s := by
  obtain ⟨hd, dd⟩ := g.dict hw I
  refine getOr_keyed (room8 hu) (gk.is I) hd ⟨xs, dd, rfl⟩ ?_
  rw [valueAt_pairsH]
  exact h _ (I.tok _)
theorem g_len {Q : Value → Shared → Prop} (hw : WW.w = X.w) (I : Inv X pins σ H s) (g : GD H a xs) (h : ∀ t s', Inv X pins σ H s' → Q (.int xs.length t) s') : wpAny (model X.prog X.w) X.A (call (.builtin "len") [.ref a]) Q E s := by
  obtain ⟨hd, dd⟩ := g.dict hw I
  have hm : s.heap.DictKeyed (nestedKind X.prog X.w) a (pairsH xs) := ⟨xs, dd, rfl⟩
  have hz := g.sz
  have hl : (pairsH xs).length = xs.length := pairsH_length xs
  refine PyProof.Rows.call_len_slot (n := xs.length) hm.typeIs F.slot_dict_len (fun Q' hq => len_keyed hd hm (by rw [hl]; exact hq)) (by omega) (by rw [sizeLine_eq] at hz; omega) (h _ _ (I.tok _))
theorem g_put {v : V} {b : Addr} {k : NestedKey} {val : Value} {Q : Unit → Shared → Prop} (hw : WW.w = X.w) (hu : X.A.units + 64 < cLine) (I : Inv X pins σ H s) (g : GD H a xs) (hm : H a = some (gO a xs)) (gk : GK H v b k)
    (h : ∀ s', Inv X pins σ (upd H a (gO a (storedH xs k b val))) s' → Q () s') : wpAny (model X.prog X.w) X.A (setItem (.ref a) (.ref b) val) Q E s := by
  obtain ⟨hd, dd⟩ := g.dict hw I
  refine wpAny_setItem_heap (hsz := g.sz) (room8 hu) (gk.is I) dd fun h' dd' hs => h _ ?_
  have he : ∃ q, h'.get? a = some q := let ⟨q, _, _, hq, _⟩ := dd'; ⟨q, hq⟩
  exact L2.d_write I (by rw [hm]; exact True.intro) hs he (gO_new hw hd dd')
theorem g_setdef {v : V} {b : Addr} {k : NestedKey} {val : Value} {Q : Value → Shared → Prop} (hw : WW.w = X.w) (hu : X.A.units + 64 < cLine) (I : Inv X pins σ H s) (g : GD H a xs) (hm : H a = some (gO a xs)) (gk : GK H v b k)
    (h1 : ∀ c x, atKey xs k = some (c, x) → ∀ s', Inv X pins σ H s' → Q x s')
    (h2 : atKey xs k = none → ∀ s', Inv X pins σ (upd H a (gO a (storedH xs k b val))) s' → Q val s') : wpAny (model X.prog X.w) X.A (call (.builtin "dict.setdefault") [.ref a, .ref b, val]) Q E s := by
  obtain ⟨hd, dd⟩ := g.dict hw I
  refine call_setdefault_heap (hsz := g.sz) (room8 hu) (gk.is I) hd dd (fun p hp => h1 p.1 p.2 hp _ (I.tok _)) fun hn h' dd' hs => h2 hn _ ?_
  have he : ∃ q, h'.get? a = some q := let ⟨q, _, _, hq, _⟩ := dd'; ⟨q, hq⟩
  exact L2.d_write I (by rw [hm]; exact True.intro) hs he (gO_new hw hd dd')
end
/-! ### what the store says -/
theorem atKey_cons (x : Ent) (xs : List Ent) (k : NestedKey) : atKey (x :: xs) k = if x.1 = k then some x.2 else atKey xs k := by
  unfold atKey
  by_cases h : x.1 = k <;> simp [h]
theorem HasG.find {u : UU} {F H : Hp} {a : Addr} {k : P} (hk : k.key = true) : ∀ {xs : List Ent} {kvs : List (P × IV)}, HasG u F H a xs kvs →
    (findK k kvs = none ∧ atKey xs k.nk = none) ∨ ∃ iv b v y, findK k kvs = some iv ∧ atKey xs k.nk = some (b, v) ∧ RelV y v ∧ IVOk u F H a k.nk y iv
  | _, _, .nil => .inl ⟨rfl, rfl⟩
  | _, _, .cons (b := b) (v := v) (y := y) (x := x) (iv := iv) h1 h2 h3 h4 h5 => by
    have e := key_eqv h2 hk
    rw [atKey_cons]
    by_cases h : x.nk = k.nk
    · have e' : x.eqv k = true := by rw [e]; exact decide_eq_true h
      refine .inr ⟨iv, b, v, y, by simp [findK, e'], by simp [h], h3, by rw [← h]; exact h4⟩
    · have e' : x.eqv k = false := by rw [e]; exact decide_eq_false h
      rcases HasG.find hk h5 with ⟨q1, q2⟩ | ⟨iv', b', v', y', q1, q2, q3, q4⟩
      · exact .inl ⟨by simp [findK, e', q1], by simp [h, q2]⟩
      · exact .inr ⟨iv', b', v', y', by simp [findK, e', q1], by simp [h, q2], q3, q4⟩
theorem dctF_find {K : PySem.W.Frag} {F : Hp} {ρ : Rho} {k : P} (hk : k.key = true) : ∀ {xs : List Ent} {ks : List P} {ws : List V} {ds : List D}, HasKs F xs ks → Vals ws (xs.map (·.2.2)) → HasDs K F ρ ws ds →
    (dctF k ks ds = none ∧ atKey xs k.nk = none) ∨ ∃ d b v y, dctF k ks ds = some d ∧ atKey xs k.nk = some (b, v) ∧ RelV y v ∧ HasD K F ρ y d
  | _, _, _, _, .nil, w, h => .inl ⟨by cases w; cases h; rfl, rfl⟩
  | _, _, _, _, .cons (a := b) (v := v) (x := x) h1 h2 h3, w, h => by
    cases w with | cons w1 w2 =>
    cases h with | cons q1 q2 =>
    have e := key_eqv h2 hk
    rw [atKey_cons]
    by_cases h : x.nk = k.nk
    · have e' : x.eqv k = true := by rw [e]; exact decide_eq_true h
      exact .inr ⟨_, b, v, _, by simp [dctF, e'], by simp [h], w1, q1⟩
    · have e' : x.eqv k = false := by rw [e]; exact decide_eq_false h
      rcases dctF_find hk h3 w2 q2 with ⟨g1, g2⟩ | ⟨d', b', v', y', g1, g2, g3, g4⟩
      · exact .inl ⟨by simp [dctF, e', g1], by simp [h, g2]⟩
      · exact .inr ⟨d', b', v', y', by simp [dctF, e', g1], by simp [h, g2], g3, g4⟩
theorem HasG.gd {u : UU} {F H : Hp} {a : Addr} {xs : List Ent} {kvs : List (P × IV)} (s : Sub F H) (h : HasG u F H a xs kvs) (o : L2.Rd H a (gO a xs)) (nd : (xs.map (·.1)).Nodup) (z : kvs.length ≤ sizeLine) : GD H a xs :=
  ⟨o, HasKs.nk s h.keys, nd, by rw [h.length]; exact z⟩
theorem dg_sees {K : PySem.W.Frag} {F H : Hp} {ρ : Rho} {s : Sto} {v : V} {d : D} {kvs : List (P × IV)} (st : Stt F H ρ s) (hd : HasD K F ρ v d) (e : s.dg d = some kvs) :
    ∃ n q xs, d = .tmp n ∧ v = .ref q ∧ ρ.t[n]? = some q ∧ s.t[n]? = some (.dg kvs) ∧ H q = some (gO q xs) ∧ GD H q xs ∧ HasG ρ.u F H q xs kvs ∧ kvs.length ≤ sizeLine ∧ xs = ρ.u.e q := by
  cases hd with
  | @tmp b n h =>
    simp only [Sto.dg] at e
    split at e
    · rename_i xs hx
      cases e
      obtain ⟨z, h1, h2, h3⟩ := st.ot n _ b hx h
      exact ⟨n, b, _, rfl, rfl, h, hx, h1, h3.gd st.sub (.inl h1) h2 z, h3, z, rfl⟩
    · cases e
  | p _ => cases e
  | scr _ => cases e
  | ref _ => cases e
  | tup _ _ _ => cases e
  | dct _ _ _ _ _ _ => cases e
theorem fd_sees {K : PySem.W.Frag} {F H : Hp} {ρ : Rho} {s : Sto} {v : V} {ks : List P} {ds : List D} (st : Stt F H ρ s) (hd : HasD K F ρ v (.dct ks ds)) :
    ∃ q od xs ws, v = .ref q ∧ F q = some (.frz od (gO q xs)) ∧ GD H q xs ∧ HasKs F xs ks ∧ Vals ws (xs.map (·.2.2)) ∧ HasDs K F ρ ws ds ∧ ks.length ≤ sizeLine := by
  cases hd with
  | @dct a od xs ws _ _ h n z r w q => exact ⟨a, od, xs, ws, rfl, h, ⟨.inr ⟨od, st.sub _ _ h⟩, HasKs.nk st.sub r, n, by rw [r.length]; exact z⟩, r, w, q, z⟩
/-- a key is asked for -/
theorem dHas_sees {K : PySem.W.Frag} {F H : Hp} {ρ : Rho} {s : Sto} {v : V} {e : D} {k : P} {b : Bool} (st : Stt F H ρ s) (he : HasD K F ρ v e) (h : dHas s e k = some b) :
    ∃ q xs, v = .ref q ∧ GD H q xs ∧ k.key = true ∧ (atKey xs k.nk).isSome = b := by
  unfold dHas at h
  split at h
  · rename_i ks vs
    split at h
    · rename_i hk
      obtain ⟨q, od, xs, ws, rfl, hF, g, r, w, hs, _⟩ := fd_sees st he
      cases h
      refine ⟨q, xs, rfl, g, hk, ?_⟩
      rcases dctF_find hk r w hs with ⟨g1, g2⟩ | ⟨d', b', v', y', g1, g2, _⟩
      · rw [g1, g2]; rfl
      · rw [g1, g2]; rfl
    · cases h
  · split at h
    · rename_i kvs hg
      split at h
      · rename_i hk
        obtain ⟨n, q, xs, rfl, rfl, _, _, hH, g, hh, _⟩ := dg_sees st he hg
        cases h
        refine ⟨q, xs, rfl, g, hk, ?_⟩
        rcases hh.find hk with ⟨g1, g2⟩ | ⟨iv, b', v', y', g1, g2, _⟩
        · rw [g1, g2]; rfl
        · rw [g1, g2]; rfl
      · cases h
    · cases h
/-! ### list(d), d[k], d.get(k, x), len(d) -/
section
variable {X : Cx} {a b : Expr} {ta tb tc : TE} {pos : Pos}
theorem cr_listG (hw : WW.w = X.w) (hc : X.calm = true) : CallR X (.type "list") (fun vs H Q => ∃ q xs, vs = [.ref q] ∧ GD H q xs ∧ ∀ p, H p = none → Q (.ref p) (upd H p (.lst (xs.map fun x => V.ref x.2.1)))) := by
  intro pins s σ H vs us Q I r h
  obtain ⟨d, xs, rfl, g, q⟩ := h
  obtain ⟨u, rfl, rx⟩ := r.one
  cases rx
  obtain ⟨hs, o, es, ep, ho, hx, hdt, he, _, _⟩ := g.dict hw I
  have l1 : es.size = xs.length := by rw [← Array.length_toList, he, List.length_map]
  have hz := g.sz
  refine PySem.W.kdl_call (L2.kdl_raw hs hx hdt) (I.ok.hd hc) ho (by omega) fun h' tk acc' c' kp e it => ?_
  have ea : acc'.toList = (xs.map fun x => x.2.1).map Value.ref := by
    have hl : acc'.toList.length = xs.length := by rw [Array.length_toList, it.1]; exact l1
    rw [List.map_map]
    refine List.ext_getElem (by rw [List.length_map]; exact hl) fun j h1 h2 => ?_
    have hj : j < xs.length := by omega
    obtain ⟨en, hen, hv⟩ := it.2 j acc'.toList[j] (by rw [← Array.getElem?_toList, List.getElem?_eq_getElem h1])
    have qe := entry_at he j
    rw [hen, List.getElem?_eq_getElem hj] at qe
    have qe := Option.some.inj qe
    rw [hv, qe, List.getElem_map]
    rfl
  have rv : Vals ((xs.map fun x => x.2.1).map V.ref) acc'.toList := by rw [ea]; exact L2.vals_refs _
  have em : (xs.map fun x => V.ref x.2.1) = (xs.map fun x => x.2.1).map V.ref := by rw [List.map_map]; rfl
  rw [em] at q
  refine ⟨.ref s.heap.objs.size, _, I.laid (t' := tk) (o := .lst ((xs.map fun x => x.2.1).map V.ref)) kp (Nat.le_refl _) ?_, rfl, q _ (I.hok.fresh (Nat.le_refl _))⟩
  exact ⟨by rw [List.length_map, List.length_map]; exact hz, acc'.toList, c', rv, by rw [Array.toArray_toList]; exact e⟩
/-- d[k], whatever the dict -/
def rDix (x y : V) (H : Hp) (Q : VK) : Prop := (∃ a v, x = .ref a ∧ L2.DGet H a y (some v) ∧ Q v H) ∨ ∃ a xs b k c val v, x = .ref a ∧ GD H a xs ∧ GK H y b k ∧ atKey xs k = some (c, val) ∧ RelV v val ∧ Q v H
theorem pe_dix (hw : WW.w = X.w) (hu : X.A.units + 64 < cLine) (ha : PE X a ta) (hb : PE X b tb) (hs : L2.NoSl b) : PE X (.Subscript a b pos) (fun σ H Q => ta σ H fun x H1 => tb σ H1 fun y H2 => rDix x y H2 Q) := by
  refine ⟨fun pins s σ H Q I h => ?_⟩
  refine L2.subD_of PySem.F.slot_dict_getitem.lookup hs (thn (ha.run pins s σ H _ I h) fun u s1 ⟨x, H1, I1, rx, q1⟩ => thn (hb.run pins s1 σ H1 _ I1 q1) fun iv s2 ⟨y, H2, I2, ry, q2⟩ => ?_)
  rcases q2 with ⟨q, v, rfl, g, q2⟩ | ⟨q, xs, kb, k, c, val, v, rfl, g, gk, hv, rv, q2⟩
  · obtain rfl : u = Value.ref q := rx
    exact ⟨L2.dict_typeIs I2 g, L2.d_getItem (by omega) I2 g ry fun w' s3 I3 rw' => ⟨v, H2, I3, rw', q2⟩⟩
  · obtain rfl : u = Value.ref q := rx
    cases gk.e
    obtain rfl : iv = Value.ref kb := ry
    exact ⟨(g.dict hw I2).2.typeIs, g_get hw hu I2 g gk hv fun s3 I3 => ⟨v, H2, I3, rv, q2⟩⟩
/-- len(d) -/
theorem cr_lenG (hw : WW.w = X.w) : CallR X (.builtin "len") (fun vs H Q => ∃ q xs, vs = [V.ref q] ∧ GD H q xs ∧ Q (.int xs.length) H) := by
  intro pins s σ H vs us Q I r h
  obtain ⟨q, xs, rfl, g, hq⟩ := h
  obtain ⟨u, rfl, rx⟩ := r.one
  cases rx
  exact g_len hw I g fun t s' I' => ⟨.int _, H, I', ⟨_, rfl⟩, hq⟩
theorem CallR.or {f : Value} {r r' : List V → Hp → VK → Prop} (h : CallR X f r) (h' : CallR X f r') : CallR X f (fun vs H Q => r vs H Q ∨ r' vs H Q) := by
  intro pins s σ H vs us Q I r q
  rcases q with q | q
  · exact h pins s σ H vs us Q I r q
  · exact h' pins s σ H vs us Q I r q
end
end G7

namespace G7
open PySem PySem.Spec
open L2 (V Hp HO St WX TE TS R2 OpR CallR MtR SlR IxR Inv RelV Vals upd upd_same upd_ne ne_of_none SqL SqT Cx Room EP)
variable [WW]

/-- what is read as data -/
inductive Sees (F H : Hp) : V → P → Prop
  | p {v : V} {a : P} : HasP F v a → Sees F H v a
  | own {q : Addr} {vs : List V} {xs : List P} : H q = some (.lst vs) → xs.length ≤ sizeLine → HasPs F vs xs → Sees F H (.ref q) (.lst xs)
theorem get_sees {K : PySem.W.Frag} {F H : Hp} {ρ : Rho} {s : Sto} {v : V} {d : D} {a : P} (st : Stt F H ρ s) (hd : HasD K F ρ v d) (e : s.get d = some a) : Sees F H v a := by
  cases hd with
  | p h => cases e; exact .p h
  | scr _ => cases e
  | @ref b n h =>
    simp only [Sto.get] at e
    split at e
    · rename_i xs hx
      cases e
      obtain ⟨z, vs, h1, h2⟩ := st.om n _ b hx h
      exact .own h1 z h2
    · cases e
  | @tmp b n h =>
    simp only [Sto.get] at e
    split at e
    · rename_i xs hx
      cases e
      obtain ⟨z, vs, h1, h2⟩ := st.ot n _ b hx h
      exact .own h1 z h2
    · cases e
  | tup _ _ _ => cases e
  | dct _ _ _ _ _ _ => cases e
section
variable {F H : Hp} {v : V}
theorem Sees.int {i : Int} (h : Sees F H v (.int i)) : v = .int i := by cases h with | p h => cases h; rfl
theorem Sees.bl {i : Bool} (h : Sees F H v (.bl i)) : v = .bl i := by cases h with | p h => cases h; rfl
theorem Sees.str {i : Str} (h : Sees F H v (.str i)) : v = .str i := by cases h with | p h => cases h; rfl
theorem Sees.tup (sub : Sub F H) {xs : List P} (h : Sees F H v (.tup xs)) : ∃ q vs, v = .ref q ∧ F q = some (.tup vs) ∧ H q = some (.tup vs) ∧ HasPs F vs xs ∧ xs.length ≤ sizeLine := by
  cases h with | p h => cases h with | tup a z b => exact ⟨_, _, rfl, a, sub _ _ a, b, z⟩
theorem Sees.lst (sub : Sub F H) {xs : List P} (h : Sees F H v (.lst xs)) : ∃ q vs, v = .ref q ∧ H q = some (.lst vs) ∧ HasPs F vs xs ∧ xs.length ≤ sizeLine := by
  cases h with
  | p h => cases h with | lst a z b => exact ⟨_, _, rfl, sub _ _ a, b, z⟩
  | own a z b => exact ⟨_, _, rfl, a, b, z⟩
end
mutual
theorem HasP.dp {K : PySem.W.Frag} {F H : Hp} (s : Sub F H) : ∀ (x : P) (v : V), HasP F v x → L2.Dp K H v x.py
  | .non, _, h => by cases h; exact .non
  | .bl b, _, h => by cases h; exact .bl b
  | .int i, _, h => by cases h; exact .int i
  | .str x, _, h => by cases h; exact .str x
  | .tup xs, _, h => by
    cases h with
    | tup e _ r => exact .tup (SqT.of (s _ _ e)) (HasPs.dp s xs _ r)
  | .lst xs, _, h => by
    cases h with
    | lst e _ r => exact .lst (SqL.of (s _ _ e)) (HasPs.dp s xs _ r)
theorem HasPs.dp {K : PySem.W.Frag} {F H : Hp} (s : Sub F H) : ∀ (xs : List P) (vs : List V), HasPs F vs xs → L2.DpAll K H vs (P.pys xs)
  | [], _, h => by cases h; exact .nil
  | x :: xs, _, h => by
    cases h with
    | cons a b => exact .cons (HasP.dp s x _ a) (HasPs.dp s xs _ b)
end
theorem Sees.dp {K : PySem.W.Frag} {F H : Hp} (s : Sub F H) {v : V} {x : P} (h : Sees F H v x) : L2.Dp K H v x.py := by
  cases h with
  | p h => exact HasP.dp s x v h
  | own a _ b => exact .lst (SqL.of a) (HasPs.dp s _ _ b)
theorem pys_ints : ∀ xs : List Int, P.pys (xs.map .int) = xs.map PyData.int
  | [] => rfl
  | x :: xs => by simp only [List.map_cons, P.pys, P.py, pys_ints xs]
theorem dpAll_ints {K : PySem.W.Frag} {H : Hp} : ∀ xs : List Int, L2.DpAll K H (xs.map V.int) (xs.map PyData.int)
  | [] => .nil
  | x :: xs => .cons (.int x) (dpAll_ints xs)
theorem get_dp {K : PySem.W.Frag} {F H : Hp} {ρ : Rho} {s : Sto} {v : V} {d : D} {a : P} (st : Stt F H ρ s) (hd : HasD K F ρ v d) (e : s.get' d = some a) : L2.Dp K H v a.py := by
  cases hd with
  | @scr b xs h =>
    cases e
    rw [P.py, pys_ints]
    exact .lst (SqL.sub st.sub h) (dpAll_ints xs)
  | p h => exact (get_sees st (HasD.p (K := K) (ρ := ρ) h) e).dp st.sub
  | ref h => exact (get_sees st (HasD.ref (K := K) (F := F) h) e).dp st.sub
  | tmp h => exact (get_sees st (HasD.tmp (K := K) (F := F) h) e).dp st.sub
  | tup _ _ _ => cases e
  | dct _ _ _ _ _ _ => cases e
mutual
theorem py_plain : ∀ x : P, x.py.plain = true
  | .non => rfl
  | .bl _ => rfl
  | .int _ => rfl
  | .str _ => rfl
  | .tup xs => by simp only [P.py, PyData.plain]; exact pys_plain xs
  | .lst xs => by simp only [P.py, PyData.plain]; exact pys_plain xs
theorem pys_plain : ∀ xs : List P, PyData.plainAll (P.pys xs) = true
  | [] => rfl
  | x :: xs => by simp only [P.pys, PyData.plainAll, py_plain x, pys_plain xs, Bool.and_self]
end
mutual
theorem py_eqv : ∀ x y : P, PyData.eqv x.py y.py = x.eqv y
  | .tup xs, .tup ys => by simp only [P.py, PyData.eqv, P.eqv]; exact pys_eqv xs ys
  | .lst xs, .lst ys => by simp only [P.py, PyData.eqv, P.eqv]; exact pys_eqv xs ys
  | .non, y => by cases y <;> rfl
  | .bl _, y => by cases y <;> rfl
  | .int _, y => by cases y <;> rfl
  | .str _, y => by cases y <;> rfl
  | .tup _, .non => rfl
  | .tup _, .bl _ => rfl
  | .tup _, .int _ => rfl
  | .tup _, .str _ => rfl
  | .tup _, .lst _ => rfl
  | .lst _, .non => rfl
  | .lst _, .bl _ => rfl
  | .lst _, .int _ => rfl
  | .lst _, .str _ => rfl
  | .lst _, .tup _ => rfl
theorem pys_eqv : ∀ xs ys : List P, PyData.eqvAll (P.pys xs) (P.pys ys) = P.eqvs xs ys
  | [], [] => rfl
  | [], _ :: _ => rfl
  | _ :: _, [] => rfl
  | x :: xs, y :: ys => by simp only [P.pys, PyData.eqvAll, P.eqvs, py_eqv x y, pys_eqv xs ys]
end
mutual
theorem lim_depth : ∀ (x : P) (n : Nat), x.lim n = true → x.py.depth ≤ n
  | .non, _, _ => Nat.zero_le _
  | .bl _, _, _ => Nat.zero_le _
  | .int _, _, _ => Nat.zero_le _
  | .str _, _, _ => Nat.zero_le _
  | .tup xs, 0, h => by simp [P.lim] at h
  | .lst xs, 0, h => by simp [P.lim] at h
  | .tup xs, n + 1, h => by simp only [P.py, PyData.depth]; exact Nat.succ_le_succ (lims_depth xs n (by simpa [P.lim] using h))
  | .lst xs, n + 1, h => by simp only [P.py, PyData.depth]; exact Nat.succ_le_succ (lims_depth xs n (by simpa [P.lim] using h))
theorem lims_depth : ∀ (xs : List P) (n : Nat), P.lims xs n = true → PyData.depthAll (P.pys xs) ≤ n
  | [], _, _ => Nat.zero_le _
  | x :: xs, n, h => by
    simp only [P.lims, Bool.and_eq_true] at h
    simp only [P.pys, PyData.depthAll]
    exact Nat.max_le.mpr ⟨lim_depth x n h.1, lims_depth xs n h.2⟩
end
theorem pys_any (a : P) : ∀ ys : List P, (P.pys ys).any (fun y => PyData.eqv y a.py) = ys.any fun y => y.eqv a
  | [] => rfl
  | y :: ys => by simp only [P.pys, List.any_cons, py_eqv, pys_any a ys]

theorem rep_fits {xs : List P} {k : Int} (h : xs.length ≤ 1000) (hk : k ≤ 1000) : (List.replicate k.toNat xs).flatten.length ≤ sizeLine := by
  rw [rep_len, sizeLine_eq]
  have : xs.length * k.toNat ≤ 1000 * 1000 := Nat.mul_le_mul h (by omega)
  omega
/-! a tuple once -/
theorem tuple_mul1 (l : Addr) (items : Array Value) (n : Nat) (dd : Option Addr) (sl : Array (Option Value)) (u : Tok) :
    Meets (Builtin.«tuple.__mul__» ⟨[.ref l, .int 1 u], []⟩) (fun _ R s => s.heap.get? l = some { cls := .type "tuple", dict := dd, data := .seq items n, slots := sl } ∧
      R (.ok (.ret (Value.ref l))) s) :=
  .of_wp fun prog w A R s h => by
    obtain ⟨hp, g, d, tk, os⟩ := s
    obtain ⟨hl, h⟩ := h
    have f1 := AutoSeq1.idx_int
    have c1 : (items.isEmpty || (1 : Int) == 1) = true := by simp
    wp_walk using wpAny_loadPart' hl
    repeat (first
      | (refine wpAny_ite_false (by decide) ?_; wp_walk using wpAny_loadPart' hl)
      | (refine wpAny_ite_true (decide_eq_true c1) ?_; wp_walk using wpAny_loadPart' hl))
    exact ⟨_, rfl, h⟩
def rRepT1 (K : PySem.W.Frag) : R2 := fun x y H Q => ∃ l xs, x = .ref l ∧ y = .int 1 ∧ SqT K H l xs ∧ Q (.ref l) H
open PyProof.Rows in
theorem op_repT1 {X : Cx} : OpR X (binaryOp .Mult) (rRepT1 X.K) := by
  intro pins s σ H x y v u Q I rx ry h
  obtain ⟨l, xs, rfl, rfl, hT, q⟩ := h
  cases rx
  obtain ⟨t, rfl⟩ := ry
  obtain ⟨its, r, ⟨⟨cls, dd, data, sl⟩, ho, hc, n, hd⟩, hs⟩ := I.tuple hT
  simp only at hc hd
  subst hc hd
  exact wpAny_binaryOp_repeat_ref (T := "tuple") (U := "int") (by decide) ⟨_, ho, rfl⟩ (fun s' => typeIs_int s' 1 t) L2.noFill_tuple_mul F.fills_int_mul F.slot_int_rmul L2.repeat_tuple F.slot_int_index.lookup
    (call_meets F.slot_int_rmul (typeIs_int s 1 t) F.entry_int_rmul (F.args_int_rmul_2 _ _) (L2.int_rmul_tuple 1 t l its.toArray n dd sl)
      ⟨ho, rfl, ⟨_, ho, rfl⟩, call_meets F.slot_tuple_mul ⟨_, ho, rfl⟩ F.entry_tuple_mul (F.args_tuple_mul_2 _ _) (tuple_mul1 l its.toArray n dd sl t) ⟨ho, ⟨.ref l, H, I, rfl, q⟩⟩⟩)
section
variable {X : Cx}
def rBin (K : PySem.W.Frag) (op : Operator) : R2 := fun x y H Q => ∃ F ρ s a b c, Stt F H ρ s ∧ Sees F H x a ∧ Sees F H y b ∧ binP op a b = some c ∧ Fut K Q F H ρ (.p c) s
theorem mul_fits {x : Str} {k : Int} (h : 0 ≤ k ∧ k ≤ 1000 ∧ x.length ≤ 1000) : MulOk x k := by
  obtain ⟨h1, h2, h3⟩ := h
  refine ⟨?_, fun hn _ => ?_, fun hn _ => ?_⟩
  · rw [decide_eq_false (by omega), decide_eq_false (by omega)]; rfl
  · have h4 : (1000 : Int) ≤ (2 ^ 63 - 1) / k := by
      rw [Int.le_ediv_iff_mul_le (by omega)]
      have : 1000 * k ≤ 1000 * 1000 := Int.mul_le_mul_of_nonneg_left h2 (by omega)
      omega
    omega
  · have : x.length * k.toNat ≤ 1000 * 1000 := Nat.mul_le_mul h3 (by omega)
    unfold Builtin.Str.tooLong
    rw [decide_eq_false]
    have := sizeLine_eq
    omega
theorem op_bin (op : Operator) : OpR X (binaryOp op) (rBin X.K op) := by
  intro pins s σ H x y v u Q I rx ry h
  obtain ⟨F, ρ, t, a, b, c, st, ha, hb, e, q⟩ := h
  unfold binP at e
  split at e
  · cases e; cases ha.int; cases hb.int
    exact L2.op_add pins s σ H _ _ v u Q I rx ry ⟨_, _, rfl, rfl, q.now st (.p (.int _))⟩
  · split at e
    · rename_i hz
      cases e; cases ha.str; cases hb.str
      exact L2.op_add_str pins s σ H _ _ v u Q I rx ry ⟨_, _, rfl, rfl, hz, q.now st (.p (.str _))⟩
    · cases e
  · split at e
    · rename_i xs ys hz
      cases e
      obtain ⟨p1, vs, e1, f1, h1, r1, z1⟩ := ha.tup st.sub
      obtain ⟨p2, ws, e2, f2, h2, r2, z2⟩ := hb.tup st.sub
      subst e1; subst e2
      refine L2.op_catA pins s σ H _ _ v u Q I rx ry ⟨_, _, vs, ws, rfl, rfl, SqT.of h1, SqT.of h2, by rw [r1.length, r2.length]; exact hz, fun z => ?_, fun _ z => ?_, fun _ _ p hp => ?_⟩
      · subst z; cases r1; exact q.now st (.p (.tup f2 z2 r2))
      · subst z; cases r2; exact q.now st (.p (.tup f1 (by rw [List.append_nil]; exact z1) (by rw [List.append_nil]; exact r1)))
      · exact q.new st hp (.tup upd_same (by rw [List.length_append]; exact hz) ((r1.append r2).mono (sub_upd (st.sub.none hp))))
    · cases e
  · split at e
    · rename_i xs ys hz
      cases e
      obtain ⟨p1, vs, e1, h1, r1, z1⟩ := ha.lst st.sub
      obtain ⟨p2, ws, e2, h2, r2, z2⟩ := hb.lst st.sub
      subst e1; subst e2
      refine L2.op_cat pins s σ H _ _ v u Q I rx ry ⟨_, _, vs, ws, rfl, rfl, h1, h2, by rw [r1.length, r2.length]; exact hz, fun p hp => ?_⟩
      exact q.new st hp (.lst upd_same (by rw [List.length_append]; exact hz) ((r1.append r2).mono (sub_upd (st.sub.none hp))))
    · cases e
  · cases e; cases ha.int; cases hb.int
    exact L2.op_sub pins s σ H _ _ v u Q I rx ry ⟨_, _, rfl, rfl, q.now st (.p (.int _))⟩
  · split at e
    · rename_i hz
      cases e; cases ha.int; cases hb.int
      exact L2.op_mul pins s σ H _ _ v u Q I rx ry ⟨_, _, rfl, rfl, hz, q.now st (.p (.int _))⟩
    · cases e
  · split at e
    · rename_i x k hz
      cases e; cases ha.str; cases hb.int
      obtain ⟨t1, rfl⟩ := rx
      obtain ⟨t2, rfl⟩ := ry
      exact SB.mul (mul_fits hz) fun t' k' => ⟨.str _, H, I.tok k', ⟨t', rfl⟩, q.now st (.p (.str _))⟩
    · cases e
  · split at e
    · rename_i xs k hz
      cases e; cases hb.int
      obtain ⟨p1, vs, e1, f1, h1, r1, z1⟩ := ha.tup st.sub
      subst e1
      by_cases k1 : k = 1
      · subst k1
        have e1 : (List.replicate (1 : Int).toNat xs).flatten = xs := by simp
        rw [e1] at q
        exact op_repT1 pins s σ H _ _ v u Q I rx ry ⟨_, vs, rfl, rfl, SqT.of h1, q.now st (.p (.tup f1 z1 r1))⟩
      refine L2.op_repT pins s σ H _ _ v u Q I rx ry ⟨_, _, vs, rfl, rfl, SqT.of h1, fun z => hz.1 (by subst z; cases r1; rfl), (by have := hz.2.1; omega), hz.2.2.1, by rw [r1.length]; exact hz.2.2.2, fun p hp => ?_⟩
      exact q.new st hp (.tup upd_same (rep_fits hz.2.2.2 hz.2.2.1) ((r1.rep _).mono (sub_upd (st.sub.none hp))))
    · cases e
  · split at e
    · rename_i xs k hz
      cases e; cases hb.int
      obtain ⟨p1, vs, e1, h1, r1, z1⟩ := ha.lst st.sub
      subst e1
      refine L2.op_rep pins s σ H _ _ v u Q I rx ry ⟨_, _, vs, rfl, rfl, h1, hz.1, hz.2.1, by rw [r1.length]; exact hz.2.2, fun p hp => ?_⟩
      exact q.new st hp (.lst upd_same (by rw [rep_len]; exact hz.2.2) ((r1.rep _).mono (sub_upd (st.sub.none hp))))
    · cases e
  · split at e
    · rename_i hz
      cases e; cases ha.int; cases hb.int
      exact L2.op_mod pins s σ H _ _ v u Q I rx ry ⟨_, _, rfl, rfl, hz, q.now st (.p (.int _))⟩
    · cases e
  · split at e
    · rename_i hz
      cases e; cases ha.int; cases hb.int
      exact L2.op_fdiv pins s σ H _ _ v u Q I rx ry ⟨_, _, rfl, rfl, hz, q.now st (.p (.int _))⟩
    · cases e
  · split at e
    · rename_i hz
      cases e; cases ha.int; cases hb.int
      exact L2.op_pow pins s σ H _ _ v u Q I rx ry ⟨_, _, rfl, rfl, hz, q.now st (.p (.int _))⟩
    · cases e
  · cases e

def rCmp (K : PySem.W.Frag) (op : CmpOp) : R2 := fun x y H Q => ∃ F ρ s d e c s', Stt F H ρ s ∧ HasD K F ρ x d ∧ HasD K F ρ y e ∧ cmpD op d e s = .ok c s' ∧ Fut K Q F H ρ c s'
theorem isNon_eq {K : PySem.W.Frag} {F : Hp} {ρ : Rho} {v : V} {d : D} (h : HasD K F ρ v d) : decide (v = .non) = isNon d := by
  cases h with
  | p h => cases h <;> rfl
  | scr _ => rfl
  | ref _ => rfl
  | tmp _ => rfl
  | tup _ _ _ => rfl
  | dct _ _ _ _ _ _ => rfl
theorem cmpD_get {op : CmpOp} {d e : D} {s : Sto} {c : D} {s' : Sto} (h : cmpD op d e s = .ok c s') :
    (op = .Is ∧ e = .p .non ∧ c = .p (.bl (isNon d)) ∧ s' = s) ∨ (op = .IsNot ∧ e = .p .non ∧ c = .p (.bl (!isNon d)) ∧ s' = s) ∨
    (∃ a b k, s.get' d = some a ∧ s.get' e = some b ∧ cmpP op a b = some k ∧ c = .p (.bl k) ∧ s' = s) ∨
    (∃ a kvs k, s.get' d = some a ∧ s.dct e = some kvs ∧ keyP a = some k ∧ ((op = .In ∧ c = .p (.bl (valP kvs k).isSome)) ∨ (op = .NotIn ∧ c = .p (.bl (!(valP kvs k).isSome)))) ∧ s' = s) ∨
    (∃ a b, s.get' d = some a ∧ dHas s e a = some b ∧ ((op = .In ∧ c = .p (.bl b)) ∨ (op = .NotIn ∧ c = .p (.bl (!b)))) ∧ s' = s) := by
  unfold cmpD at h
  split at h
  · cases h; exact .inl ⟨rfl, rfl, rfl, rfl⟩
  · cases h; exact .inr (.inl ⟨rfl, rfl, rfl, rfl⟩)
  · split at h
    · rename_i a b e1 e2
      cases e3 : cmpP op a b with
      | none => rw [e3] at h; cases h
      | some k =>
        rw [e3] at h
        cases h
        exact .inr (.inr (.inl ⟨a, b, k, e1, e2, e3, rfl, rfl⟩))
    · rename_i a e1 e2
      split at h
      · rename_i q1 q2 _ _
        cases h
        exact .inr (.inr (.inr (.inl ⟨a, _, _, e1, q1, q2, .inl ⟨rfl, rfl⟩, rfl⟩)))
      · rename_i q1 q2 _ _
        cases h
        exact .inr (.inr (.inr (.inl ⟨a, _, _, e1, q1, q2, .inr ⟨rfl, rfl⟩, rfl⟩)))
      · split at h
        · rename_i b hb
          cases h
          exact .inr (.inr (.inr (.inr ⟨a, b, e1, hb, .inl ⟨rfl, rfl⟩, rfl⟩)))
        · cases h
      · split at h
        · rename_i b hb
          cases h
          exact .inr (.inr (.inr (.inr ⟨a, b, e1, hb, .inr ⟨rfl, rfl⟩, rfl⟩)))
        · cases h
      · cases h
    · cases h
theorem get_key {K : PySem.W.Frag} {F : Hp} {ρ : Rho} {s : Sto} {v : V} {d : D} {a : P} {k : L2.Key} (hd : HasD K F ρ v d) (e : s.get' d = some a) (hk : keyP a = some k) : v = L2.kV k := by
  unfold keyP at hk
  split at hk
  · cases hk
    cases hd with
    | p h =>
      have e : some _ = some (P.int _) := e
      cases e
      cases h; rfl
    | scr _ => cases e
    | ref _ => simp only [Sto.get', Sto.get] at e; split at e <;> cases e
    | tmp _ => simp only [Sto.get', Sto.get] at e; split at e <;> cases e
    | tup _ _ _ => cases e
    | dct _ _ _ _ _ _ => cases e
  · cases hk
    cases hd with
    | p h =>
      have e : some _ = some (P.str _) := e
      cases e
      cases h; rfl
    | scr _ => cases e
    | ref _ => simp only [Sto.get', Sto.get] at e; split at e <;> cases e
    | tmp _ => simp only [Sto.get', Sto.get] at e; split at e <;> cases e
    | tup _ _ _ => cases e
    | dct _ _ _ _ _ _ => cases e
  · cases hk
theorem dct_sees {K : PySem.W.Frag} {F H : Hp} {ρ : Rho} {s : Sto} {v : V} {d : D} {kvs : List (L2.Key × P)} (st : Stt F H ρ s) (hd : HasD K F ρ v d) (e : s.dct d = some kvs) : ∃ q ws, v = .ref q ∧ L2.Rd H q (.dK ws) ∧ HasKV F ws kvs ∧ kvs.length ≤ sizeLine := by
  cases hd with
  | p h => cases e
  | scr _ => cases e
  | @ref b n h =>
    simp only [Sto.dct] at e
    split at e
    · rename_i xs hx
      cases e
      obtain ⟨z, vs, h1, h2⟩ := st.om n _ b hx h
      exact ⟨b, vs, rfl, .inl h1, h2, z⟩
    · rename_i xs hx
      cases e
      obtain ⟨z, od, vs, _, h1, h2⟩ := st.om n _ b hx h
      exact ⟨b, vs, rfl, .inr ⟨od, h1⟩, h2, z⟩
    · cases e
  | @tmp b n h =>
    simp only [Sto.dct] at e
    split at e
    · rename_i xs hx
      cases e
      obtain ⟨z, vs, h1, h2⟩ := st.ot n _ b hx h
      exact ⟨b, vs, rfl, .inl h1, h2, z⟩
    · rename_i xs hx
      cases e
      obtain ⟨z, od, vs, _, h1, h2⟩ := st.ot n _ b hx h
      exact ⟨b, vs, rfl, .inr ⟨od, h1⟩, h2, z⟩
    · cases e
  | tup _ _ _ => cases e
  | dct _ _ _ _ _ _ => cases e
theorem dctU_sees {K : PySem.W.Frag} {F H : Hp} {ρ : Rho} {s : Sto} {v : V} {d : D} {kvs : List (L2.Key × P)} (st : Stt F H ρ s) (hd : HasD K F ρ v d) (e : s.dctU d = some kvs) : ∃ q ws, v = .ref q ∧ H q = some (.dK ws) ∧ HasKV F ws kvs ∧ kvs.length ≤ sizeLine := by
  cases hd with
  | p h => cases e
  | scr _ => cases e
  | @ref b n h =>
    simp only [Sto.dctU] at e
    split at e
    · rename_i xs hx
      cases e
      obtain ⟨z, vs, h1, h2⟩ := st.om n _ b hx h
      exact ⟨b, vs, rfl, h1, h2, z⟩
    · cases e
  | @tmp b n h =>
    simp only [Sto.dctU] at e
    split at e
    · rename_i xs hx
      cases e
      obtain ⟨z, vs, h1, h2⟩ := st.ot n _ b hx h
      exact ⟨b, vs, rfl, h1, h2, z⟩
    · cases e
  | tup _ _ _ => cases e
  | dct _ _ _ _ _ _ => cases e
theorem dctW_sees {K : PySem.W.Frag} {F H : Hp} {ρ : Rho} {s : Sto} {v : V} {d : D} {kvs : List (L2.Key × P)} (st : Stt F H ρ s) (hd : HasD K F ρ v d) (e : s.dctW d = some kvs) : ∃ q od ws, v = .ref q ∧ F q = some (.frz od (.dK ws)) ∧ HasKV F ws kvs ∧ kvs.length ≤ sizeLine := by
  cases hd with
  | p h => cases e
  | scr _ => cases e
  | ref h => cases e
  | @tmp b n h =>
    simp only [Sto.dctW] at e
    split at e
    · rename_i xs hx
      cases e
      obtain ⟨z, od, vs, h0, h1, h2⟩ := st.ot n _ b hx h
      exact ⟨b, od, vs, rfl, h0, h2, z⟩
    · cases e
  | tup _ _ _ => cases e
  | dct _ _ _ _ _ _ => cases e
theorem min20 {x y : P} (h : (x.lim 20 || y.lim 20) = true) : min x.py.depth y.py.depth ≤ 20 := by
  rcases Bool.or_eq_true_iff.mp h with h | h
  · exact Nat.le_trans (Nat.min_le_left _ _) (lim_depth x 20 h)
  · exact Nat.le_trans (Nat.min_le_right _ _) (lim_depth y 20 h)
theorem get_int {s : Sto} {d : D} {i : Int} (h : s.get' d = some (.int i)) : d = .p (.int i) := by
  unfold Sto.get' at h
  split at h
  · cases h
  · unfold Sto.get at h
    split at h
    · cases h; rfl
    · split at h <;> cases h
    · split at h <;> cases h
    · cases h
theorem get_str {s : Sto} {d : D} {i : Str} (h : s.get' d = some (.str i)) : d = .p (.str i) := by
  unfold Sto.get' at h
  split at h
  · cases h
  · unfold Sto.get at h
    split at h
    · cases h; rfl
    · split at h <;> cases h
    · split at h <;> cases h
    · cases h
theorem HasD.int {K : PySem.W.Frag} {F : Hp} {ρ : Rho} {v : V} {i : Int} (h : HasD K F ρ v (.p (.int i))) : v = .int i := by cases h with | p h => cases h; rfl
theorem HasD.str {K : PySem.W.Frag} {F : Hp} {ρ : Rho} {v : V} {i : Str} (h : HasD K F ρ v (.p (.str i))) : v = .str i := by cases h with | p h => cases h; rfl
theorem HasD.bl {K : PySem.W.Frag} {F : Hp} {ρ : Rho} {v : V} {i : Bool} (h : HasD K F ρ v (.p (.bl i))) : v = .bl i := by cases h with | p h => cases h; rfl
theorem HasD.non {K : PySem.W.Frag} {F : Hp} {ρ : Rho} {v : V} (h : HasD K F ρ v (.p .non)) : v = .non := by cases h with | p h => cases h; rfl
theorem minr {a b u : Nat} (h : b ≤ 20) (hu : u + 1 + 20 < cLine) : u + 1 + min a b < cLine := by
  have := Nat.min_le_right a b
  omega
theorem get_keyN {K : PySem.W.Frag} {F : Hp} {ρ : Rho} {s : Sto} {v : V} {d : D} {a : P} (hd : HasD K F ρ v d) (e : s.get' d = some a) (hk : a.key = true) : HasP F v a := by
  cases hd with
  | p h =>
    have e : some _ = some a := e
    cases e; exact h
  | scr _ => cases e; simp [P.key] at hk
  | ref _ =>
    simp only [Sto.get', Sto.get] at e
    split at e
    · cases e; simp [P.key] at hk
    · cases e
  | tmp _ =>
    simp only [Sto.get', Sto.get] at e
    split at e
    · cases e; simp [P.key] at hk
    · cases e
  | tup _ _ _ => cases e
  | dct _ _ _ _ _ _ => cases e
theorem op_cmp (hw : WW.w = X.w) (hu : X.A.units + 64 < cLine) (op : CmpOp) : OpR X (compareOp op) (rCmp X.K op) := by
  intro pins s σ H x y v u Q I rx ry h
  obtain ⟨F, ρ, t, d, e, c, t', st, hd, he, g, q⟩ := h
  have fin : ∀ k, c = .p (.bl k) → t' = t → Q (.bl k) H := fun k e1 e2 => by
    subst e1; subst e2
    exact q.now st (.p (.bl k))
  rcases cmpD_get g with ⟨rfl, rfl, h1, h2⟩ | ⟨rfl, rfl, h1, h2⟩ | ⟨a, b, k, e1, e2, e3, h1, h2⟩ | ⟨a, kvs, k, e1, e2, e3, h1, h2⟩ | ⟨a, b, e1, e2, h1, h2⟩
  · cases he.non
    refine L2.op_isN pins s σ H _ _ v u Q I rx ry ⟨rfl, ?_⟩
    rw [isNon_eq hd]; exact fin _ h1 h2
  · cases he.non
    refine L2.op_notN pins s σ H _ _ v u Q I rx ry ⟨rfl, ?_⟩
    rw [isNon_eq hd]; exact fin _ h1 h2
  · have q := fin k h1 h2
    obtain ⟨as, r1⟩ := L2.Dp.reads I _ x v (get_dp st hd e1) rx
    obtain ⟨bs, r2⟩ := L2.Dp.reads I _ y u (get_dp st he e2) ry
    unfold cmpP at e3
    split at e3
    · split at e3
      · rename_i hl
        have hm := min20 hl
        cases e3
        refine SeqAt.eq_plain r1 r2 (py_plain _) (py_plain _) (by omega) ⟨.bl _, H, I, ?_, q⟩
        rw [py_eqv]; rfl
      · cases e3
    · split at e3
      · rename_i hl
        have hm := min20 hl
        cases e3
        refine SeqAt.ne_plain r1 r2 (py_plain _) (py_plain _) (by omega) ⟨.bl _, H, I, ?_, q⟩
        rw [py_eqv]; rfl
      · cases e3
    · cases e3; cases get_int e1; cases get_int e2; cases hd.int; cases he.int
      exact L2.op_lt pins s σ H _ _ v u Q I rx ry ⟨_, _, rfl, rfl, q⟩
    · cases e3; cases get_int e1; cases get_int e2; cases hd.int; cases he.int
      exact L2.op_le pins s σ H _ _ v u Q I rx ry ⟨_, _, rfl, rfl, q⟩
    · cases e3; cases get_int e1; cases get_int e2; cases hd.int; cases he.int
      exact L2.op_gt pins s σ H _ _ v u Q I rx ry ⟨_, _, rfl, rfl, q⟩
    · cases e3; cases get_int e1; cases get_int e2; cases hd.int; cases he.int
      exact L2.op_ge pins s σ H _ _ v u Q I rx ry ⟨_, _, rfl, rfl, q⟩
    · cases e3; cases get_str e1; cases get_str e2; cases hd.str; cases he.str
      exact L2.op_le_str pins s σ H _ _ v u Q I rx ry ⟨_, _, rfl, rfl, q⟩
    · cases e3; cases get_str e1; cases get_str e2; cases hd.str; cases he.str
      exact L2.op_in_str pins s σ H _ _ v u Q I rx ry ⟨_, _, rfl, rfl, q⟩
    · cases e3; cases get_str e1; cases get_str e2; cases hd.str; cases he.str
      exact L2.op_notin_str pins s σ H _ _ v u Q I rx ry ⟨_, _, rfl, rfl, q⟩
    · split at e3
      · rename_i hl
        cases e3
        have hm := lim_depth _ 20 hl
        refine SeqAt.in_list_data (by simpa only [P.py] using r2) r1 (pys_plain _) (py_plain _) (minr hm (by omega)) ⟨.bl _, H, I, ?_, q⟩
        rw [pys_any]; rfl
      · cases e3
    · split at e3
      · rename_i hl
        cases e3
        have hm := lim_depth _ 20 hl
        refine SeqAt.notIn_list_data (by simpa only [P.py] using r2) r1 (pys_plain _) (py_plain _) (minr hm (by omega)) ⟨.bl _, H, I, ?_, q⟩
        rw [pys_any]; rfl
      · cases e3
    · split at e3
      · rename_i hl
        cases e3
        have hm := lim_depth _ 20 hl
        refine SeqAt.in_tuple_data (by simpa only [P.py] using r2) r1 (pys_plain _) (py_plain _) (minr hm (by omega)) ⟨.bl _, H, I, ?_, q⟩
        rw [pys_any]; rfl
      · cases e3
    · split at e3
      · rename_i hl
        cases e3
        have hm := lim_depth _ 20 hl
        refine SeqAt.notIn_tuple_data (by simpa only [P.py] using r2) r1 (pys_plain _) (py_plain _) (minr hm (by omega)) ⟨.bl _, H, I, ?_, q⟩
        rw [pys_any]; rfl
      · cases e3
    · cases e3
  · have ek := get_key hd e1 e3
    subst ek
    obtain ⟨q, ws, rfl, hH, hkv, _⟩ := dct_sees st he e2
    have hu' : X.A.units + 1 < cLine := by omega
    cases (show u = Value.ref q from ry)
    rcases h1 with ⟨rfl, h1⟩ | ⟨rfl, h1⟩
    · have qq := fin _ h1 h2
      rw [← (hkv.val k).2] at qq
      exact L2.d_in hu' I (.inl ⟨ws, k, hH, rfl, rfl⟩) rx fun s' I' => ⟨.bl _, H, I', rfl, qq⟩
    · have qq := fin _ h1 h2
      rw [← (hkv.val k).2] at qq
      exact L2.d_notIn hu' I (.inl ⟨ws, k, hH, rfl, rfl⟩) rx fun s' I' => ⟨.bl _, H, I', rfl, qq⟩
  · obtain ⟨q, xs, rfl, gd, hk, hb⟩ := dHas_sees st he e2
    obtain ⟨kb, gk, _⟩ := gk_of st.sub (get_keyN hd e1 hk) hk
    cases gk.e
    cases (show v = Value.ref kb from rx)
    cases (show u = Value.ref q from ry)
    subst hb
    rcases h1 with ⟨rfl, h1⟩ | ⟨rfl, h1⟩
    · exact g_in hw hu I gd gk fun s' I' => ⟨.bl _, H, I', rfl, fin _ h1 h2⟩
    · exact g_notIn hw hu I gd gk fun s' I' => ⟨.bl _, H, I', rfl, fin _ h1 h2⟩
end
end G7

namespace G7
open PySem PySem.Spec
open L2 (V Hp HO St WX TE TS R2 OpR CallR MtR MtM SlR IxR Inv RelV Vals upd upd_same upd_ne ne_of_none SqL SqT Cx Room EP VK)
variable [WW]

theorem atI_has {F : Hp} {vs : List V} {xs : List P} {k : Int} {a : P} (r : HasPs F vs xs) (h : L2.atI xs k = some a) : ∃ v, L2.atI vs k = some v ∧ HasP F v a := by
  unfold L2.atI at h ⊢
  rw [r.length]
  cases e : L2.ixN xs.length k with
  | none => rw [e] at h; cases h
  | some j =>
    rw [e] at h
    obtain ⟨v, h1, h2⟩ := r.get (show xs[j]? = some a from h)
    exact ⟨v, h1, h2⟩
theorem atI_hasD {K : PySem.W.Frag} {F : Hp} {ρ : Rho} {vs : List V} {xs : List D} {k : Int} {a : D} (r : HasDs K F ρ vs xs) (h : L2.atI xs k = some a) : ∃ v, L2.atI vs k = some v ∧ HasD K F ρ v a := by
  unfold L2.atI at h ⊢
  rw [r.length]
  cases e : L2.ixN xs.length k with
  | none => rw [e] at h; cases h
  | some j =>
    rw [e] at h
    obtain ⟨v, h1, h2⟩ := r.get (show xs[j]? = some a from h)
    exact ⟨v, h1, h2⟩
theorem atI_map {α β : Type} (f : α → β) (xs : List α) (k : Int) (a : α) (h : L2.atI xs k = some a) : L2.atI (xs.map f) k = some (f a) := by
  unfold L2.atI at h ⊢
  rw [List.length_map]
  cases e : L2.ixN xs.length k with
  | none => rw [e] at h; cases h
  | some j =>
    rw [e] at h
    have h' : xs[j]? = some a := h
    show (xs.map f)[j]? = some (f a)
    rw [List.getElem?_map, h']; rfl
section
variable {X : Cx}
def rIdx (K : PySem.W.Frag) : R2 := fun x y H Q => ∃ F ρ s d e c s', Stt F H ρ s ∧ HasD K F ρ x d ∧ HasD K F ρ y e ∧ idxD d e s = .ok c s' ∧ Fut K Q F H ρ c s'
theorem R.of_ok {α : Type} {o : Option α} {s s' : Sto} {a : α} (h : R.of o s = .ok a s') : o = some a ∧ s' = s := by
  cases o with
  | none => cases h
  | some b => cases h; exact ⟨rfl, rfl⟩
theorem ix_idx : IxR X (rIdx X.K) := by
  intro value slice pins s σ H x y v u Q I rx ry h hsub
  obtain ⟨F, ρ, t, d, e, c, t', st, hd, he, g, q⟩ := h
  unfold idxD at g
  split at g
  · rename_i xs k
    obtain ⟨g0, rfl⟩ := R.of_ok g
    obtain ⟨i, g1, rfl⟩ := Option.map_eq_some_iff.mp g0
    cases he.int
    cases hd with | @scr a _ hs =>
    exact L2.ix_list value slice pins s σ H _ _ v u Q I rx ry ⟨a, _, _, _, rfl, rfl, SqL.sub st.sub hs, atI_map _ _ _ _ g1, q.now st (.p (.int i))⟩ hsub
  · rename_i ds k
    obtain ⟨g1, rfl⟩ := R.of_ok g
    cases he.int
    cases hd with | @tup a vs _ hs _ r =>
    obtain ⟨w, h1, h2⟩ := atI_hasD r g1
    exact L2.ix_tup value slice pins s σ H _ _ v u Q I rx ry ⟨a, vs, _, w, rfl, rfl, SqT.of (st.sub _ _ hs), h1, q.now st h2⟩ hsub
  · rename_i d k _ _
    split at g
    · rename_i a ha
      obtain ⟨g0, rfl⟩ := R.of_ok g
      obtain ⟨b, g1, rfl⟩ := Option.map_eq_some_iff.mp g0
      cases he.int
      have hs := get_sees st hd ha
      unfold atP at g1
      split at g1
      · obtain ⟨p1, vs, e1, f1, h1, r1, z1⟩ := hs.tup st.sub
        subst e1
        obtain ⟨w, h2, h3⟩ := atI_has r1 g1
        exact L2.ix_tup value slice pins s σ H _ _ v u Q I rx ry ⟨p1, vs, _, w, rfl, rfl, SqT.of h1, h2, q.now st (.p h3)⟩ hsub
      · obtain ⟨p1, vs, e1, h1, r1, z1⟩ := hs.lst st.sub
        subst e1
        obtain ⟨w, h2, h3⟩ := atI_has r1 g1
        exact L2.ix_list value slice pins s σ H _ _ v u Q I rx ry ⟨p1, vs, _, w, rfl, rfl, SqL.of h1, h2, q.now st (.p h3)⟩ hsub
      · split at g1
        · rename_i hz
          cases hs.str
          obtain ⟨w, h2, h3⟩ := Option.map_eq_some_iff.mp g1
          subst h3
          exact L2.ix_str value slice pins s σ H _ _ v u Q I rx ry ⟨_, _, w, rfl, rfl, hz, h2, q.now st (.p (.str _))⟩ hsub
        · cases g1
      · cases g1
    · cases g
  · cases g
def rSlc (K : PySem.W.Frag) : V → Option Int → Option Int → Hp → VK → Prop := fun x lo hi H Q => ∃ F ρ s a c, Stt F H ρ s ∧ Sees F H x a ∧ slcP a lo hi = some c ∧ Fut K Q F H ρ (.p c) s
theorem cut_whole {α : Type} {xs : List α} {lo hi : Option Int} (h : HT.sIx xs.length 0 lo = 0 ∧ HT.sIx xs.length xs.length hi = xs.length) : cut xs lo hi = xs := by
  unfold cut
  rw [h.1, h.2]
  simp
theorem sl_slc : SlR X (rSlc X.K) := by
  intro pins s σ H x v vl vu lo hi sl Q I rx hs pl pu h
  obtain ⟨F, ρ, t, a, c, st, ha, g, q⟩ := h
  unfold slcP at g
  split at g
  · cases g
    obtain ⟨p1, vs, e1, f1, h1, r1, z1⟩ := ha.tup st.sub
    subst e1
    refine L2.sl_tupA pins s σ H _ v vl vu lo hi sl Q I rx hs pl pu ⟨p1, vs, rfl, SqT.of h1, fun z => ?_, fun _ p hp => ?_⟩
    · refine q.now st (.p (.tup f1 (Nat.le_trans (cut_len _ _ _) z1) ?_))
      rw [cut_whole (by rw [← r1.length]; exact z)]; exact r1
    · exact q.new st hp (.tup upd_same (Nat.le_trans (cut_len _ _ _) z1) ((r1.cut lo hi).mono (sub_upd (st.sub.none hp))))
  · cases g
    obtain ⟨p1, vs, e1, h1, r1, z1⟩ := ha.lst st.sub
    subst e1
    refine L2.sl_list pins s σ H _ v vl vu lo hi sl Q I rx hs pl pu ⟨p1, vs, rfl, SqL.of h1, fun p hp => ?_⟩
    exact q.new st hp (.lst upd_same (Nat.le_trans (cut_len _ _ _) z1) ((r1.cut lo hi).mono (sub_upd (st.sub.none hp))))
  · split at g
    · rename_i hz
      cases g; cases ha.str
      exact L2.sl_str pins s σ H _ v vl vu lo hi sl Q I rx hs pl pu ⟨_, rfl, hz, q.now st (.p (.str _))⟩
    · cases g
  · cases g

/-! ### calls of built-ins -/
def rB1 (K : PySem.W.Frag) (f : B1) : List V → Hp → VK → Prop := fun xs H Q => ∃ F ρ s x d c s', xs = [x] ∧ Stt F H ρ s ∧ HasD K F ρ x d ∧ b1D f d s = .ok c s' ∧ Fut K Q F H ρ c s'
theorem b1D_get {f : B1} {d : D} {s : Sto} {c : D} {s' : Sto} (h : b1D f d s = .ok c s') : (∃ xs, f = .len ∧ d = .scr xs ∧ c = .p (.int xs.length) ∧ s' = s) ∨ ∃ a b, s.get d = some a ∧ b1P f a = some b ∧ c = .p b ∧ s' = s := by
  unfold b1D at h
  split at h
  · cases h; exact .inl ⟨_, rfl, rfl, rfl, rfl⟩
  · split at h
    · rename_i a ha
      obtain ⟨g0, rfl⟩ := R.of_ok h
      obtain ⟨b, g1, rfl⟩ := Option.map_eq_some_iff.mp g0
      exact .inr ⟨a, b, ha, g1, rfl, rfl⟩
    · cases h
theorem cr_len : CallR X (.builtin "len") (rB1 X.K .len) := by
  intro pins s σ H xs us Q I r h
  obtain ⟨F, ρ, t, x, d, c, t', rfl, st, hd, g, q⟩ := h
  rcases b1D_get g with ⟨ys, _, rfl, rfl, rfl⟩ | ⟨a, b, ha, g1, rfl, rfl⟩
  · cases hd with | @scr b _ hs =>
    refine L2.call_len pins s σ H _ us Q I r ⟨_, ys.length, rfl, Or.inl ⟨_, SqL.sub st.sub hs, by rw [List.length_map]⟩, q.now st (.p (.int _))⟩
  · have hs := get_sees st hd ha
    unfold b1P at g1
    split at g1 <;> first | contradiction | skip
    · split at g1
      · rename_i hz
        cases g1; cases hs.str
        exact L2.call_len pins s σ H _ us Q I r ⟨_, _, rfl, ⟨hz, rfl⟩, q.now st (.p (.int _))⟩
      · cases g1
    · cases g1
      obtain ⟨p1, vs, e1, f1, h1, r1, z1⟩ := hs.tup st.sub
      subst e1
      exact L2.call_len pins s σ H _ us Q I r ⟨_, _, rfl, Or.inr ⟨_, SqT.of h1, r1.length.symm⟩, q.now st (.p (.int _))⟩
    · cases g1
      obtain ⟨p1, vs, e1, h1, r1, z1⟩ := hs.lst st.sub
      subst e1
      exact L2.call_len pins s σ H _ us Q I r ⟨_, _, rfl, Or.inl ⟨_, SqL.of h1, r1.length.symm⟩, q.now st (.p (.int _))⟩
theorem allBl_has {F : Hp} : ∀ {xs : List P} {bs : List Bool} {vs : List V}, allBl xs = some bs → HasPs F vs xs → vs = bs.map V.bl
  | [], bs, _, e, h => by cases h; cases e; rfl
  | x :: xs, bs, _, e, h => by
    cases h with | cons a b =>
    cases a with
    | bl k =>
      simp only [allBl, Option.map_eq_some_iff] at e
      obtain ⟨qs, e1, e2⟩ := e
      subst e2
      rw [allBl_has e1 b]; rfl
    | non => cases e
    | int _ => cases e
    | str _ => cases e
    | tup _ _ _ => cases e
    | lst _ _ _ => cases e
theorem allStr_has {F : Hp} : ∀ {xs : List P} {bs : List Str} {vs : List V}, allStr xs = some bs → HasPs F vs xs → vs = bs.map V.str
  | [], bs, _, e, h => by cases h; cases e; rfl
  | x :: xs, bs, _, e, h => by
    cases h with | cons a b =>
    cases a with
    | str k =>
      simp only [allStr, Option.map_eq_some_iff] at e
      obtain ⟨qs, e1, e2⟩ := e
      subst e2
      rw [allStr_has e1 b]; rfl
    | non => cases e
    | int _ => cases e
    | bl _ => cases e
    | tup _ _ _ => cases e
    | lst _ _ _ => cases e
theorem cr_all (hc : X.calm = true) : CallR X (.builtin "all") (rB1 X.K .all) := by
  intro pins s σ H xs us Q I r h
  obtain ⟨F, ρ, t, x, d, c, t', rfl, st, hd, g, q⟩ := h
  rcases b1D_get g with ⟨ys, z, _⟩ | ⟨a, b, ha, g1, rfl, rfl⟩
  · cases z
  · have hs := get_sees st hd ha
    unfold b1P at g1
    split at g1 <;> first | contradiction | skip
    obtain ⟨p1, vs, e1, h1, r1, z1⟩ := hs.lst st.sub
    subst e1
    obtain ⟨bs, g2, rfl⟩ := Option.map_eq_some_iff.mp g1
    have e2 := allBl_has g2 r1
    subst e2
    exact L2.cr_all hc pins s σ H _ us Q I r ⟨p1, bs, rfl, SqL.of h1, q.now st (.p (.bl _))⟩
theorem cr_any (hc : X.calm = true) : CallR X (.builtin "any") (rB1 X.K .any) := by
  intro pins s σ H xs us Q I r h
  obtain ⟨F, ρ, t, x, d, c, t', rfl, st, hd, g, q⟩ := h
  rcases b1D_get g with ⟨ys, z, _⟩ | ⟨a, b, ha, g1, rfl, rfl⟩
  · cases z
  · have hs := get_sees st hd ha
    unfold b1P at g1
    split at g1 <;> first | contradiction | skip
    obtain ⟨p1, vs, e1, h1, r1, z1⟩ := hs.lst st.sub
    subst e1
    obtain ⟨bs, g2, rfl⟩ := Option.map_eq_some_iff.mp g1
    have e2 := allBl_has g2 r1
    subst e2
    exact L2.cr_any hc pins s σ H _ us Q I r ⟨p1, bs, rfl, SqL.of h1, q.now st (.p (.bl _))⟩
theorem cr_tuple : CallR X (.type "tuple") (rB1 X.K .tuple) := by
  intro pins s σ H xs us Q I r h
  obtain ⟨F, ρ, t, x, d, c, t', rfl, st, hd, g, q⟩ := h
  rcases b1D_get g with ⟨ys, z, _⟩ | ⟨a, b, ha, g1, rfl, rfl⟩
  · cases z
  · have hs := get_sees st hd ha
    unfold b1P at g1
    split at g1 <;> first | contradiction | skip
    · cases g1
      obtain ⟨p1, vs, e1, h1, r1, z1⟩ := hs.lst st.sub
      subst e1
      refine L2.call_tuple_of pins s σ H _ us Q I r ⟨p1, vs, rfl, .inl ⟨SqL.of h1, fun p hp => ?_⟩⟩
      exact q.new st hp (.tup upd_same z1 (r1.mono (sub_upd (st.sub.none hp))))
    · cases g1
      obtain ⟨p1, vs, e1, f1, h1, r1, z1⟩ := hs.tup st.sub
      subst e1
      exact L2.call_tuple_of pins s σ H _ us Q I r ⟨p1, vs, rfl, .inr ⟨SqT.of h1, q.now st (.p (.tup f1 z1 r1))⟩⟩
theorem cr_int : CallR X (.type "int") (rB1 X.K .int) := by
  intro pins s σ H xs us Q I r h
  obtain ⟨F, ρ, t, x, d, c, t', rfl, st, hd, g, q⟩ := h
  rcases b1D_get g with ⟨ys, z, _⟩ | ⟨a, b, ha, g1, rfl, rfl⟩
  · cases z
  · have hs := get_sees st hd ha
    unfold b1P at g1
    split at g1 <;> first | contradiction | skip
    · cases g1; cases hs.int
      exact L2.call_int1 pins s σ H _ us Q I r (.inl ⟨_, rfl, q.now st (.p (.int _))⟩)
    · cases g1; cases hs.bl
      exact L2.call_int1 pins s σ H _ us Q I r (.inr ⟨_, rfl, q.now st (.p (.int _))⟩)
    · split at g1
      · rename_i hz
        obtain ⟨n, hn, rfl⟩ := Option.map_eq_some_iff.mp g1
        cases hs.str
        exact L2.call_int_str pins s σ H _ us Q I r ⟨_, n, rfl, hn, hz, q.now st (.p (.int _))⟩
      · cases g1
theorem cr_str : CallR X (.type "str") (rB1 X.K .str) := by
  intro pins s σ H xs us Q I r h
  obtain ⟨F, ρ, t, x, d, c, t', rfl, st, hd, g, q⟩ := h
  rcases b1D_get g with ⟨ys, z, _⟩ | ⟨a, b, ha, g1, rfl, rfl⟩
  · cases z
  · have hs := get_sees st hd ha
    unfold b1P at g1
    split at g1 <;> first | contradiction | skip
    split at g1
    · rename_i hz
      cases g1; cases hs.int
      exact L2.call_str_int pins s σ H _ us Q I r ⟨_, rfl, hz, q.now st (.p (.str _))⟩
    · cases g1
theorem ints_has {F : Hp} : ∀ {xs : List P} {is : List Int} {vs : List V}, intsP xs = some is → HasPs F vs xs → vs = is.map V.int
  | [], _, _, e, h => by cases e; cases h; rfl
  | x :: xs, is, _, e, h => by
    cases h with | cons h1 h2 =>
    cases x with
    | int i =>
      simp only [intsP, Option.map_eq_some_iff] at e
      obtain ⟨js, e1, rfl⟩ := e
      cases h1
      rw [List.map_cons, ints_has e1 h2]
    | _ => cases e
theorem has_ints {F : Hp} : ∀ is : List Int, HasPs F (is.map V.int) (is.map P.int)
  | [] => .nil
  | i :: is => .cons (.int i) (has_ints is)
theorem intsP_len : ∀ {xs : List P} {is : List Int}, intsP xs = some is → is.length = xs.length
  | [], _, e => by cases e; rfl
  | x :: xs, is, e => by
    cases x with
    | int i =>
      simp only [intsP, Option.map_eq_some_iff] at e
      obtain ⟨js, e1, rfl⟩ := e
      rw [List.length_cons, List.length_cons, intsP_len e1]
    | _ => cases e
theorem max_of {ns : List Int} {m k : Int} (h : ns.max? = some k) (h1 : m ∈ ns) (h2 : ∀ y, y ∈ ns → y ≤ m) : m = k := by
  rw [List.max?_eq_some_iff] at h
  have a := h2 k h.1
  have b := h.2 m h1
  omega
theorem min_of {ns : List Int} {m k : Int} (h : ns.min? = some k) (h1 : m ∈ ns) (h2 : ∀ y, y ∈ ns → m ≤ y) : m = k := by
  rw [List.min?_eq_some_iff] at h
  have a := h2 k h.1
  have b := h.2 m h1
  omega
theorem cr_sum1 (hc : X.calm = true) : CallR X (.builtin "sum") (rB1 X.K .sum) := by
  intro pins s σ H xs us Q I r h
  obtain ⟨F, ρ, t, x, d, c, t', rfl, st, hd, g, q⟩ := h
  rcases b1D_get g with ⟨ys, z, _⟩ | ⟨a, b, ha, g1, rfl, rfl⟩
  · cases z
  · have hs := get_sees st hd ha
    unfold b1P at g1
    split at g1 <;> first | contradiction | skip
    obtain ⟨is, h1, rfl⟩ := Option.map_eq_some_iff.mp g1
    obtain ⟨p, vs, rfl, hH, hr, z⟩ := hs.lst st.sub
    have e := ints_has h1 hr
    subst e
    exact L2.cr_sum hc pins s σ H _ us Q I r ⟨p, is, rfl, SqL.of hH, q.now st (.p (.int _))⟩
theorem cr_max1 (hc : X.calm = true) : CallR X (.builtin "max") (rB1 X.K .max1) := by
  intro pins s σ H xs us Q I r h
  obtain ⟨F, ρ, t, x, d, c, t', rfl, st, hd, g, q⟩ := h
  rcases b1D_get g with ⟨ys, z, _⟩ | ⟨a, b, ha, g1, rfl, rfl⟩
  · cases z
  · have hs := get_sees st hd ha
    unfold b1P at g1
    split at g1 <;> first | contradiction | skip
    obtain ⟨is, h1, g1⟩ := Option.bind_eq_some_iff.mp g1
    obtain ⟨k, h2, rfl⟩ := Option.map_eq_some_iff.mp g1
    obtain ⟨p, vs, rfl, hH, hr, z⟩ := hs.lst st.sub
    have e := ints_has h1 hr
    subst e
    have hm := (List.max?_eq_some_iff.mp h2).1
    exact L2.cr_max hc pins s σ H _ us Q I r ⟨p, is, rfl, SqL.of hH, List.length_pos_of_mem hm, fun m m1 m2 => by rw [max_of h2 m1 m2]; exact q.now st (.p (.int _))⟩
theorem cr_min1 (hc : X.calm = true) : CallR X (.builtin "min") (rB1 X.K .min1) := by
  intro pins s σ H xs us Q I r h
  obtain ⟨F, ρ, t, x, d, c, t', rfl, st, hd, g, q⟩ := h
  rcases b1D_get g with ⟨ys, z, _⟩ | ⟨a, b, ha, g1, rfl, rfl⟩
  · cases z
  · have hs := get_sees st hd ha
    unfold b1P at g1
    split at g1 <;> first | contradiction | skip
    obtain ⟨is, h1, g1⟩ := Option.bind_eq_some_iff.mp g1
    obtain ⟨k, h2, rfl⟩ := Option.map_eq_some_iff.mp g1
    obtain ⟨p, vs, rfl, hH, hr, z⟩ := hs.lst st.sub
    have e := ints_has h1 hr
    subst e
    have hm := (List.min?_eq_some_iff.mp h2).1
    exact L2.cr_min hc pins s σ H _ us Q I r ⟨p, is, rfl, SqL.of hH, List.length_pos_of_mem hm, fun m m1 m2 => by rw [min_of h2 m1 m2]; exact q.now st (.p (.int _))⟩
def rB2 (K : PySem.W.Frag) (f : B2) : List V → Hp → VK → Prop := fun xs H Q => ∃ F ρ s x y a b c, xs = [x, y] ∧ Stt F H ρ s ∧ HasP F x a ∧ HasP F y b ∧ b2P f a b = some c ∧ Fut K Q F H ρ (.p c) s
theorem cr_min (hc : X.calm = true) : CallR X (.builtin "min") (rB2 X.K .min) := by
  intro pins s σ H xs us Q I r h
  obtain ⟨F, ρ, t, x, y, a, b, c, rfl, st, hx, hy, g, q⟩ := h
  unfold b2P at g
  split at g <;> first | contradiction | skip
  cases g; cases hx; cases hy
  exact L2.call_min2 hc pins s σ H _ us Q I r ⟨_, _, rfl, q.now st (.p (.int _))⟩
theorem cr_max (hc : X.calm = true) : CallR X (.builtin "max") (rB2 X.K .max) := by
  intro pins s σ H xs us Q I r h
  obtain ⟨F, ρ, t, x, y, a, b, c, rfl, st, hx, hy, g, q⟩ := h
  unfold b2P at g
  split at g <;> first | contradiction | skip
  cases g; cases hx; cases hy
  exact L2.call_max2 hc pins s σ H _ us Q I r ⟨_, _, rfl, q.now st (.p (.int _))⟩

/-! ### isinstance -/
def tyN : Ty → String
  | .int => "int" | .bool => "bool" | .str => "str" | .tuple => "tuple" | .list => "list"
def rIsi (K : PySem.W.Frag) (t : Ty) : List V → Hp → VK → Prop := fun xs H Q => ∃ F ρ s x d b, xs = [x, .ty (tyN t)] ∧ Stt F H ρ s ∧ HasD K F ρ x d ∧ isTy s t d = some b ∧ Fut K Q F H ρ (.p (.bl b)) s
def tyP : P → String
  | .non => "NoneType" | .bl _ => "bool" | .int _ => "int" | .str _ => "str" | .tup _ => "tuple" | .lst _ => "list"
theorem tyP_x {K : PySem.W.Frag} {F H : Hp} (sub : Sub F H) {v : V} {a : P} (h : HasP F v a) : L2.TyX K H v (.type (tyP a)) := by
  cases h with
  | non => exact .base .non
  | bl b => exact .base (.bl b)
  | int i => exact .base (.int i)
  | str x => exact .base (.str x)
  | tup e _ r => exact .base (.tup (sub _ _ e))
  | lst e _ r => exact .base (.lst (sub _ _ e))
theorem kit_all : ∀ (t : Ty) (a : P), ∃ b, isTyP t a = b ∧ L2.kitB (tyP a) (tyN t) = some b
  | .int, a => by cases a <;> exact ⟨_, rfl, by simp only [tyP, tyN, isTyP]; decide +kernel⟩
  | .bool, a => by cases a <;> exact ⟨_, rfl, by simp only [tyP, tyN, isTyP]; decide +kernel⟩
  | .str, a => by cases a <;> exact ⟨_, rfl, by simp only [tyP, tyN, isTyP]; decide +kernel⟩
  | .tuple, a => by cases a <;> exact ⟨_, rfl, by simp only [tyP, tyN, isTyP]; decide +kernel⟩
  | .list, a => by cases a <;> exact ⟨_, rfl, by simp only [tyP, tyN, isTyP]; decide +kernel⟩
theorem cr_isi (t : Ty) : CallR X (.builtin "isinstance") (rIsi X.K t) := by
  intro pins s σ H xs us Q I r h
  obtain ⟨F, ρ, z, x, d, b, rfl, st, hd, g, q⟩ := h
  obtain ⟨a, ha, hb⟩ := Option.map_eq_some_iff.mp g
  obtain ⟨b', e1, e2⟩ := kit_all t a
  rw [e1] at hb; subst hb
  have sx : L2.TyX X.K H x (.type (tyP a)) := by
    cases get_sees st hd ha with
    | p h => exact tyP_x st.sub h
    | own h1 _ _ => exact .base (.lst h1)
  exact L2.call_isi pins s σ H _ us Q I r ⟨_, _, _, _, _, rfl, .ty _, sx, L2.kit_ty e2, q.now st (.p (.bl _))⟩

/-! ### methods -/
def rM1 (K : PySem.W.Frag) (f : M1) : V → List V → Hp → VK → Prop := fun x xs H Q => ∃ F ρ s y a b c, xs = [y] ∧ Stt F H ρ s ∧ Sees F H x a ∧ Sees F H y b ∧ m1P f a b = some c ∧ Fut K Q F H ρ (.p c) s
theorem mt_strip : MtR X "str.strip" (rM1 X.K .strip) := by
  intro pins s σ H x xs v us Q I rx r h
  obtain ⟨F, ρ, t, y, a, b, c, rfl, st, hx, hy, g, q⟩ := h
  unfold m1P at g
  split at g <;> first | contradiction | skip
  split at g
  · rename_i hz
    cases g; cases hx.str; cases hy.str
    exact L2.mt_stripChars pins s σ H _ _ v us Q I rx r ⟨_, _, rfl, rfl, hz, q.now st (.p (.str _))⟩
  · cases g
theorem mt_startswith : MtR X "str.startswith" (rM1 X.K .startswith) := by
  intro pins s σ H x xs v us Q I rx r h
  obtain ⟨F, ρ, t, y, a, b, c, rfl, st, hx, hy, g, q⟩ := h
  unfold m1P at g
  split at g <;> first | contradiction | skip
  cases g; cases hx.str; cases hy.str
  exact L2.mt_startswith pins s σ H _ _ v us Q I rx r ⟨_, _, rfl, rfl, q.now st (.p (.bl _))⟩
theorem joinFits_le {sep : Str} {ys : List Str} (h : joinFits sep ys = true) : (ys.map (·.length)).sum + ys.length * sep.length ≤ 16777216 := by
  have := of_decide_eq_true h
  omega
theorem mt_join : MtR X "str.join" (rM1 X.K .join) := by
  intro pins s σ H x xs v us Q I rx r h
  obtain ⟨F, ρ, t, y, a, b, c, rfl, st, hx, hy, g, q⟩ := h
  unfold m1P at g
  split at g <;> first | contradiction | skip
  obtain ⟨zs, g1, g2⟩ := Option.bind_eq_some_iff.mp g
  split at g2
  · rename_i hz
    cases g2; cases hx.str
    obtain ⟨p1, vs, e1, h1, r1, z1⟩ := hy.lst st.sub
    subst e1
    have e2 := allStr_has g1 r1
    subst e2
    exact L2.mt_join pins s σ H _ _ v us Q I rx r ⟨_, p1, zs, rfl, rfl, .inl (SqL.of h1), joinFits_le hz, q.now st (.p (.str _))⟩
  · cases g2
theorem mt_partition : MtR X "str.partition" (rM1 X.K .partition) := by
  intro pins s σ H x xs v us Q I rx r h
  obtain ⟨F, ρ, t, y, a, b, c, rfl, st, hx, hy, g, q⟩ := h
  unfold m1P at g
  split at g <;> first | contradiction | skip
  split at g
  · rename_i hz
    cases g; cases hx.str; cases hy.str
    refine L2.mt_partition pins s σ H _ _ v us Q I rx r ⟨_, _, rfl, rfl, hz.1, hz.2, fun p hp => ?_⟩
    exact q.new st hp (.tup upd_same (by simp only [List.length_cons, List.length_nil, sizeLine_eq]; omega) (.cons (.str _) (.cons (.str _) (.cons (.str _) .nil))))
  · cases g
def rApp (K : PySem.W.Frag) : V → List V → Hp → VK → Prop := fun x xs H Q => ∃ F ρ s y d e c s', xs = [y] ∧ Stt F H ρ s ∧ HasD K F ρ x d ∧ HasD K F ρ y e ∧ appD d e s = .ok c s' ∧ Fut K Q F H ρ c s'
theorem mt_app : MtM X "list.append" (rApp X.K) := by
  intro pins s σ H x xs v us Q I rx r h
  obtain ⟨F, ρ, t, y, d, e, c, t', rfl, st, hd, he, g, q⟩ := h
  unfold appD at g
  split at g
  · split at g
    · split at g
      · rename_i ys hy hz
        cases g
        cases he with | p he =>
        cases hd with | @tmp b n hb =>
        obtain ⟨_, vs, h1, r1⟩ := st.ot _ _ b hy hb
        refine L2.mt_append pins s σ H _ _ v us Q I rx r ⟨b, vs, y, rfl, rfl, h1, by rw [r1.length]; exact hz, ?_⟩
        exact q _ _ _ (Stt.xset (List.mem_append_left _ (List.mem_of_getElem? hb))) (st.setT hb (st.free (List.mem_append_left _ (List.mem_of_getElem? hb)) h1 (fun _ _ z => nomatch z)) (fun _ z => by rw [h1] at z; cases z) (by rw [List.length_append]; exact hz) (r1.append (.cons he .nil))) _ (.p .non)
      · cases g
    · cases g
  · split at g
    · split at g
      · rename_i ys hy hz
        cases g
        cases he with | p he =>
        cases hd with | @ref b n hb =>
        obtain ⟨_, vs, h1, r1⟩ := st.om _ _ b hy hb
        refine L2.mt_append pins s σ H _ _ v us Q I rx r ⟨b, vs, y, rfl, rfl, h1, by rw [r1.length]; exact hz, ?_⟩
        exact q _ _ _ (Stt.xset (List.mem_append_right _ (List.mem_of_getElem? hb))) (st.setM hb (st.free (List.mem_append_right _ (List.mem_of_getElem? hb)) h1 (fun _ _ z => nomatch z)) (fun _ z => by rw [h1] at z; cases z) (by rw [List.length_append]; exact hz) (r1.append (.cons he .nil))) _ (.p .non)
      · cases g
    · cases g
  · cases g
def rExt (K : PySem.W.Frag) : V → List V → Hp → VK → Prop := fun x xs H Q => ∃ F ρ s y d e c s', xs = [y] ∧ Stt F H ρ s ∧ HasD K F ρ x d ∧ HasD K F ρ y e ∧ extD d e s = .ok c s' ∧ Fut K Q F H ρ c s'
theorem mt_ext : MtM X "list.extend" (rExt X.K) := by
  intro pins s σ H x xs v us Q I rx r h
  obtain ⟨F, ρ, t, y, d, e, c, t', rfl, st, hd, he, g, q⟩ := h
  unfold extD at g
  split at g
  · split at g
    · split at g
      · rename_i ys hy hz
        cases g
        cases he with | p he =>
        cases he with | @lst p2 ws _ h2 _ r2 =>
        cases hd with | @tmp b n hb =>
        obtain ⟨_, vs, h1, r1⟩ := st.ot _ _ b hy hb
        refine L2.mt_extend pins s σ H _ _ v us Q I rx r ⟨b, p2, vs, ws, rfl, rfl, h1, st.sub _ _ h2, by rw [r1.length, r2.length]; exact hz, ?_⟩
        exact q _ _ _ (Stt.xset (List.mem_append_left _ (List.mem_of_getElem? hb))) (st.setT hb (st.free (List.mem_append_left _ (List.mem_of_getElem? hb)) h1 (fun _ _ z => nomatch z)) (fun _ z => by rw [h1] at z; cases z) (by rw [List.length_append]; exact hz) (r1.append r2)) _ (.p .non)
      · cases g
    · cases g
  · cases g
theorem HasPs.at {F : Hp} : ∀ {vs : List V} {xs : List P} {j : Nat} {a : P}, HasPs F vs xs → xs[j]? = some a → ∃ v, vs[j]? = some v ∧ HasP F v a
  | [], [], j, a, _, e => by simp at e
  | v :: vs, x :: xs, 0, a, h, e => by
    cases h with | cons h1 h2 =>
    simp at e
    subst e
    exact ⟨v, rfl, h1⟩
  | v :: vs, x :: xs, j + 1, a, h, e => by
    cases h with | cons h1 h2 =>
    rw [List.getElem?_cons_succ] at e ⊢
    exact HasPs.at h2 e
theorem HasPs.erase {F : Hp} : ∀ {vs : List V} {xs : List P} (j : Nat), HasPs F vs xs → HasPs F (vs.eraseIdx j) (xs.eraseIdx j)
  | [], [], j, h => by simpa using h
  | v :: vs, x :: xs, 0, h => by
    cases h with | cons h1 h2 =>
    simpa using h2
  | v :: vs, x :: xs, j + 1, h => by
    cases h with | cons h1 h2 =>
    rw [List.eraseIdx_cons_succ, List.eraseIdx_cons_succ]
    exact .cons h1 (HasPs.erase j h2)
def rPopD (K : PySem.W.Frag) : V → List V → Hp → VK → Prop := fun x xs H Q => ∃ F ρ s y d e c s', xs = [y] ∧ Stt F H ρ s ∧ HasD K F ρ x d ∧ HasD K F ρ y e ∧ popD d e s = .ok c s' ∧ Fut K Q F H ρ c s'
theorem mt_popD : MtM X "list.pop" (rPopD X.K) := by
  intro pins s σ H x xs v us Q I rx r h
  obtain ⟨F, ρ, t, y, d, e, c, t', rfl, st, hd, he, g, q⟩ := h
  unfold popD at g
  split at g
  · split at g
    · rename_i hy
      split at g
      · rename_i j hj
        split at g
        · rename_i a ha
          cases g
          cases he with | p he =>
          cases he with | int =>
          cases hd with | @tmp b n hb =>
          obtain ⟨zl, vs, h1, r1⟩ := st.ot _ _ b hy hb
          obtain ⟨v1, e1, h2⟩ := r1.at ha
          obtain ⟨k1, k2, k3, k4⟩ := L2.ixN_seq hj
          have hs := sizeLine_eq
          refine L2.mt_popAt pins s σ H _ _ v us Q I rx r ⟨b, vs, _, j, v1, rfl, rfl, h1, by omega, by omega, by rw [r1.length]; exact k1, e1, ?_⟩
          exact q _ _ _ (Stt.xset (List.mem_append_left _ (List.mem_of_getElem? hb))) (st.setT hb (st.free (List.mem_append_left _ (List.mem_of_getElem? hb)) h1 (fun _ _ z => nomatch z)) (fun _ z => by rw [h1] at z; cases z) (Nat.le_trans (List.length_eraseIdx_le ..) zl) (r1.erase j)) _ (.p h2)
        · cases g
      · cases g
    · cases g
  · cases g
end
end G7

namespace G7
open PySem PySem.Spec
variable [WW]

/-! ### a term is the text's -/
structure FE where
  at_ : Str × Option Str
  ps : List Str
structure Tabs where
  fns : List FE
  frees : List Str
  cons : List (Str × P)
  exs : List Str
  fall : Bool
  which : Bool
  cls : Bool
  fields : List Str
  dts : List (Str × List (Str × Int)) := []
structure Ct where
  N : List Str
  sc : Scope
  fn : Str → Bool
def Ct.blk (c : Ct) (scope : Scope) : Ct := ⟨c.N, L2.relS scope c.sc, fun x => scope.names.lookup x == some .cell⟩
def vis (sc : Scope) (x : Str) : Bool := match sc.names.lookup x with
  | some .local => true
  | some .cell => true
  | some .free => true
  | _ => false
def isGl (sc : Scope) (x : Str) : Bool := match sc.names.lookup x with
  | some .globalImplicit => true
  | _ => false
def okn (x : Str) : Bool := !(x == ("__debug__" : Str)) && (!(x == ("__classdict__" : Str)) && !(decide (x = "__name__")))
/-- no form that is read in another way -/
def plainE : Expr → Bool
  | .Set _ _ _ => false
  | .Starred _ _ => false
  | .Slice _ _ _ _ => false
  | .Call (.Name _ _) [] [] _ => false
  | _ => true
def plainT : Expr → Bool
  | .UnaryOp .Not _ _ => false
  | .BoolOp _ _ _ => false
  | .IfExp _ _ _ _ => false
  | .Compare _ _ _ _ => false
  | _ => true
def ckC : P → Const → Bool
  | .non, .none => true
  | .bl b, .bool c => b == c
  | .int i, .int j => decide (i = j)
  | .str x, .str y => decide (x = y)
  | _, _ => false
def sameC : P → P → Bool
  | .int i, .int j => decide (i = j)
  | .str x, .str y => decide (x = y)
  | _, _ => false
def Tabs.con (T : Tabs) (x : Str) (a : P) : Bool := T.cons.any fun q => decide (q.1 = x) && sameC q.2 a
def Tabs.free (T : Tabs) (c : Ct) (x : Str) : Bool := T.frees.any (fun y => decide (y = x)) && (isGl c.sc x && okn x)
def Tabs.fnAt (T : Tabs) (f : Nat) (x : Str) (n : Nat) : Bool := match T.fns[f]? with
  | some fe => decide (fe.at_ = (x, none)) && decide (fe.ps.length = n)
  | none => false
/-- a method of House -/
def Tabs.methAt (T : Tabs) (f : Nat) (m : Str) (n : Nat) : Bool := match T.fns[f]? with
  | some fe => T.cls && (decide (fe.at_ = (Str.ofString "House", some m)) && decide (fe.ps.length = n))
  | none => false
def ckFns (T : Tabs) (c : Ct) (n : Nat) : List Nat → List Expr → Bool
  | [], [] => true
  | f :: fs, .Name x _ :: ns => T.fnAt f x n && (isGl c.sc x && (okn x && ckFns T c n fs ns))
  | _, _ => false
def Tabs.hasF (T : Tabs) (x : Str) : Bool := T.cls && T.fields.any fun y => decide (y = x)
def b1N : B1 → Str
  | .len => "len" | .all => "all" | .any => "any" | .tuple => "tuple" | .int => "int" | .str => "str" | .max1 => "max" | .min1 => "min" | .sum => "sum"
def b2N : B2 → Str
  | .min => "min" | .max => "max" | .maxT => "max"
def m1N : M1 → Str
  | .strip => "strip" | .startswith => "startswith" | .join => "join" | .partition => "partition"
def m2N : M2 → Str
  | .count => "count" | .index => "index"
def storable (c : Ct) (x : Str) : Bool := match c.sc.names.lookup x with
  | some .local => true
  | some .cell => c.fn x
  | _ => false
def ckName (c : Ct) (i : Nat) : Expr → Bool
  | .Name x _ => decide (c.N[i]? = some x) && storable c x
  | _ => false
def ckNames (c : Ct) : List Nat → List Expr → Bool
  | [], [] => true
  | i :: is, e :: es => ckName c i e && ckNames c is es
  | _, _ => false
def ckTg (c : Ct) : Tg → Expr → Bool
  | .name i, e => ckName c i e
  | .names is, .Tuple es _ _ => ckNames c is es
  | .nest i is, .Tuple [e, .Tuple es _ _] _ _ => ckName c i e && ckNames c is es
  | _, _ => false
def Tg.slots : Tg → List Nat
  | .name i => [i]
  | .names is => is
  | .nest i is => i :: is
def isTupE : Expr → Bool
  | .Tuple _ _ _ => true
  | _ => false
def ownOf (N : List Str) (vs : List Nat) : List (Str × Nat) := vs.map fun i => (N.getD i "", i)
def notComp : Expr → Bool
  | .ListComp _ _ _ _ => false
  | .SetComp _ _ _ _ => false
  | .DictComp _ _ _ _ _ => false
  | _ => true
mutual
/-- what may stand as a test -/
def tst : E → Bool
  | .ite _ _ _ => false
  | .not a => tst a
  | .and es => tsts es
  | .or es => tsts es
  | _ => true
def tsts : Es → Bool
  | .nil => true
  | .cons e es => tst e && tsts es
end
mutual
def ckE (T : Tabs) (c : Ct) : E → Expr → Bool
  | .var i, ex0 => (match ex0 with
    | .Name x _ => decide (c.N[i]? = some x) && (vis c.sc x && okn x)
    | _ => false)
  | .con a, ex0 => (match ex0 with
    | .Constant k _ _ => ckC a k
    | _ => false)
  | .glb x a, ex0 => (match ex0 with
    | .Name y _ => decide (x = y) && (isGl c.sc y && (okn y && T.con y a))
    | _ => false)
  | .tup es, ex0 => (match ex0 with
    | .Tuple xs _ _ => ckEs T c es xs && decide (xs.length ≤ 1000)
    | _ => false)
  | .fz l, x => ckL T c l x
  | .own l, x => ckL T c l x
  | .bin op a b, ex0 => (match ex0 with
    | .BinOp x op' y _ => decide (op = op') && (ckE T c a x && ckE T c b y)
    | _ => false)
  | .neg a, ex0 => (match ex0 with
    | .UnaryOp .USub x _ => ckE T c a x
    | _ => false)
  | .cmp op a b, ex0 => (match ex0 with
    | .Compare x [op'] [y] _ => decide (op = op') && (ckE T c a x && ckE T c b y)
    | _ => false)
  | .chain o1 o2 a b d, ex0 => (match ex0 with
    | .Compare x [p1, p2] [y, z] _ => decide (o1 = p1) && (decide (o2 = p2) && (ckE T c a x && (ckE T c b y && ckE T c d z)))
    | _ => false)
  | .and es, ex0 => (match ex0 with
    | .BoolOp .And xs _ => ckEs T c es xs && !xs.isEmpty
    | _ => false)
  | .or es, ex0 => (match ex0 with
    | .BoolOp .Or xs _ => ckEs T c es xs && !xs.isEmpty
    | _ => false)
  | .not a, ex0 => (match ex0 with
    | .UnaryOp .Not x _ => ckE T c a x
    | _ => false)
  | .ite k a b, ex0 => (match ex0 with
    | .IfExp x y z _ => tst k && (ckE T c k x && (ckE T c a y && ckE T c b z))
    | _ => false)
  | .idx a i, ex0 => (match ex0 with
    | .Subscript x y _ => ckE T c a x && ckE T c i y
    | _ => false)
  | .slc a lo hi, ex0 => (match ex0 with
    | .Subscript x (.Slice l h none _) _ => ckE T c a x && (cko T c lo l && cko T c hi h)
    | _ => false)
  | .call f es, ex0 => (match ex0 with
    | .Call (.Name x _) (y :: ys) [] _ => T.fnAt f x (y :: ys).length && (isGl c.sc x && (okn x && ckEs T c es (y :: ys)))
    | _ => false)
  | .isi a t, ex0 => (match ex0 with
    | .Call (.Name x _) [y, .Name z _] [] _ => decide (x = "isinstance") && (T.free c x && (ckE T c a y && (plainE y && (decide (z = Str.ofString (tyN t)) && T.free c z))))
    | _ => false)
  | .b1 f a, ex0 => (match ex0 with
    | .Call (.Name x _) [y] [] _ => decide (x = b1N f) && (T.free c x && (ckE T c a y && plainE y))
    | _ => false)
  | .b2 f a b, ex0 => (match ex0 with
    | .Call (.Name x _) [y, z] [] _ => decide (x = b2N f) && (T.free c x && (ckE T c a y && (plainE y && (ckE T c b z && plainE z))))
    | _ => false)
  | .m1 f a b, ex0 => (match ex0 with
    | .Call (.Attribute x m p) [y] [] q => decide (m = m1N f) && ((p.endLine == q.line) && (ckE T c a x && (plainE x && (ckE T c b y && plainE y))))
    | _ => false)
  | .jr sep a y z, ex0 => (match ex0 with
    | .Call (.Attribute (.Call (.Attribute (.Constant (.str sep') _ _) j p2) [x] [] q2) r p) [.Constant (.str y') _ _, .Constant (.str z') _ _] [] q => decide (j = "join") && (decide (r = "replace") && (decide (sep' = sep) && (decide (y' = y) && (decide (z' = z) && (!(y == z) && (decide (z.length ≤ 8) && ((p2.endLine == q2.line) && ((p.endLine == q.line) && (ckE T c a x && plainE x)))))))))
    | _ => false)
  | .app a b, ex0 => (match ex0 with
    | .Call (.Attribute x m p) [y] [] q => decide (m = "append") && ((p.endLine == q.line) && (ckE T c a x && (plainE x && (ckE T c b y && plainE y))))
    | _ => false)
  | .pop a b, ex0 => (match ex0 with
    | .Call (.Attribute x m p) [y] [] q => decide (m = "pop") && ((p.endLine == q.line) && (ckE T c a x && (plainE x && (ckE T c b y && plainE y))))
    | _ => false)
  | .ext a b, ex0 => (match ex0 with
    | .Call (.Attribute x m p) [y] [] q => decide (m = "extend") && ((p.endLine == q.line) && (ckE T c a x && (plainE x && (ckE T c b y && plainE y))))
    | _ => false)
  | .nev, x => plainE x && notComp x
  | .fld a x, ex0 => (match ex0 with
    | .Attribute y z _ => decide (z = x) && (T.hasF x && (ckE T c a y && plainE y))
    | _ => false)
  | .meth f m a es, ex0 => (match ex0 with
    | .Call (.Attribute x n p) ys [] q => decide (n = m) && (!(decide (m = "__init__"))) && (T.methAt f m (ys.length + 1) && ((p.endLine == q.line) && (ckE T c a x && (plainE x && (ckEs T c es ys && decide (ys.length < 20))))))
    | _ => false)
  | .make f es, ex0 => (match ex0 with
    | .Call (.Name x _) (y :: ys) [] _ => decide (x = "House") && (T.methAt f "__init__" ((y :: ys).length + 1) && (isGl c.sc x && (okn x && ckEs T c es (y :: ys))))
    | _ => false)
  | .ownD, ex0 => (match ex0 with
    | .Dict [] [] _ => true
    | _ => false)
  | .permD, ex0 => (match ex0 with
    | .Dict [] [] _ => true
    | _ => false)
  | .perm l, x => notComp x && ckL T c l x
  | .dix a b, ex0 => (match ex0 with
    | .Subscript x y _ => ckE T c a x && ckE T c b y
    | _ => false)
  | .dlen a, ex0 => (match ex0 with
    | .Call (.Name x _) [y] [] _ => decide (x = "len") && (T.free c x && (ckE T c a y && plainE y))
    | _ => false)
  | .b1k f _ l, ex0 => (match ex0 with
    | .Call (.Name x _) [y] [] _ => decide (x = b1N f) && (T.free c x && (ckL T c l y && plainE y))
    | _ => false)
  | .m2 f a b, ex0 => (match ex0 with
    | .Call (.Attribute x m p) [y] [] q => decide (m = m2N f) && ((p.endLine == q.line) && (ckE T c a x && (plainE x && (ckE T c b y && plainE y))))
    | _ => false)
  | .lset a, ex0 => (match ex0 with
    | .Call (.Name x _) [.Call (.Name z _) [y] [] _] [] _ => decide (x = "len") && (T.free c x && (decide (z = "set") && (T.free c z && (ckE T c a y && plainE y))))
    | _ => false)
  | .gnew, ex0 => (match ex0 with
    | .Dict [] [] _ => true
    | _ => false)
  | .gget a b e, ex0 => (match ex0 with
    | .Call (.Attribute x m p) [y, z] [] q => decide (m = "get") && ((p.endLine == q.line) && (ckE T c a x && (plainE x && (ckE T c b y && (plainE y && (ckE T c e z && plainE z))))))
    | _ => false)
  | .gset a b e, ex0 => (match ex0 with
    | .Call (.Attribute x m p) [y, z] [] q => decide (m = "setdefault") && ((p.endLine == q.line) && (ckE T c a x && (plainE x && (ckE T c b y && (plainE y && (ckE T c e z && plainE z))))))
    | _ => false)
  | .sapp a b e, ex0 => (match ex0 with
    | .Call (.Attribute (.Call (.Attribute x m2 p2) [y, .List [] _] [] q2) m p) [z] [] q => decide (m2 = "setdefault") && (decide (m = "append") && ((p2.endLine == q2.line) && ((p.endLine == q.line) && (ckE T c a x && (plainE x && (ckE T c b y && (plainE y && (ckE T c e z && plainE z))))))))
    | _ => false)
  | .tget x kvs a b, ex0 => (match ex0 with
    | .Call (.Attribute (.Name y _) m p) [e, f] [] q => decide (m = "get") && (decide (x = y) && (isGl c.sc y && (okn y && (T.dts.any (fun z => decide (z = (x, kvs))) && ((p.endLine == q.line) && (ckE T c a e && (plainE e && (ckE T c b f && plainE f))))))))
    | _ => false)
  | .mkd _ _, _ => false
  | .ftab fs a es, ex0 => (match ex0 with
    | .Call (.Subscript (.List ns _) x _) (y :: ys) [] _ => ckFns T c (y :: ys).length fs ns && (decide (ns.length ≤ 1000) && (ckE T c a x && ckEs T c es (y :: ys)))
    | _ => false)
def ckL (T : Tabs) (c : Ct) : L → Expr → Bool
  | .disp es, ex0 => (match ex0 with
    | .List xs _ => ckEs T c es xs && decide (xs.length ≤ 1000)
    | _ => false)
  | .comp tg it cs elt vs, ex0 => (match ex0 with
    | .ListComp e [⟨t, i, ifs, 0⟩] scope _ => ckI T c it t i && (plainE i && (ckTg (c.blk scope) tg t && (ckIfs T (c.blk scope) cs ifs && (ckE T (c.blk scope) elt e && (L2.blkC c.N c.sc scope (ownOf c.N vs) && tg.slots.all fun j => vs.any fun k => decide (k = j))))))
    | _ => false)
  | .lof a, ex0 => (match ex0 with
    | .Call (.Name x _) [y] [] _ => decide (x = "list") && (T.free c x && (ckE T c a y && plainE y))
    | _ => false)
  | .split a b, ex0 => (match ex0 with
    | .Call (.Attribute x m p) [y] [] q => decide (m = "split") && ((p.endLine == q.line) && (ckE T c a x && (plainE x && (ckE T c b y && plainE y))))
    | _ => false)
  | .add a b, ex0 => (match ex0 with
    | .BinOp x op y _ => decide (op = .Add) && (ckE T c a x && ckE T c b y)
    | _ => false)
  | .rep a b, ex0 => (match ex0 with
    | .BinOp x op y _ => decide (op = .Mult) && (ckE T c a x && ckE T c b y)
    | _ => false)
  | .lod a, ex0 => (match ex0 with
    | .Call (.Name x _) [y] [] _ => decide (x = "list") && (T.free c x && (ckE T c a y && plainE y))
    | _ => false)
  | .rev a, ex0 => (match ex0 with
    | .Subscript x (.Slice none none (some (.UnaryOp .USub (.Constant (.int i) _ _) _)) _) _ => decide (i = 1) && ckE T c a x
    | _ => false)
  | .sset a, ex0 => (match ex0 with
    | .Call (.Name x _) [.Call (.Name z _) [y] [] _] [] _ => decide (x = "sorted") && (T.free c x && (decide (z = "set") && (T.free c z && (ckE T c a y && plainE y))))
    | _ => false)
  | .srt a, ex0 => (match ex0 with
    | .Call (.Name x _) [y] [] _ => decide (x = "sorted") && (T.free c x && (ckE T c a y && plainE y))
    | _ => false)
  | .dvl a, ex0 => (match ex0 with
    | .Call (.Name x _) [.Call (.Attribute y m p) [] [] q] [] _ => decide (x = "list") && (T.free c x && (decide (m = "values") && ((p.endLine == q.line) && (ckE T c a y && plainE y))))
    | _ => false)
  | _, _ => false
def ckI (T : Tabs) (c : Ct) : I → Expr → Expr → Bool
  | .val e, _, x => ckE T c e x
  | .dk e, _, x => ckE T c e x
  | .rng1 e, _, ex0 => (match ex0 with
    | .Call (.Name f _) [x] [] _ => decide (f = "range") && (T.free c f && (ckE T c e x && plainE x))
    | _ => false)
  | .rng2 a b, _, ex0 => (match ex0 with
    | .Call (.Name f _) [x, y] [] _ => decide (f = "range") && (T.free c f && (ckE T c a x && (plainE x && (ckE T c b y && plainE y))))
    | _ => false)
  | .enum e, t, ex0 => (match ex0 with
    | .Call (.Name f _) [x] [] _ => isTupE t && (decide (f = "enumerate") && (T.free c f && (ckE T c e x && plainE x)))
    | _ => false)
  | .zip a b, t, ex0 => (match ex0 with
    | .Call (.Name f _) [x, y] [] _ => isTupE t && (decide (f = "zip") && (T.free c f && (ckE T c a x && (plainE x && (ckE T c b y && plainE y)))))
    | _ => false)
  | .dks e, _, ex0 => (match ex0 with
    | .Call (.Attribute x m p) [] [] q => decide (m = "keys") && ((p.endLine == q.line) && (ckE T c e x && plainE x))
    | _ => false)
  | .dit e, t, ex0 => (match ex0 with
    | .Call (.Attribute x m p) [] [] q => isTupE t && (decide (m = "items") && ((p.endLine == q.line) && (ckE T c e x && plainE x)))
    | _ => false)
def ckEs (T : Tabs) (c : Ct) : Es → List Expr → Bool
  | .nil, [] => true
  | .cons e es, x :: xs => ckE T c e x && (plainE x && ckEs T c es xs)
  | _, _ => false
def cko (T : Tabs) (c : Ct) : Eo → Option Expr → Bool
  | .none, none => true
  | .some e, some x => ckE T c e x
  | _, _ => false
def ckIfs (T : Tabs) (c : Ct) : Eo → List Expr → Bool
  | .none, [] => true
  | .some e, [x] => tst e && ckE T c e x
  | _, _ => false
end

/-! ### statements -/
def lcOk (c : Ct) (y : Str) (py : Pos) (scope : Scope) (p : Pos) : Bool := match c.sc.names.lookup y with
  | some .local => (py.line == p.line) && !(scope.names.any fun (n, k) => n == y && (k == .local || k == .cell))
  | some .cell => true
  | _ => false
def isCell (c : Ct) : Expr → Bool
  | .Name x _ => decide (c.sc.names.lookup x = some .cell)
  | _ => false
def asgOk (c : Ct) : Expr → Expr → Bool
  | .Name y py, .ListComp _ _ scope p => lcOk c y py scope p
  | .Name _ _, v => notComp v
  | .Tuple ts _ _, .Tuple _ _ _ => ts.any (isCell c)
  | .Tuple _ _ _, v => notComp v
  | _, _ => false
def isFold : Expr → Bool := foldedForSure 8
def isConst : Expr → Bool := constantsAlone 8
def parName (c : Ct) (l : Nat) : Expr → Bool
  | .Name x p => (match c.sc.names.lookup x with
    | some .local => true
    | _ => false) && p.line == l
  | _ => false
def parOk (c : Ct) (ts vs : List Expr) : Bool := match ts, vs with
  | [a, b], [x, y] => parName c a.pos.line a && (parName c a.pos.line b && !(isConst x && isConst y) && !(isFold x && isFold y))
  | [a, b, d], [x, y, z] => parName c a.pos.line a && (parName c a.pos.line b && (parName c a.pos.line d && !(isConst x && (isConst y && isConst z)) && !(isFold x && (isFold y && isFold z))))
  | _, _ => false
def isCall : Expr → Bool
  | .Call _ _ _ _ => true
  | _ => false
def isLoc (c : Ct) (x : Str) : Bool := match c.sc.names.lookup x with
  | some .local => true
  | _ => false
mutual
def ckS (T : Tabs) (c : Ct) : S → Stmt → Bool
  | .nev, _ => true
  | .asg tg e, .Assign [t] v _ => ckTg c tg t && (ckE T c e v && asgOk c t v)
  | .par is es, .Assign [.Tuple ts _ _] (.Tuple vs _ _) _ => ckNames c is ts && (ckEs T c es vs && (parOk c ts vs && decide is.Nodup))
  | .fput a x e, .Assign [.Attribute y z _] v _ => decide (z = x) && (T.hasF x && (ckE T c a y && ckE T c e v))
  | .dput a b e, .Assign [.Subscript y z _] v _ => ckE T c a y && (ckE T c b z && ckE T c e v)
  | .iput a b e, .Assign [.Subscript y z _] v _ => ckE T c a y && (ckE T c b z && ckE T c e v)
  | .exp e, .Expr v _ => ckE T c e v && isCall v
  | .ret e, .Return (some v) _ => ckE T c e v
  | .ife q a b, .If v xs ys _ => tst q && (ckE T c q v && (ckSs T c a xs && ckSs T c b ys))
  | .loop tg it b, .For t i body [] _ => ckI T c it t i && (plainE i && (ckTg c tg t && ckSs T c b body))
  | .whl _ q b, .While v body [] _ => tst q && (ckE T c q v && ckSs T c b body)
  | .gfz _ st, x => ckS T c st x
  | .brk, .Break _ => true
  | .pass, .Pass _ => true
  | .rais j, .Raise (some (.Call (.Name x _) [.Constant (.str _) _ _] [] _)) none _ => decide (T.exs[j]? = some x) && (isGl c.sc x && okn x)
  | .tryW b i, .Try body [.ExceptHandler (some (.Name x _)) (some n) [.Return (some (.Call (.Name f _) [.Name n2 _] [] _)) _] _] [] [] _ =>
    T.fall && (T.which && (decide (x = "FallError") && (isGl c.sc x && (decide (f = "_law_which") && (isGl c.sc f && (decide (n = n2) && (decide (c.N[i]? = some n) && (isLoc c n && (okn n && ckSs T c b body)))))))))
  | .tryR b y, .Try body [.ExceptHandler (some (.Name x _)) none [.Return (some (.Constant (.str z) _ _)) _] _] [] [] _ =>
    T.fall && (decide (x = "FallError") && (isGl c.sc x && (decide (y = z) && ckSs T c b body)))
  | _, _ => false
def ckSs (T : Tabs) (c : Ct) : Ss → List Stmt → Bool
  | .nil, [] => true
  | .cons s ss, x :: xs => ckS T c s x && ckSs T c ss xs
  | _, _ => false
end
end G7

namespace G7
open PySem PySem.Spec
open L2 (V Hp HO St WX TE TS R2 OpR CallR MtR MtM SlR IxR Inv RelV Vals upd upd_same upd_ne ne_of_none SqL SqT Cx Room EP VK PE PT PA PI PG PO Sp XK It TI TG FnOk)
variable [WW]

/-! ### what a term leans on -/
def xcOf (T : Tabs) (K : PySem.W.Frag) (c : Nat) : Value := match T.exs[c]? with
  | some x => .ref (He.ga K x)
  | none => .none
/-- a def's promise -/
def spD (K : PySem.W.Frag) (xc : Nat → Value) (f : List D → Sto → R D) (n : Nat) : Sp := fun vs H Q E =>
  vs.length = n ∧ ∃ F ρ s ds, ρ.C = He.ga K (Str.ofString "House") ∧ Stt F H ρ s ∧ HasDs K F ρ vs ds ∧ RP xc (fun cls d _ H => E cls d H) [] F H ρ (f ds s) (CV K Q)
/-- a table of the module -/
def TabOk (K : PySem.W.Frag) (mg : Str → Option Value) (q : Str × List (Str × Int)) : Prop := ∃ dd es n, mg q.1 = some (.ref dd) ∧ L2.KDict K WW.w dd es n ∧
  ∀ z, match q.2.lookup z with | some i => ∃ t, PySem.W.nsIn K dd z = some (some (.int i t)) | none => PySem.W.nsIn K dd z = some none
structure XE (T : Tabs) (G : Fns) (k : Nat) (c : Ct) (W : WX) (X : Cx) : Prop where
  hN : X.N = c.N
  nd : c.N.Nodup
  sc : X.env.scope = c.sc
  fn : X.fn = c.fn
  calm : X.calm = true
  room1 : Room (k + 1) X.A
  free : ∀ x ∈ T.frees, X.mg x = none
  con : ∀ q ∈ T.cons, ∃ u v, X.mg q.1 = some u ∧ RelV v u ∧ HasP (fun _ => none) v q.2
  fns : ∀ (f : Nat) (fe : FE), T.fns[f]? = some fe → fe.at_.2 = none → ∃ fd, FnOk X.prog X.w X.K X.mg X.base (L2N.CX X.prog X.w) k (He.fAd X.K fe.at_) fd fe.ps (spD X.K (xcOf T X.K) (G f) fe.ps.length) ∧
    L2.Binds X.K fd fe.ps [] ∧ X.mg fe.at_.1 = some (.ref (He.fAd X.K fe.at_)) ∧ PySem.W.keepIn X.K (.ref (He.fAd X.K fe.at_)) = true
  tk : L2N.Takes X W
  ww : WW.w = X.w
  cls : T.cls = true → L2.Cls X.K (He.ga X.K (Str.ofString "House")) ∧ X.mg (Str.ofString "House") = some (.ref (He.ga X.K (Str.ofString "House")))
  noat : T.cls = true → ∀ x ∈ T.fields, L2.NoAttr X.K (He.ga X.K (Str.ofString "House")) x
  tab : ∀ q ∈ T.dts, TabOk X.K X.mg q
  mth : T.cls = true → ∀ (f : Nat) (fe : FE) (m : Str), T.fns[f]? = some fe → fe.at_ = (Str.ofString "House", some m) → ∃ fd, FnOk X.prog X.w X.K X.mg X.base (L2N.CX X.prog X.w) k (He.fAd X.K fe.at_) fd fe.ps (spD X.K (xcOf T X.K) (G f) fe.ps.length) ∧
    L2.Binds X.K fd fe.ps [] ∧ (m ≠ Str.ofString "__init__" → L2.Meth X.K (He.ga X.K (Str.ofString "House")) m (He.fAd X.K fe.at_)) ∧ (m = Str.ofString "__init__" → L2.Mk X.K (He.ga X.K (Str.ofString "House")) (He.fAd X.K fe.at_))
theorem takes0 {X : Cx} : L2N.Takes X (fun _ _ _ _ => False) := fun _ _ x => by
  obtain ⟨_, _, _, _, _, _, _, _, _, _, _, _, _, _, _, _, z⟩ := x
  exact z.elim
theorem XE.room {T : Tabs} {G : Fns} {k : Nat} {c : Ct} {W : WX} {X : Cx} (h : XE T G k c W X) : Room k X.A := h.room1.mono (Nat.le_succ k)
theorem XE.units {T : Tabs} {G : Fns} {k : Nat} {c : Ct} {W : WX} {X : Cx} (h : XE T G k c W X) : X.A.units + 64 < cLine := h.room.units
theorem ba {a b : Bool} (h : (a && b) = true) : a = true ∧ b = true := Bool.and_eq_true_iff.mp h
section
variable {T : Tabs} {G : Fns} {k : Nat} {c : Ct} {W : WX} {X : Cx}
theorem XE.vis (h : XE T G k c W X) {x : Str} (hv : vis c.sc x = true) : L2.Vis X.env.scope x := by
  rw [h.sc]
  unfold G7.vis at hv
  split at hv
  · rename_i e; exact .inl e
  · rename_i e; exact .inr (.inl e)
  · rename_i e; exact .inr (.inr e)
  · cases hv
theorem XE.gl (h : XE T G k c W X) {x : Str} (hv : isGl c.sc x = true) : L2.Gl X x := by
  unfold isGl at hv
  split at hv
  · rename_i e
    show X.env.scope.names.lookup x = _
    rw [h.sc]; exact e
  · cases hv
theorem okn1 {x : Str} (h : okn x = true) : (x == ("__debug__" : Str)) = false ∧ (x == ("__classdict__" : Str)) = false ∧ x ≠ "__name__" := by
  obtain ⟨h1, h2⟩ := ba h
  obtain ⟨h2, h3⟩ := ba h2
  exact ⟨by simpa using h1, by simpa using h2, fun e => by rw [e] at h3; simp at h3⟩
theorem XE.isFree (h : XE T G k c W X) {x : Str} (hv : T.free c x = true) : L2.Gl X x ∧ X.mg x = none ∧ (x == ("__debug__" : Str)) = false ∧ x ≠ "__name__" := by
  obtain ⟨h1, h2⟩ := ba hv
  obtain ⟨h2, h3⟩ := ba h2
  obtain ⟨y, hy, e⟩ := List.any_eq_true.mp h1
  have e := of_decide_eq_true e
  subst e
  exact ⟨h.gl h2, h.free y hy, (okn1 h3).1, (okn1 h3).2.2⟩
/-- in a comprehension's block -/
theorem XE.blk (h : XE T G k c W X) (scope : Scope) (s : Shared) (H : Hp) (C : Addr) (cl : List (Str × Addr)) (fp : List Addr) :
    XE T G k (c.blk scope) (fun _ _ _ _ => False) (X.blk s H scope (compEnvC scope cl C X.env) fp) where
  hN := h.hN
  nd := h.nd
  sc := by
    show relabel scope X.env = L2.relS scope c.sc
    rw [← h.sc]; rfl
  fn := rfl
  calm := h.calm
  room1 := h.room1
  free := h.free
  con := h.con
  fns := h.fns
  tk := takes0
  ww := h.ww
  cls := h.cls
  noat := h.noat
  tab := h.tab
  mth := h.mth
end
theorem PE.imp {X : Cx} {e : Expr} {t t' : TE} (h : PE X e t) (g : ∀ σ H Q, t' σ H Q → t σ H Q) : PE X e t' := ⟨fun pins s σ H Q I q => h.run pins s σ H Q I (g σ H Q q)⟩
theorem PT.imp {X : Cx} {e : Expr} {t t' : L2.TT} (h : PT X e t) (g : ∀ σ H Q, t' σ H Q → t σ H Q) : PT X e t' := ⟨fun pins s σ H Q I q => h.run pins s σ H Q I (g σ H Q q)⟩
theorem PA.imp {X : Cx} {e : List Expr} {t t' : L2.TA} (h : PA X e t) (g : ∀ σ H Q, t' σ H Q → t σ H Q) : PA X e t' := ⟨fun pos pins s σ H Q I q => h.run pos pins s σ H Q I (g σ H Q q)⟩
theorem PI.imp {X : Cx} {tg e : Expr} {t t' : TI} (h : PI X tg e t) (g : ∀ σ H Q, t' σ H Q → t σ H Q) : PI X tg e t' := ⟨fun pins s σ H Q I q => h.run pins s σ H Q I (g σ H Q q)⟩
theorem PI.or {X : Cx} {tg e : Expr} {t t' : TI} (h : PI X tg e t) (h' : PI X tg e t') : PI X tg e (fun σ H R => t σ H R ∨ t' σ H R) := ⟨fun pins s σ H Q I q => by
  rcases q with q | q
  · exact h.run pins s σ H Q I q
  · exact h'.run pins s σ H Q I q⟩
theorem PO.imp {X : Cx} {e : Option Expr} {t t' : L2.TO} (h : PO X e t) (g : ∀ σ H Q, t' σ H Q → t σ H Q) : PO X e t' := ⟨fun pins s σ H Q I q => h.run pins s σ H Q I (g σ H Q q)⟩

/-! ### one, two terms -/
section
variable {K : PySem.W.Frag} {xc : Nat → Value} {W : WX} {σ : St} {H : Hp} {Q : VK} {fa fb fc : Sl → Sto → R D}
theorem t_one {g : D → Sto → R D} {r : V → Hp → VK → Prop} (h : tE K xc W (fun τ s => (fa τ s).bind fun d s => g d s) σ H Q)
    (fin : ∀ x d F H ρ s, Stt F H ρ s → HasD K F ρ x d → RP xc W σ F H ρ (g d s) (CV K Q) → r x H Q) : tE K xc W fa σ H fun x H1 => r x H1 Q := by
  obtain ⟨F, ρ, τ, s, st, sl, h⟩ := h
  exact ⟨F, ρ, τ, s, st, sl, h.bind.imp fun d s1 F1 H1 ρ1 e1 st1 h1 x hx => fin x d F1 H1 ρ1 s1 st1 hx h1⟩
theorem t_two {g : D → D → Sto → R D} {r : R2} (h : tE K xc W (fun τ s => (fa τ s).bind fun d s => (fb τ s).bind fun e s => g d e s) σ H Q)
    (fin : ∀ x y d e F H ρ s, Stt F H ρ s → HasD K F ρ x d → HasD K F ρ y e → RP xc W σ F H ρ (g d e s) (CV K Q) → r x y H Q) :
    tE K xc W fa σ H fun x H1 => tE K xc W fb σ H1 fun y H2 => r x y H2 Q := by
  obtain ⟨F, ρ, τ, s, st, sl, h⟩ := h
  refine ⟨F, ρ, τ, s, st, sl, h.bind.imp fun d s1 F1 H1 ρ1 e1 st1 h1 x hx => ?_⟩
  refine ⟨F1, ρ1, τ, s1, st1, sl.mono e1, h1.bind.imp fun e s2 F2 H2 ρ2 e2 st2 h2 y hy => ?_⟩
  exact fin x y d e F2 H2 ρ2 s2 st2 (HasD.mono e2 _ _ hx) hy h2
end
section
variable {T : Tabs} {G : Fns} {k : Nat} {c : Ct} {W : WX} {X : Cx} {xc : Nat → Value} {a b d : Expr} {fa fb fc : Sl → Sto → R D} {pos : Pos}
theorem s_con {p : P} {q : Const} {j : Nat} (h : ckC p q = true) : PE X (.Constant q j pos) (tE X.K xc W (fun _ s => .ok (.p p) s)) := by
  unfold ckC at h
  split at h
  · exact PE.imp L2.pe_non fun σ H Q ⟨F, ρ, τ, s, st, sl, h⟩ => h.now st _ (.p .non)
  · have e := eq_of_beq h
    subst e
    exact PE.imp L2.pe_bl fun σ H Q ⟨F, ρ, τ, s, st, sl, h⟩ => h.now st _ (.p (.bl _))
  · have e := of_decide_eq_true h
    subst e
    exact PE.imp L2.pe_int fun σ H Q ⟨F, ρ, τ, s, st, sl, h⟩ => h.now st _ (.p (.int _))
  · have e := of_decide_eq_true h
    subst e
    exact PE.imp L2.pe_str fun σ H Q ⟨F, ρ, τ, s, st, sl, h⟩ => h.now st _ (.p (.str _))
  · cases h
theorem s_var (hX : XE T G k c W X) {i : Nat} {x : Str} (h1 : c.N[i]? = some x) (h2 : vis c.sc x = true) (h3 : okn x = true) : PE X (.Name x pos) (tE X.K xc W (ev G (.var i))) := by
  refine PE.imp (L2.pe_var (i := i) (by rw [hX.hN]; exact h1) (hX.vis h2) (okn1 h3).1 (okn1 h3).2.1) fun σ H Q ⟨F, ρ, τ, s, st, sl, h⟩ => ?_
  unfold ev at h
  cases e : τ[i]? with
  | none => rw [e] at h; exact h.elim
  | some o =>
    cases o with
    | none => rw [e] at h; exact h.elim
    | some d =>
      rw [e] at h
      obtain ⟨v, hv, hd⟩ := sl.at_ i d e
      exact ⟨v, hv, h.now st v hd⟩
theorem sameC_has {F : Hp} {v : V} {p q : P} (h : sameC p q = true) (hv : HasP (fun _ => none) v p) : HasP F v q := by
  unfold sameC at h
  split at h
  · have e := of_decide_eq_true h; subst e; cases hv; exact .int _
  · have e := of_decide_eq_true h; subst e; cases hv; exact .str _
  · cases h
theorem s_glb (hX : XE T G k c W X) {x : Str} {p : P} (h1 : isGl c.sc x = true) (h2 : okn x = true) (h3 : T.con x p = true) : PE X (.Name x pos) (tE X.K xc W (fun _ s => .ok (.p p) s)) := by
  obtain ⟨q, hq, e⟩ := List.any_eq_true.mp h3
  obtain ⟨e1, e2⟩ := ba e
  have e1 := of_decide_eq_true e1
  obtain ⟨u, v, hm, hr, hv⟩ := hX.con q hq
  rw [e1] at hm
  exact PE.imp (L2.pe_glob (hX.gl h1) hm hr (okn1 h2).1) fun σ H Q ⟨F, ρ, τ, s, st, sl, h⟩ => h.now st v (.p (sameC_has e2 hv))
theorem s_bin {op : Operator} (ha : PE X a (tE X.K xc W fa)) (hb : PE X b (tE X.K xc W fb)) : PE X (.BinOp a op b pos) (tE X.K xc W fun σ s => (fa σ s).bind fun d s => (fb σ s).bind fun e s => (match s.get d, s.get e with
    | some x, some y => R.of ((binP op x y).map .p) s
    | _, _ => .bad)) := by
  refine PE.imp (L2.pe_op (op_bin op) ha hb) fun σ H Q h => ?_
  refine t_two (r := rBin X.K op) h fun x y d e F H ρ s st hx hy h => ?_
  split at h
  · rename_i p q e1 e2
    obtain ⟨r, e3, h⟩ := h.of
    obtain ⟨c, e4, rfl⟩ := Option.map_eq_some_iff.mp e3
    exact ⟨F, ρ, s, p, q, c, st, get_sees st hx e1, get_sees st hy e2, e4, h.fut⟩
  · exact h.elim
theorem s_neg (ha : PE X a (tE X.K xc W fa)) : PE X (.UnaryOp .USub a pos) (tE X.K xc W fun σ s => (fa σ s).bind fun d s => (match d with
    | .p (.int i) => .ok (.p (.int (-i))) s
    | _ => .bad)) := by
  refine PE.imp (L2.pe_un L2.un_neg ha) fun σ H Q h => ?_
  refine t_one (r := L2.rU fun i => .int (-i)) h fun x d F H ρ s st hx h => ?_
  split at h
  · cases hx.int
    exact ⟨_, rfl, h.now st _ (.p (.int _))⟩
  · exact h.elim
theorem cmp_ok {op : CmpOp} {d e : D} {s : Sto} {K : PySem.W.Frag} {σ : St} {F H : Hp} {ρ : Rho} {Q : VK} (h : RP xc W σ F H ρ (cmpD op d e s) (CV K Q)) : ∃ k, cmpD op d e s = .ok (.p (.bl k)) s ∧ Fut K Q F H ρ (.p (.bl k)) s := by
  cases g : cmpD op d e s with
  | bad => rw [g] at h; exact h.elim
  | exc n s' =>
    exfalso
    unfold cmpD at g
    split at g
    · cases g
    · cases g
    · split at g
      · rename_i a b _ _
        cases q : (cmpP op a b).map (fun k => D.p (.bl k)) with
        | none => rw [q] at g; cases g
        | some r => rw [q] at g; cases g
      · split at g
        all_goals first | (cases g; done) | (split at g <;> cases g)
      · cases g
  | ok r s' =>
    rw [g] at h
    rcases cmpD_get g with ⟨_, _, e1, e2⟩ | ⟨_, _, e1, e2⟩ | ⟨_, _, k, _, _, _, e1, e2⟩ | ⟨_, _, _, _, _, _, e1, e2⟩ | ⟨_, _, _, _, e1, e2⟩
    · subst e1; subst e2; exact ⟨_, rfl, h.fut⟩
    · subst e1; subst e2; exact ⟨_, rfl, h.fut⟩
    · subst e1; subst e2; exact ⟨_, rfl, h.fut⟩
    · rcases e1 with ⟨_, e1⟩ | ⟨_, e1⟩
      · subst e1; subst e2; exact ⟨_, rfl, h.fut⟩
      · subst e1; subst e2; exact ⟨_, rfl, h.fut⟩
    · rcases e1 with ⟨_, e1⟩ | ⟨_, e1⟩
      · subst e1; subst e2; exact ⟨_, rfl, h.fut⟩
      · subst e1; subst e2; exact ⟨_, rfl, h.fut⟩
theorem s_cmp (hw : WW.w = X.w) (hu : X.A.units + 64 < cLine) {op : CmpOp} (ha : PE X a (tE X.K xc W fa)) (hb : PE X b (tE X.K xc W fb)) (hm : behindInMarks op b = false) :
    PE X (.Compare a [op] [b] pos) (tE X.K xc W fun σ s => (fa σ s).bind fun d s => (fb σ s).bind fun e s => cmpD op d e s) := by
  refine PE.imp (L2.pe_cmpR (op_cmp hw hu op) ha hb hm) fun σ H Q h => ?_
  refine t_two (r := rCmp X.K op) h fun x y d e F H ρ s st hx hy h => ?_
  obtain ⟨k, e1, h⟩ := cmp_ok h
  exact ⟨F, ρ, s, d, e, _, s, st, hx, hy, e1, h⟩
theorem t_test {f : Sl → Sto → R D} {K : PySem.W.Frag} {σ : St} {H : Hp} {Q : Bool → Hp → Prop} (h : tT K xc W f σ H Q) : tE K xc W f σ H fun x H' => ∃ k, x = .bl k ∧ Q k H' := by
  obtain ⟨F, ρ, τ, s, st, sl, h⟩ := h
  refine ⟨F, ρ, τ, s, st, sl, h.imp fun d s1 F1 H1 ρ1 e1 st1 h1 x hx => ?_⟩
  obtain ⟨b, rfl, q⟩ := h1
  cases hx.bl
  exact ⟨b, rfl, q⟩
theorem s_cmpT (hw : WW.w = X.w) (hu : X.A.units + 64 < cLine) {op : CmpOp} (ha : PE X a (tE X.K xc W fa)) (hb : PE X b (tE X.K xc W fb)) (hm : behindInMarks op b = false) :
    PT X (.Compare a [op] [b] pos) (tT X.K xc W fun σ s => (fa σ s).bind fun d s => (fb σ s).bind fun e s => cmpD op d e s) := by
  refine PT.imp (L2.pt_cmpR (op_cmp hw hu op) ha hb hm) fun σ H Q h => ?_
  refine t_two (Q := fun x H' => ∃ k, x = .bl k ∧ Q k H') (r := rCmp X.K op) (t_test h) fun x y d e F H ρ s st hx hy h => ?_
  obtain ⟨k, e1, h⟩ := cmp_ok h
  exact ⟨F, ρ, s, d, e, _, s, st, hx, hy, e1, h⟩
theorem t_chain {o1 o2 : CmpOp} {K : PySem.W.Frag} {σ : St} {H : Hp} {Q : VK} (h : tE K xc W (fun σ s => (fa σ s).bind fun d s => (fb σ s).bind fun e s => (cmpD o1 d e s).bind fun k s => (match k with
    | .p (.bl true) => (fc σ s).bind fun f s => cmpD o2 e f s
    | .p (.bl false) => .ok (.p (.bl false)) s
    | _ => .bad)) σ H Q) : L2.tChain (rCmp K o1) (rCmp K o2) (tE K xc W fa) (tE K xc W fb) (tE K xc W fc) σ H Q := by
  obtain ⟨F, ρ, τ, s, st, sl, h⟩ := h
  refine ⟨F, ρ, τ, s, st, sl, h.bind.imp fun d s1 F1 H1 ρ1 e1 st1 h1 x hx => ?_⟩
  refine ⟨F1, ρ1, τ, s1, st1, sl.mono e1, h1.bind.imp fun e s2 F2 H2 ρ2 e2 st2 h2 y hy => ?_⟩
  cases g : cmpD o1 d e s2 with
  | bad => rw [g] at h2; exact h2.elim
  | exc n s' =>
    rw [g] at h2
    obtain ⟨k, g', _⟩ := cmp_ok (K := K) (xc := xc) (W := fun _ _ _ _ => True) (Q := fun _ _ => True) (σ := σ) (F := F2) (H := H2) (ρ := ρ2) (s := s2) (op := o1) (d := d) (e := e) (by rw [g]; intro _ _ _ _ _; trivial)
    rw [g] at g'; cases g'
  | ok r s' =>
    rw [g] at h2
    obtain ⟨k, g', _⟩ := cmp_ok (K := K) (xc := xc) (W := fun _ _ _ _ => True) (Q := fun _ _ => True) (σ := σ) (F := F2) (H := H2) (ρ := ρ2) (s := s2) (op := o1) (d := d) (e := e) (by rw [g]; intro _ _ _ _ _ _ _; trivial)
    rw [g] at g'; cases g'
    refine ⟨F2, ρ2, s2, d, e, _, s2, st2, HasD.mono e2 _ _ hx, hy, g, fun F3 H3 ρ3 e3 st3 z hz => ?_⟩
    cases hz.bl
    refine ⟨k, rfl, ?_⟩
    cases k with
    | true =>
      rw [if_pos rfl]
      refine ⟨F3, ρ3, τ, s2, st3, ((sl.mono e1).mono e2).mono e3, ((RP.mono (show RP xc W σ F2 H2 ρ2 ((fc τ s2).bind fun f s => cmpD o2 e f s) (CV K Q) from h2) e3).bind).imp fun f s4 F4 H4 ρ4 e4 st4 h4 w hw => ?_⟩
      obtain ⟨k', g4, h4⟩ := cmp_ok h4
      exact ⟨F4, ρ4, s4, e, f, _, s4, st4, HasD.mono (e3.trans e4) _ _ hy, hw, g4, h4⟩
    | false =>
      rw [if_neg (by decide)]
      exact (RP.mono (show RP xc W σ F2 H2 ρ2 (.ok (.p (.bl false)) s2) (CV K Q) from h2) e3).now st3 _ (.p (.bl false))
theorem s_chain (hw : WW.w = X.w) (hu : X.A.units + 64 < cLine) {o1 o2 : CmpOp} (ha : PE X a (tE X.K xc W fa)) (hb : PE X b (tE X.K xc W fb)) (hd : PE X d (tE X.K xc W fc)) (hm : lastMarks [o1, o2] [b, d] = false) :
    PE X (.Compare a [o1, o2] [b, d] pos) (tE X.K xc W fun σ s => (fa σ s).bind fun d s => (fb σ s).bind fun e s => (cmpD o1 d e s).bind fun k s => (match k with
    | .p (.bl true) => (fc σ s).bind fun f s => cmpD o2 e f s
    | .p (.bl false) => .ok (.p (.bl false)) s
    | _ => .bad)) :=
  PE.imp (L2.pe_chain (op_cmp hw hu o1) (op_cmp hw hu o2) ha hb hd hm) fun σ H Q h => t_chain h
theorem s_chainT (hw : WW.w = X.w) (hu : X.A.units + 64 < cLine) {o1 o2 : CmpOp} (ha : PE X a (tE X.K xc W fa)) (hb : PE X b (tE X.K xc W fb)) (hd : PE X d (tE X.K xc W fc)) (hm : lastMarks [o1, o2] [b, d] = false) :
    PT X (.Compare a [o1, o2] [b, d] pos) (tT X.K xc W fun σ s => (fa σ s).bind fun d s => (fb σ s).bind fun e s => (cmpD o1 d e s).bind fun k s => (match k with
    | .p (.bl true) => (fc σ s).bind fun f s => cmpD o2 e f s
    | .p (.bl false) => .ok (.p (.bl false)) s
    | _ => .bad)) :=
  PT.imp (L2.pt_chain (op_cmp hw hu o1) (op_cmp hw hu o2) ha hb hd hm) fun σ H Q h => t_chain (t_test h)
theorem s_not (ha : PE X a (tE X.K xc W fa)) : PE X (.UnaryOp .Not a pos) (tE X.K xc W fun σ s => (fa σ s).bind fun d s => (match d with
    | .p (.bl b) => .ok (.p (.bl (!b))) s
    | _ => .bad)) := by
  refine PE.imp (L2.pe_not ha) fun σ H Q h => ?_
  refine t_one (r := fun x H1 Q => ∃ c, x = .bl c ∧ Q (.bl (!c)) H1) h fun x d F H ρ s st hx h => ?_
  split at h
  · cases hx.bl
    exact ⟨_, rfl, h.now st _ (.p (.bl _))⟩
  · exact h.elim
theorem s_notT (ha : PT X a (tT X.K xc W fa)) : PT X (.UnaryOp .Not a pos) (tT X.K xc W fun σ s => (fa σ s).bind fun d s => (match d with
    | .p (.bl b) => .ok (.p (.bl (!b))) s
    | _ => .bad)) := by
  refine PT.imp (L2.pt_not ha) fun σ H Q ⟨F, ρ, τ, s, st, sl, h⟩ => ?_
  refine ⟨F, ρ, τ, s, st, sl, h.bind.imp fun d s1 F1 H1 ρ1 e1 st1 h1 => ?_⟩
  split at h1
  · obtain ⟨b, e, q⟩ := h1.now st1
    cases e
    exact ⟨_, rfl, q⟩
  · exact h1.elim
theorem s_ite {fk : Sl → Sto → R D} {k : Expr} (hk : PT X k (tT X.K xc W fk)) (ha : PE X a (tE X.K xc W fa)) (hb : PE X b (tE X.K xc W fb)) : PE X (.IfExp k a b pos) (tE X.K xc W fun σ s => (fk σ s).bind fun d s => (match d with
    | .p (.bl true) => fa σ s
    | .p (.bl false) => fb σ s
    | _ => .bad)) := by
  refine PE.imp (L2.pe_ifExp hk ha hb) fun σ H Q ⟨F, ρ, τ, s, st, sl, h⟩ => ?_
  refine ⟨F, ρ, τ, s, st, sl, h.bind.imp fun d s1 F1 H1 ρ1 e1 st1 h1 => ?_⟩
  split at h1
  · exact ⟨true, rfl, L2.iteT ⟨F1, ρ1, τ, s1, st1, sl.mono e1, h1⟩⟩
  · exact ⟨false, rfl, L2.iteF ⟨F1, ρ1, τ, s1, st1, sl.mono e1, h1⟩⟩
  · exact h1.elim
theorem s_idx (ha : PE X a (tE X.K xc W fa)) (hb : PE X b (tE X.K xc W fb)) (hp : L2.PlainIx b) : PE X (.Subscript a b pos) (tE X.K xc W fun σ s => (fa σ s).bind fun d s => (fb σ s).bind fun e s => idxD d e s) := by
  refine PE.imp (L2.pe_ix ix_idx ha hb hp) fun σ H Q h => ?_
  refine t_two (r := rIdx X.K) h fun x y d e F H ρ s st hx hy h => ?_
  cases g : idxD d e s with
  | bad => rw [g] at h; exact h.elim
  | exc n s' =>
    exfalso
    unfold idxD at g
    split at g
    · rename_i xs j
      cases q : (L2.atI xs j).map (fun i => D.p (.int i)) with
      | none => rw [q] at g; cases g
      | some r => rw [q] at g; cases g
    · rename_i xs j
      cases q : L2.atI xs j with
      | none => rw [q] at g; cases g
      | some r => rw [q] at g; cases g
    · split at g
      · rename_i j _ _ _ p _
        cases q : (atP p j).map D.p with
        | none => rw [q] at g; cases g
        | some r => rw [q] at g; cases g
      · cases g
    · cases g
  | ok r s' =>
    rw [g] at h
    exact ⟨F, ρ, s, d, e, r, s', st, hx, hy, g, h.fut⟩
theorem s_slc {fl fh : Sl → Sto → R (Option Int)} {lo hi : Option Expr} {p2 : Pos} {tl th : L2.TO} (ha : PE X a (tE X.K xc W fa)) (hl : PO X lo tl) (hh : PO X hi th)
    (gl : ∀ σ H Q, (∃ F ρ τ s, Stt F H ρ s ∧ SlOk X.K F ρ σ τ ∧ RP xc W σ F H ρ (fl τ s) (fun o s F H ρ => Q o H)) → tl σ H Q)
    (gh : ∀ σ H Q, (∃ F ρ τ s, Stt F H ρ s ∧ SlOk X.K F ρ σ τ ∧ RP xc W σ F H ρ (fh τ s) (fun o s F H ρ => Q o H)) → th σ H Q) :
    PE X (.Subscript a (.Slice lo hi none p2) pos) (tE X.K xc W fun σ s => (fa σ s).bind fun d s => (fl σ s).bind fun l s => (fh σ s).bind fun h s => (match s.get d with
    | some x => R.of ((slcP x l h).map .p) s
    | none => .bad)) := by
  refine PE.imp (L2.pe_slice sl_slc ha hl hh) fun σ H Q ⟨F, ρ, τ, s, st, sl, h⟩ => ?_
  refine ⟨F, ρ, τ, s, st, sl, h.bind.imp fun d s1 F1 H1 ρ1 e1 st1 h1 x hx => ?_⟩
  refine gl _ _ _ ⟨F1, ρ1, τ, s1, st1, sl.mono e1, h1.bind.imp fun l s2 F2 H2 ρ2 e2 st2 h2 => ?_⟩
  refine gh _ _ _ ⟨F2, ρ2, τ, s2, st2, (sl.mono e1).mono e2, h2.bind.imp fun r s3 F3 H3 ρ3 e3 st3 h3 => ?_⟩
  have hx := HasD.mono e3 _ _ (HasD.mono e2 _ _ hx)
  split at h3
  · rename_i p hp
    obtain ⟨q, e4, h4⟩ := h3.of
    obtain ⟨w, e5, rfl⟩ := Option.map_eq_some_iff.mp e4
    exact ⟨F3, ρ3, s3, p, w, st3, get_sees st3 hx hp, e5, h4.fut⟩
  · exact h3.elim
end
end G7

/-! orders: tuples and lists whose first unlike items can be compared, the later ones perhaps not -/
namespace G7O
open PySem PySem.SeqAt
open AutoSeq1 (wpAny_loadPart')
open MeetsSeq MeetsSeq2 MeetsSeq3 SeqRoads2
/-- where all ahead are the same, the items can be compared -/
def Fst (op : CmpOp) (A : Around) (s : Shared) (xs ys : Array Value) (e r : Nat → Bool) : Prop :=
  ∀ j (h1 : j < xs.size) (h2 : j < ys.size), (∀ i, i < j → e i = true) → e j = false → RcOp op A s xs[j] ys[j] (r j)
def Eqs (A : Around) (s : Shared) (xs ys : Array Value) (e : Nat → Bool) : Prop := ∀ j (h1 : j < xs.size) (h2 : j < ys.size), EqAt A s xs[j] ys[j] (e j)
section
variable (l m : Addr) (xs ys : Array Value) (p q : Nat) (d1 d2 : Option Addr) (s1 s2 : Array (Option Value)) (e r : Nat → Bool)
theorem drop_range {k i : Nat} (h : i < k) : (List.range k).drop i = i :: (List.range k).drop (i + 1) := by
  rw [List.drop_eq_getElem_cons (by simpa using h)]; simp
theorem tupLt : Meets (Builtin.«tuple.__lt__» ⟨[.ref l, .ref m], []⟩)
    (fun A R s => s.heap.get? l = some { cls := .type "tuple", dict := d1, data := .seq xs p, slots := s1 } ∧ s.heap.get? m = some { cls := .type "tuple", dict := d2, data := .seq ys q, slots := s2 } ∧
      Eqs A.in1 s xs ys e ∧ Fst .Lt A.in1 s xs ys e r ∧ R (.ok (.ret (.bool (firstLt e r (decide (xs.size < ys.size)) (List.range (min xs.size ys.size)))))) s) :=
  .of_wp fun prog w A R s hh => by
    obtain ⟨hp, g, d, tk, os⟩ := s
    obtain ⟨gl, gm, ee, ff, done⟩ := hh
    have ok := AutoSeq1.sub_tuple_tuple
    have len : (xs.toList.zip ys.toList).length = min xs.size ys.size := by simp
    wp_walk using wpAny_loadPart' gl, wpAny_loadPart' gm, wpAny_forIn_list _ (fun left acc t => acc.1 = none ∧ t = ⟨hp, g, d, tk, os⟩ ∧ ∃ i, left = (xs.toList.zip ys.toList).drop i ∧ (∀ k, k < i → e k = true) ∧
      R (.ok (.ret (.bool (firstLt e r (decide (xs.size < ys.size)) ((List.range (min xs.size ys.size)).drop i))))) ⟨hp, g, d, tk, os⟩) _
    case turn =>
      rintro ⟨u, v⟩ left acc t ⟨ha, rfl, i, hz, al, fin⟩
      have hi : i < (xs.toList.zip ys.toList).length := Classical.byContradiction fun hn => by
        rw [List.drop_of_length_le (Nat.le_of_not_lt hn)] at hz; cases hz
      have hk : i < min xs.size ys.size := by rw [← len]; exact hi
      have h1 : i < xs.size := by omega
      have h2 : i < ys.size := by omega
      rw [List.drop_eq_getElem_cons hi] at hz
      injection hz with euv erest
      have eu : u = xs[i] := by simpa using congrArg Prod.fst euv
      have ev : v = ys[i] := by simpa using congrArg Prod.snd euv
      subst eu ev
      rw [drop_range hk] at fin
      refine wpAny_bind (ee i h1 h2 prog w _ _ ?_)
      cases hq : e i with
      | true =>
        rw [firstLt_yes hq] at fin
        wp_walk
        exact ⟨rfl, rfl, i + 1, erest, fun k z => by
          rcases Nat.lt_succ_iff_lt_or_eq.mp z with z | z
          · exact al k z
          · rw [z]; exact hq, fin⟩
      | false =>
        rw [firstLt_no hq] at fin
        repeat (fail_if_success (refine ff i h1 h2 al hq prog w _ _ ?_)
                wp_step)
        refine ff i h1 h2 al hq prog w _ _ ?_
        wp_walk
        exact ⟨_, rfl, fin⟩
    case fin =>
      rintro ⟨c1, c2⟩ t ⟨ha, rfl, i, hz, al, fin⟩
      simp only at ha
      subst ha
      have hk : min xs.size ys.size ≤ i := Classical.byContradiction fun hn => by
        rw [List.drop_eq_getElem_cons (by rw [len]; omega)] at hz; cases hz
      rw [List.drop_of_length_le (by simpa using hk)] at fin
      wp_walk
      exact ⟨_, rfl, by simpa [Builtin.Tuple.tupleCompareSizes, firstLt] using fin⟩
    case h => exact ⟨rfl, rfl, 0, rfl, fun k z => absurd z (Nat.not_lt_zero k), by simpa using done⟩
theorem tupGt : Meets (Builtin.«tuple.__gt__» ⟨[.ref l, .ref m], []⟩)
    (fun A R s => s.heap.get? l = some { cls := .type "tuple", dict := d1, data := .seq xs p, slots := s1 } ∧ s.heap.get? m = some { cls := .type "tuple", dict := d2, data := .seq ys q, slots := s2 } ∧
      Eqs A.in1 s xs ys e ∧ Fst .Gt A.in1 s xs ys e r ∧ R (.ok (.ret (.bool (firstLt e r (decide (xs.size > ys.size)) (List.range (min xs.size ys.size)))))) s) :=
  .of_wp fun prog w A R s hh => by
    obtain ⟨hp, g, d, tk, os⟩ := s
    obtain ⟨gl, gm, ee, ff, done⟩ := hh
    have ok := AutoSeq1.sub_tuple_tuple
    have len : (xs.toList.zip ys.toList).length = min xs.size ys.size := by simp
    wp_walk using wpAny_loadPart' gl, wpAny_loadPart' gm, wpAny_forIn_list _ (fun left acc t => acc.1 = none ∧ t = ⟨hp, g, d, tk, os⟩ ∧ ∃ i, left = (xs.toList.zip ys.toList).drop i ∧ (∀ k, k < i → e k = true) ∧
      R (.ok (.ret (.bool (firstLt e r (decide (xs.size > ys.size)) ((List.range (min xs.size ys.size)).drop i))))) ⟨hp, g, d, tk, os⟩) _
    case turn =>
      rintro ⟨u, v⟩ left acc t ⟨ha, rfl, i, hz, al, fin⟩
      have hi : i < (xs.toList.zip ys.toList).length := Classical.byContradiction fun hn => by
        rw [List.drop_of_length_le (Nat.le_of_not_lt hn)] at hz; cases hz
      have hk : i < min xs.size ys.size := by rw [← len]; exact hi
      have h1 : i < xs.size := by omega
      have h2 : i < ys.size := by omega
      rw [List.drop_eq_getElem_cons hi] at hz
      injection hz with euv erest
      have eu : u = xs[i] := by simpa using congrArg Prod.fst euv
      have ev : v = ys[i] := by simpa using congrArg Prod.snd euv
      subst eu ev
      rw [drop_range hk] at fin
      refine wpAny_bind (ee i h1 h2 prog w _ _ ?_)
      cases hq : e i with
      | true =>
        rw [firstLt_yes hq] at fin
        wp_walk
        exact ⟨rfl, rfl, i + 1, erest, fun k z => by
          rcases Nat.lt_succ_iff_lt_or_eq.mp z with z | z
          · exact al k z
          · rw [z]; exact hq, fin⟩
      | false =>
        rw [firstLt_no hq] at fin
        repeat (fail_if_success (refine ff i h1 h2 al hq prog w _ _ ?_)
                wp_step)
        refine ff i h1 h2 al hq prog w _ _ ?_
        wp_walk
        exact ⟨_, rfl, fin⟩
    case fin =>
      rintro ⟨c1, c2⟩ t ⟨ha, rfl, i, hz, al, fin⟩
      simp only at ha
      subst ha
      have hk : min xs.size ys.size ≤ i := Classical.byContradiction fun hn => by
        rw [List.drop_eq_getElem_cons (by rw [len]; omega)] at hz; cases hz
      rw [List.drop_of_length_le (by simpa using hk)] at fin
      wp_walk
      exact ⟨_, rfl, by simpa [Builtin.Tuple.tupleCompareSizes, firstLt] using fin⟩
    case h => exact ⟨rfl, rfl, 0, rfl, fun k z => absurd z (Nat.not_lt_zero k), by simpa using done⟩
theorem lstLtFrom : ∀ (k i : Nat), min xs.size ys.size - i = k → Meets (Builtin.«list.__eq__.loop» ⟨[.ref l, .ref m, rawInt i, rawInt 0], []⟩)
    (fun A R s => s.heap.get? l = some { cls := .type "list", dict := d1, data := .seq xs p, slots := s1 } ∧ s.heap.get? m = some { cls := .type "list", dict := d2, data := .seq ys q, slots := s2 } ∧
      Eqs A.in1 s xs ys e ∧ Fst .Lt A.in1 s xs ys e r ∧ (∀ z, z < i → e z = true) ∧ R (.ok (.ret (.bool (firstLt e r (decide (xs.size < ys.size)) ((List.range (min xs.size ys.size)).drop i))))) s)
  | 0, i, hk => by
    intro prog w A R s hh
    obtain ⟨hp, g, d, tk, os⟩ := s
    obtain ⟨gl, gm, ee, ff, al, done⟩ := hh
    rw [show (List.range (min xs.size ys.size)).drop i = [] by simp; omega] at done
    wp_walk using wpAny_loadPart' gl, wpAny_loadPart' gm
    by_cases h1 : i < xs.size
    · have g1 : xs[((i : Nat) : Int).toNat]? = some xs[i] := by simp [h1]
      have g2 : ys[((i : Nat) : Int).toNat]? = none := by simp; omega
      rw [g1, g2]
      wp_walk using wpAny_loadPart' gl, wpAny_loadPart' gm
      exact done
    · have g1 : xs[((i : Nat) : Int).toNat]? = none := by simp; omega
      rw [g1]
      wp_walk using wpAny_loadPart' gl, wpAny_loadPart' gm
      exact done
  | k + 1, i, hk => by
    intro prog w A R s hh
    obtain ⟨hp, g, d, tk, os⟩ := s
    obtain ⟨gl, gm, ee, ff, al, done⟩ := hh
    wp_walk using wpAny_loadPart' gl, wpAny_loadPart' gm
    have hk' : i < min xs.size ys.size := by omega
    have h1 : i < xs.size := by omega
    have h2 : i < ys.size := by omega
    have g1 : xs[((i : Nat) : Int).toNat]? = some xs[i] := by simp [h1]
    have g2 : ys[((i : Nat) : Int).toNat]? = some ys[i] := by simp [h2]
    rw [drop_range hk'] at done
    rw [g1, g2]
    refine wpAny_bind (ee i h1 h2 prog w _ _ ?_)
    cases hq : e i with
    | true =>
      rw [firstLt_yes hq] at done
      wp_walk
      rw [show ((i : Int) + 1) = ((i + 1 : Nat) : Int) by omega]
      refine ⟨plainId_quiet plain_eq_loop _, codeAny_builtin entry_eq_loop ?_⟩
      rw [Around.under_plainId plain_eq_loop _]
      refine lstLtFrom k (i + 1) (by omega) prog w A R _ ⟨gl, gm, ee, ff, fun z hz => ?_, done⟩
      rcases Nat.lt_succ_iff_lt_or_eq.mp hz with hz | hz
      · exact al z hz
      · rw [hz]; exact hq
    | false =>
      rw [firstLt_no hq] at done
      wp_walk using wpAny_loadPart' gl, wpAny_loadPart' gm
      rw [g1, g2]
      repeat (fail_if_success (refine ff i h1 h2 al hq prog w _ _ ?_)
              wp_step)
      refine ff i h1 h2 al hq prog w _ _ ?_
      wp_walk
      exact done
theorem lstLt : Meets (Builtin.«list.__lt__» ⟨[.ref l, .ref m], []⟩)
    (fun A R s => s.heap.get? l = some { cls := .type "list", dict := d1, data := .seq xs p, slots := s1 } ∧ s.heap.get? m = some { cls := .type "list", dict := d2, data := .seq ys q, slots := s2 } ∧
      Eqs A.in1 s xs ys e ∧ Fst .Lt A.in1 s xs ys e r ∧ R (.ok (.ret (.bool (firstLt e r (decide (xs.size < ys.size)) (List.range (min xs.size ys.size)))))) s) := by
  intro prog w A R s hh
  obtain ⟨hp, g, d, tk, os⟩ := s
  obtain ⟨gl, gm, ee, ff, done⟩ := hh
  have ok := AutoSeq1.sub_list_list
  wp_walk using wpAny_loadPart' gl, wpAny_loadPart' gm
  refine ⟨plainId_quiet plain_eq_loop _, codeAny_builtin entry_eq_loop ?_⟩
  rw [Around.under_plainId plain_eq_loop _]
  exact lstLtFrom l m xs ys p q d1 d2 s1 s2 e r _ 0 rfl prog w A R _ ⟨gl, gm, ee, ff, fun z hz => absurd hz (Nat.not_lt_zero z), by simpa using done⟩
end
section
variable {A : Around} {s : Shared} {l m : Addr} {xs ys : Array Value} {e r : Nat → Bool}
theorem rc_tupLt (hl : s.heap.IsTuple l xs) (hm : s.heap.IsTuple m ys) (hu : A.units < cLine) (he : Eqs A.in1 s xs ys e) (hf : Fst .Lt A.in1 s xs ys e r) :
    RcOp .Lt A s (.ref l) (.ref m) (firstLt e r (decide (xs.size < ys.size)) (List.range (min xs.size ys.size))) := fun prog w E Q hq => by
  obtain ⟨⟨c1, a1, b1, t1⟩, o1, z1, n1, w1⟩ := id hl
  obtain ⟨⟨c2, a2, b2, t2⟩, o2, z2, n2, w2⟩ := id hm
  dsimp only at z1 w1 z2 w2
  subst z1 w1 z2 w2
  exact richCompare_meets_room (op := .Lt) ⟨_, o1, rfl⟩ ⟨_, o2, rfl⟩ F.slot_tuple_lt F.entry_tuple_lt (F.args_tuple_lt_2 _ _) (tupLt l m xs ys n1 n2 a1 a2 t1 t2 e r) ⟨o1, o2, he, hf, (fun z => nomatch z), hq⟩ hu
theorem rc_tupGt (hl : s.heap.IsTuple l xs) (hm : s.heap.IsTuple m ys) (hu : A.units < cLine) (he : Eqs A.in1 s xs ys e) (hf : Fst .Gt A.in1 s xs ys e r) :
    RcOp .Gt A s (.ref l) (.ref m) (firstLt e r (decide (xs.size > ys.size)) (List.range (min xs.size ys.size))) := fun prog w E Q hq => by
  obtain ⟨⟨c1, a1, b1, t1⟩, o1, z1, n1, w1⟩ := id hl
  obtain ⟨⟨c2, a2, b2, t2⟩, o2, z2, n2, w2⟩ := id hm
  dsimp only at z1 w1 z2 w2
  subst z1 w1 z2 w2
  exact richCompare_meets_room (op := .Gt) ⟨_, o1, rfl⟩ ⟨_, o2, rfl⟩ F.slot_tuple_gt F.entry_tuple_gt (F.args_tuple_gt_2 _ _) (tupGt l m xs ys n1 n2 a1 a2 t1 t2 e r) ⟨o1, o2, he, hf, (fun z => nomatch z), hq⟩ hu
theorem rc_lstLt (hl : s.heap.IsList l xs) (hm : s.heap.IsList m ys) (hu : A.units < cLine) (he : Eqs A.in1 s xs ys e) (hf : Fst .Lt A.in1 s xs ys e r) :
    RcOp .Lt A s (.ref l) (.ref m) (firstLt e r (decide (xs.size < ys.size)) (List.range (min xs.size ys.size))) := fun prog w E Q hq => by
  obtain ⟨⟨c1, a1, b1, t1⟩, o1, z1, n1, w1⟩ := id hl
  obtain ⟨⟨c2, a2, b2, t2⟩, o2, z2, n2, w2⟩ := id hm
  dsimp only at z1 w1 z2 w2
  subst z1 w1 z2 w2
  exact richCompare_meets_room (op := .Lt) ⟨_, o1, rfl⟩ ⟨_, o2, rfl⟩ F.slot_list_lt F.entry_list_lt (F.args_list_lt_2 _ _) (lstLt l m xs ys n1 n2 a1 a2 t1 t2 e r) ⟨o1, o2, he, hf, (fun z => nomatch z), hq⟩ hu
end
end G7O

namespace G7
open PySem PySem.W PySem.SeqAt PyProof.Rows
/-! ### the order of data, as rows of signs -/
abbrev tk (x : P) : List (Int ⊕ List Nat) := keyToks x.py
abbrev tks (xs : List P) : List (Int ⊕ List Nat) := keyToksAll (P.pys xs)
abbrev lx (a b : List (Int ⊕ List Nat)) : Bool := lexLt itemOrd a b
theorem tks_cons (x : P) (xs : List P) : tks (x :: xs) = .inl 1 :: (tk x ++ tks xs) := by
  show keyToksAll (x.py :: P.pys xs) = _
  rw [keyToksAll]
theorem tks_nil : tks [] = [.inl 0] := by
  show keyToksAll [] = _
  rw [keyToksAll]
mutual
theorem tk_eqv : ∀ (x y : P), x.eqv y = true → tk x = tk y
  | .non, y, h => by cases y <;> simp_all [P.eqv, tk]
  | .bl a, y, h => by
    cases y with
    | bl b => simp_all [P.eqv, tk]
    | int j =>
      have e : (if a then (1 : Int) else 0) = j := by simpa [P.eqv] using h
      subst e
      simp [tk, P.py, keyToks]
    | _ => simp [P.eqv] at h
  | .int i, y, h => by
    cases y with
    | int j => simp_all [P.eqv, tk]
    | bl b =>
      have e : i = (if b then (1 : Int) else 0) := by simpa [P.eqv] using h
      subst e
      simp [tk, P.py, keyToks]
    | _ => simp [P.eqv] at h
  | .str x, y, h => by cases y <;> simp_all [P.eqv, tk]
  | .tup xs, .tup ys, h => by
    have := tks_eqv xs ys (by simpa [P.eqv] using h)
    simpa [tk, P.py, keyToks] using this
  | .lst xs, .lst ys, h => by
    have := tks_eqv xs ys (by simpa [P.eqv] using h)
    simpa [tk, P.py, keyToks] using this
  | .tup _, .non, h => by simp [P.eqv] at h
  | .tup _, .bl _, h => by simp [P.eqv] at h
  | .tup _, .int _, h => by simp [P.eqv] at h
  | .tup _, .str _, h => by simp [P.eqv] at h
  | .tup _, .lst _, h => by simp [P.eqv] at h
  | .lst _, .non, h => by simp [P.eqv] at h
  | .lst _, .bl _, h => by simp [P.eqv] at h
  | .lst _, .int _, h => by simp [P.eqv] at h
  | .lst _, .str _, h => by simp [P.eqv] at h
  | .lst _, .tup _, h => by simp [P.eqv] at h
theorem tks_eqv : ∀ (xs ys : List P), P.eqvs xs ys = true → tks xs = tks ys
  | [], [], _ => rfl
  | [], _ :: _, h => by simp [P.eqvs] at h
  | _ :: _, [], h => by simp [P.eqvs] at h
  | x :: xs, y :: ys, h => by
    simp only [P.eqvs, Bool.and_eq_true] at h
    rw [tks_cons, tks_cons, tk_eqv x y h.1, tks_eqv xs ys h.2]
end
mutual
theorem tk_lt : ∀ (x y : P), x.cok y = true → (x.eqv y = true → x.lt y = false) ∧ (x.eqv y = false → ∀ l m, lx (tk x ++ l) (tk y ++ m) = x.lt y)
  | .non, y, h => by simp [P.cok] at h
  | .bl _, y, h => by simp [P.cok] at h
  | .int i, y, h => by
    cases y with
    | int j =>
      refine ⟨fun e => ?_, fun e l m => ?_⟩
      · have e : i = j := by simpa [P.eqv] using e
        subst e; simp [P.lt]
      · have e : i ≠ j := by simpa [P.eqv] using e
        have d := dataLt_int i j
        unfold dataLt at d
        simp only [tk, P.py, keyToks, P.lt] at d ⊢
        rw [← d]
        exact lex_atom (fun z => e (by injection z)) l m
    | _ => simp [P.cok] at h
  | .str x, y, h => by
    cases y with
    | str z =>
      refine ⟨fun e => ?_, fun e l m => ?_⟩
      · have e : x = z := by simpa [P.eqv] using e
        subst e
        simp [P.lt, List.lt_irrefl]
      · have e : x ≠ z := by simpa [P.eqv] using e
        have d := dataLt_str x z
        unfold dataLt at d
        simp only [tk, P.py, keyToks, P.lt] at d ⊢
        rw [← d]
        exact lex_atom (fun q => e (str_of_cps (by injection q))) l m
    | _ => simp [P.cok] at h
  | .tup xs, y, h => by
    cases y with
    | tup ys =>
      have := tks_lt xs ys (by simpa [P.cok] using h)
      simpa [tk, P.py, keyToks, P.lt, P.eqv] using this
    | _ => simp [P.cok] at h
  | .lst xs, y, h => by
    cases y with
    | lst ys =>
      have := tks_lt xs ys (by simpa [P.cok] using h)
      simpa [tk, P.py, keyToks, P.lt, P.eqv] using this
    | _ => simp [P.cok] at h
theorem tks_lt : ∀ (xs ys : List P), P.coks xs ys = true → (P.eqvs xs ys = true → P.lts xs ys = false) ∧ (P.eqvs xs ys = false → ∀ l m, lx (tks xs ++ l) (tks ys ++ m) = P.lts xs ys)
  | [], [], _ => ⟨fun _ => by simp [P.lts], fun h => by simp [P.eqvs] at h⟩
  | [], y :: ys, _ => ⟨fun h => by simp [P.eqvs] at h, fun _ l m => by
      rw [tks_nil, tks_cons]
      show lx (.inl 0 :: l) (.inl 1 :: _) = _
      rw [lx, lex_diff (O := itemOrd) (by simp)]
      simp [P.lts, itemLt, itemOrd]⟩
  | x :: xs, [], _ => ⟨fun h => by simp [P.eqvs] at h, fun _ l m => by
      rw [tks_nil, tks_cons]
      show lx (.inl 1 :: _) (.inl 0 :: m) = _
      rw [lx, lex_diff (O := itemOrd) (by simp)]
      simp [P.lts, itemLt, itemOrd]⟩
  | x :: xs, y :: ys, h => by
    cases e : x.eqv y with
    | true =>
      have hc : P.coks xs ys = true := by simpa [P.coks, e] using h
      have ih := tks_lt xs ys hc
      refine ⟨fun he => ?_, fun he l m => ?_⟩
      · have he : P.eqvs xs ys = true := by simpa [P.eqvs, e] using he
        simpa [P.lts, e] using ih.1 he
      · have he : P.eqvs xs ys = false := by simpa [P.eqvs, e] using he
        rw [tks_cons, tks_cons, tk_eqv x y e]
        have p := lex_pre (.inl 1 :: tk y) (tks xs ++ l) (tks ys ++ m)
        simp only [List.cons_append, List.append_assoc] at p ⊢
        rw [lx, p]
        simpa [P.lts, e] using ih.2 he l m
    | false =>
      have hc : x.cok y = true := by simpa [P.coks, e] using h
      have ih := (tk_lt x y hc).2 e
      refine ⟨fun he => by simp [P.eqvs, e] at he, fun he l m => ?_⟩
      rw [tks_cons, tks_cons]
      have p := lex_pre [.inl 1] (tk x ++ (tks xs ++ l)) (tk y ++ (tks ys ++ m))
      simp only [List.cons_append, List.append_assoc, List.nil_append] at p ⊢
      rw [lx, p]
      simpa [P.lts, e] using ih _ _
end
theorem lt_lx {x y : P} (h : x.cok y = true) : lx (tk x) (tk y) = x.lt y := by
  cases e : x.eqv y with
  | true =>
    rw [(tk_lt x y h).1 e, tk_eqv x y e]
    exact lex_irrefl (O := itemOrd) _
  | false => simpa using (tk_lt x y h).2 e [] []
variable [WW]
/-! ### the machine's order -/
def eqF (xs ys : List P) (j : Nat) : Bool := (xs.getD j .non).eqv (ys.getD j .non)
def ltF (xs ys : List P) (j : Nat) : Bool := (xs.getD j .non).lt (ys.getD j .non)
theorem firstLt_P : ∀ xs ys : List P, firstLt (eqF xs ys) (ltF xs ys) (decide (xs.length < ys.length)) (List.range (min xs.length ys.length)) = P.lts xs ys
  | [], [] => by simp [firstLt, P.lts]
  | [], y :: ys => by simp [firstLt, P.lts]
  | x :: xs, [] => by simp [firstLt, P.lts]
  | x :: xs, y :: ys => by
    have ih := firstLt_P xs ys
    have e1 : min (x :: xs).length (y :: ys).length = min xs.length ys.length + 1 := by simp only [List.length_cons]; omega
    have e2 : decide ((x :: xs).length < (y :: ys).length) = decide (xs.length < ys.length) := by simp only [List.length_cons, Nat.add_lt_add_iff_right]
    rw [e1, e2, List.range_succ_eq_map]
    cases hx : x.eqv y with
    | true =>
      rw [firstLt_yes (show eqF (x :: xs) (y :: ys) 0 = true from hx), firstLt_map]
      simp only [P.lts, hx, if_true]
      rw [← ih]; rfl
    | false =>
      rw [firstLt_no (show eqF (x :: xs) (y :: ys) 0 = false from hx)]
      simp [P.lts, hx, ltF]
theorem pys_len : ∀ xs : List P, (P.pys xs).length = xs.length
  | [] => rfl
  | _ :: xs => congrArg (· + 1) (pys_len xs)
theorem pys_getD : ∀ (xs : List P) (j : Nat), (P.pys xs).getD j .none = (xs.getD j .non).py
  | [], j => by simp [P.pys, P.py]
  | x :: xs, 0 => rfl
  | x :: xs, j + 1 => by simpa [P.pys] using pys_getD xs j
/-- where all ahead are the same, the next ones may be compared -/
theorem coks_at : ∀ (xs ys : List P), P.coks xs ys = true → ∀ j, j < xs.length → j < ys.length → (∀ i, i < j → eqF xs ys i = true) → eqF xs ys j = false → (xs.getD j .non).cok (ys.getD j .non) = true
  | [], _, _, j, h1, _, _, _ => absurd h1 (Nat.not_lt_zero j)
  | _ :: _, [], _, j, _, h2, _, _ => absurd h2 (Nat.not_lt_zero j)
  | x :: xs, y :: ys, h, 0, _, _, _, he => by
    have he : x.eqv y = false := he
    simpa [P.coks, he] using h
  | x :: xs, y :: ys, h, j + 1, h1, h2, al, he => by
    have h0 : x.eqv y = true := al 0 (Nat.succ_pos j)
    have hc : P.coks xs ys = true := by simpa [P.coks, h0] using h
    exact coks_at xs ys hc j (by simpa using h1) (by simpa using h2) (fun i hi => al (i + 1) (by omega)) he
mutual
theorem rcLt_P : ∀ (x y : P) (A : Around) (s : Shared) (a b : Value) (as bs : List Addr), Reads s.heap a x.py as → Reads s.heap b y.py bs → x.cok y = true → A.units + min x.py.depth y.py.depth < cLine → RcOp .Lt A s a b (x.lt y)
  | .non, _, _, _, _, _, _, _, _, _, h, _ => by simp [P.cok] at h
  | .bl _, _, _, _, _, _, _, _, _, _, h, _ => by simp [P.cok] at h
  | .int i, y, A, s, a, b, as, bs, ra, rb, h, hu => by
    cases y with
    | int j =>
      cases ra; cases rb
      intro prog w E Q hq
      exact PySem.P.lt_int hq
    | _ => simp [P.cok] at h
  | .str i, y, A, s, a, b, as, bs, ra, rb, h, hu => by
    cases y with
    | str j =>
      cases ra; cases rb
      intro prog w E Q hq
      exact PySem.P.lt_str hq
    | _ => simp [P.cok] at h
  | .lst xs, y, A, s, a, b, as, bs, ra, rb, h, hu => by
    cases y with
    | lst ys =>
      have hc : P.coks xs ys = true := by simpa [P.cok] using h
      cases ra with
      | @list l o vs n _ as1 h1 h2 h3 h4 =>
        cases rb with
        | @list l' o' vs' n' _ bs1 k1 k2 k3 k4 =>
          have n1 : vs.size = xs.length := by rw [← pys_len]; simpa using ReadsAll.length _ _ _ h4
          have n2 : vs'.size = ys.length := by rw [← pys_len]; simpa using ReadsAll.length _ _ _ k4
          have e : (P.lst xs).lt (.lst ys) = firstLt (eqF xs ys) (ltF xs ys) (decide (vs.size < vs'.size)) (List.range (min vs.size vs'.size)) := by rw [n1, n2, firstLt_P]; simp [P.lt]
          rw [e]
          refine G7O.rc_lstLt ⟨_, h1, h2, _, h3⟩ ⟨_, k1, k2, _, k3⟩ (room_here hu) ?_ fun j j1 j2 al hj => ?_
          · exact eqs_P xs ys A s vs vs' _ _ h4 k4 hu
          · exact rcLt_Ps xs ys A.in1 s vs.toList vs'.toList _ _ h4 k4 (room_in hu) j (by simpa using j1) (by simpa using j2) (coks_at xs ys hc j (by omega) (by omega) al hj)
    | _ => simp [P.cok] at h
  | .tup xs, y, A, s, a, b, as, bs, ra, rb, h, hu => by
    cases y with
    | tup ys =>
      have hc : P.coks xs ys = true := by simpa [P.cok] using h
      cases ra with
      | @tuple l o vs n _ as1 h1 h2 h3 h4 =>
        cases rb with
        | @tuple l' o' vs' n' _ bs1 k1 k2 k3 k4 =>
          have n1 : vs.size = xs.length := by rw [← pys_len]; simpa using ReadsAll.length _ _ _ h4
          have n2 : vs'.size = ys.length := by rw [← pys_len]; simpa using ReadsAll.length _ _ _ k4
          have e : (P.tup xs).lt (.tup ys) = firstLt (eqF xs ys) (ltF xs ys) (decide (vs.size < vs'.size)) (List.range (min vs.size vs'.size)) := by rw [n1, n2, firstLt_P]; simp [P.lt]
          rw [e]
          refine G7O.rc_tupLt ⟨_, h1, h2, _, h3⟩ ⟨_, k1, k2, _, k3⟩ (room_here hu) ?_ fun j j1 j2 al hj => ?_
          · exact eqs_P xs ys A s vs vs' _ _ h4 k4 hu
          · exact rcLt_Ps xs ys A.in1 s vs.toList vs'.toList _ _ h4 k4 (room_in hu) j (by simpa using j1) (by simpa using j2) (coks_at xs ys hc j (by omega) (by omega) al hj)
    | _ => simp [P.cok] at h
theorem rcLt_Ps : ∀ (xs ys : List P) (A : Around) (s : Shared) (vs ws : List Value) (as bs : List Addr), ReadsAll s.heap vs (P.pys xs) as → ReadsAll s.heap ws (P.pys ys) bs → A.units + min (PyData.depthAll (P.pys xs)) (PyData.depthAll (P.pys ys)) < cLine →
    ∀ j (h1 : j < vs.length) (h2 : j < ws.length), (xs.getD j .non).cok (ys.getD j .non) = true → RcOp .Lt A s vs[j] ws[j] (ltF xs ys j)
  | [], _, _, _, _, _, _, _, ra, _, _, j, h1, _, _ => by cases ra; exact absurd h1 (Nat.not_lt_zero _)
  | _ :: _, [], _, _, _, _, _, _, _, rb, _, j, _, h2, _ => by cases rb; exact absurd h2 (Nat.not_lt_zero _)
  | x :: xs, y :: ys, A, s, _, _, _, _, ra, rb, hu, j, h1, h2, hc => by
    cases ra with
    | cons r rs =>
      cases rb with
      | cons r' rs' =>
        cases j with
        | zero => exact rcLt_P x y A s _ _ _ _ r r' hc (room_head hu)
        | succ j => exact rcLt_Ps xs ys A s _ _ _ _ rs rs' (room_tail hu) j (Nat.lt_of_succ_lt_succ h1) (Nat.lt_of_succ_lt_succ h2) hc
theorem eqs_P : ∀ (xs ys : List P) (A : Around) (s : Shared) (vs ws : Array Value) (as bs : List Addr), ReadsAll s.heap vs.toList (P.pys xs) as → ReadsAll s.heap ws.toList (P.pys ys) bs → A.units + min (PyData.depthAll (P.pys xs) + 1) (PyData.depthAll (P.pys ys) + 1) < cLine → G7O.Eqs A.in1 s vs ws (eqF xs ys)
  | xs, ys, A, s, vs, ws, as, bs, ra, rb, hu, j, h1, h2 => by
    have := eqAt_plainAll (P.pys xs) (P.pys ys) A.in1 s vs.toList ws.toList _ _ ra rb (pys_plain _) (pys_plain _) (room_in hu) j (by simpa using h1) (by simpa using h2)
    have e : pairEq (P.pys xs) (P.pys ys) j = eqF xs ys j := by
      show PyData.eqv ((P.pys xs).getD j .none) ((P.pys ys).getD j .none) = _
      rw [pys_getD, pys_getD, py_eqv]; rfl
    rw [← e]
    simpa only [Array.getElem_toList] using this
end
/-! ### as a sort compares -/
section
variable {prog : Program} {w : World} {A : Around} {E : Value → Shared → Prop} {s : Shared}
theorem oneLt_P {f : Bool} {x y : P} {a b : Value} {as bs : List Addr} {Q : Bool → Shared → Prop} (hf : f = true → ∀ xs, x ≠ .tup xs) (ra : Reads s.heap a x.py as) (rb : Reads s.heap b y.py bs) (h : x.cok y = true)
    (hu : A.units + min x.py.depth y.py.depth < cLine) (hq : Q (x.lt y) s) : wpAny (model prog w) A (oneLt' f a b) Q E s := by
  cases f with
  | false =>
    rw [oneLt'_eq]
    simp only [Bool.false_eq_true, if_false]
    exact wpAny_bind (rcLt_P x y A s a b as bs ra rb h hu prog w E _ (wpAny_truthy_bool hq))
  | true =>
    cases x with
    | non => simp [P.cok] at h
    | bl _ => simp [P.cok] at h
    | tup xs => exact absurd rfl (hf rfl xs)
    | int i =>
      cases y with
      | int j =>
        refine oneLt_alike (da := .int i) (db := .int j) (fun _ _ z => nomatch z) ra rb rfl (fun z => nomatch z) hu ?_
        rw [dataLt_int]; exact hq
      | _ => simp [P.cok] at h
    | str i =>
      cases y with
      | str j =>
        refine oneLt_alike (da := .str i) (db := .str j) (fun _ _ z => nomatch z) ra rb rfl (fun z => nomatch z) hu ?_
        rw [dataLt_str]; exact hq
      | _ => simp [P.cok] at h
    | lst xs =>
      cases y with
      | lst ys =>
        have hc : P.coks xs ys = true := by simpa [P.cok] using h
        cases ra with
        | @list l o vs n _ as1 h1 h2 h3 h4 =>
          cases rb with
          | @list l' o' vs' n' _ bs1 k1 k2 k3 k4 =>
            have n1 : vs.size = xs.length := by rw [← pys_len]; simpa using ReadsAll.length _ _ _ h4
            have n2 : vs'.size = ys.length := by rw [← pys_len]; simpa using ReadsAll.length _ _ _ k4
            have e : (P.lst xs).lt (.lst ys) = firstLt (eqF xs ys) (ltF xs ys) (decide (vs.size < vs'.size)) (List.range (min vs.size vs'.size)) := by rw [n1, n2, firstLt_P]; simp [P.lt]
            rw [e] at hq
            rw [oneLt'_eq]
            simp only [if_true]
            obtain ⟨c1, a1, b1, t1⟩ := o
            obtain ⟨c2, a2, b2, t2⟩ := o'
            dsimp only at h2 h3 k2 k3
            subst h2 h3 k2 k3
            refine wpAny_bind (wpAny_cRoomFor (room_here hu) (wpAny_bind (wpAny_callSpecialIfBound?_slot (T := "list") ⟨_, h1, rfl⟩ F.slot_list_lt ?_)))
            refine call_meets F.slot_list_lt ⟨_, h1, rfl⟩ F.entry_list_lt (F.args_list_lt_2 _ _) (G7O.lstLt l l' vs vs' n n' a1 a2 t1 t2 (eqF xs ys) (ltF xs ys)) ⟨h1, k1, ?_, fun j j1 j2 al hj => ?_, wpAny_truthy_bool hq⟩
            · exact eqs_P xs ys A s vs vs' _ _ h4 k4 hu
            · exact rcLt_Ps xs ys A.in1 s vs.toList vs'.toList _ _ h4 k4 (room_in hu) j (by simpa using j1) (by simpa using j2) (coks_at xs ys hc j (by omega) (by omega) al hj)
      | _ => simp [P.cok] at h
theorem katLex_P {b fin : Bool} {Q : Bool → Shared → Prop} : ∀ (xs ys : List P) (i : Nat) (vs ws : List Value) (as bs : List Addr), ReadsAll s.heap vs (P.pys xs) as → ReadsAll s.heap ws (P.pys ys) bs → P.coks xs ys = true →
    A.units + min (PyData.depthAll (P.pys xs)) (PyData.depthAll (P.pys ys)) < cLine → (b = true → i = 0 → ∀ x r t, xs = x :: r → x ≠ .tup t) → fin = decide (xs.length < ys.length) → Q (P.lts xs ys) s → KatLex prog w A b fin Q (vs.zip ws) i s
  | [], [], i, _, _, _, _, ra, rb, _, _, _, hf, hq => by
    cases ra; cases rb
    exact kat_nil (by rw [hf]; simpa [P.lts] using hq)
  | [], y :: ys, i, _, _, _, _, ra, rb, _, _, _, hf, hq => by
    cases ra
    rw [List.zip_nil_left]
    exact kat_nil (by rw [hf]; simpa [P.lts] using hq)
  | x :: xs, [], i, _, _, _, _, ra, rb, _, _, _, hf, hq => by
    cases rb
    rw [List.zip_nil_right]
    exact kat_nil (by rw [hf]; simpa [P.lts] using hq)
  | x :: xs, y :: ys, i, _, _, _, _, ra, rb, h, hu, hb, hf, hq => by
    have hf' : fin = decide (xs.length < ys.length) := by rw [hf]; simp only [List.length_cons, Nat.add_lt_add_iff_right]
    cases ra with
    | cons r rs =>
      cases rb with
      | cons r' rs' =>
        rw [List.zip_cons_cons]
        refine kat_cons (eqAt_plain x.py y.py A s _ _ _ _ r r' (py_plain _) (py_plain _) (room_head hu) prog w _ _ ?_)
        rw [py_eqv]
        cases hx : x.eqv y with
        | true =>
          refine kat_yes (katLex_P xs ys (i + 1) _ _ _ _ rs rs' (by simpa [P.coks, hx] using h) (room_tail hu) (fun _ hi => absurd hi (Nat.succ_ne_zero i)) hf' ?_)
          simpa [P.lts, hx] using hq
        | false =>
          refine kat_no (oneLt_P (fun hbi t => ?_) r r' (by simpa [P.coks, hx] using h) (room_head hu) (by simpa [P.lts, hx] using hq))
          rw [Bool.and_eq_true] at hbi
          exact hb hbi.1 (by simpa using hbi.2) x xs t rfl
end
mutual
theorem reads_one {h : Heap} : ∀ (x y : P) (v : Value) (as bs : List Addr), Reads h v x.py as → Reads h v y.py bs → x = y
  | .non, y, _, _, _, r, q => by cases r; cases y <;> cases q; rfl
  | .bl _, y, _, _, _, r, q => by cases r; cases y <;> cases q; rfl
  | .int _, y, _, _, _, r, q => by cases r; cases y <;> cases q; rfl
  | .str _, y, _, _, _, r, q => by cases r; cases y <;> cases q; rfl
  | .tup xs, y, _, _, _, r, q => by
    cases r with
    | @tuple l o vs n _ as1 h1 h2 h3 h4 =>
      cases y with
      | tup ys =>
        cases q with
        | @tuple _ o' vs' n' _ bs1 k1 k2 k3 k4 =>
          rw [h1] at k1; cases k1
          rw [h3] at k3; cases k3
          rw [reads_ones xs ys _ _ _ h4 k4]
      | lst ys =>
        cases q with
        | @list _ o' vs' n' _ bs1 k1 k2 k3 k4 =>
          rw [h1] at k1; cases k1
          rw [h2] at k2
          exact absurd k2 (by decide)
      | _ => cases q
  | .lst xs, y, _, _, _, r, q => by
    cases r with
    | @list l o vs n _ as1 h1 h2 h3 h4 =>
      cases y with
      | lst ys =>
        cases q with
        | @list _ o' vs' n' _ bs1 k1 k2 k3 k4 =>
          rw [h1] at k1; cases k1
          rw [h3] at k3; cases k3
          rw [reads_ones xs ys _ _ _ h4 k4]
      | tup ys =>
        cases q with
        | @tuple _ o' vs' n' _ bs1 k1 k2 k3 k4 =>
          rw [h1] at k1; cases k1
          rw [h2] at k2
          exact absurd k2 (by decide)
      | _ => cases q
theorem reads_ones {h : Heap} : ∀ (xs ys : List P) (vs : List Value) (as bs : List Addr), ReadsAll h vs (P.pys xs) as → ReadsAll h vs (P.pys ys) bs → xs = ys
  | [], ys, _, _, _, r, q => by cases r; cases ys <;> cases q; rfl
  | x :: xs, ys, _, _, _, r, q => by
    cases r with
    | cons r1 r2 =>
      cases ys with
      | nil => cases q
      | cons y ys =>
        cases q with
        | cons q1 q2 => rw [reads_one x y _ _ _ r1 q1, reads_ones xs ys _ _ _ r2 q2]
end
end G7

namespace G7
open PySem PySem.W PySem.SeqAt
open L2 (V Hp HO CallR Inv RelV Vals upd upd_same upd_ne SqL SqT Cx EP VK)
variable [WW]
/-- the kind of keys that data make in a heap -/
noncomputable def pKind (h : Heap) (xs : List P) : PyProof.Rows.KeyKind where
  toKeyOrd := PyProof.Rows.listOrd PyProof.Rows.itemOrd
  keyOf v := open Classical in if q : ∃ x, x ∈ xs ∧ ∃ as, Reads h v x.py as then some (tk q.choose) else none
  dflt := ([] : List (Int ⊕ List Nat))
theorem pKind_some {h : Heap} {xs : List P} {v : Value} {x : P} {as : List Addr} (hx : x ∈ xs) (r : Reads h v x.py as) : (pKind h xs).keyOf v = some (tk x) := by
  have q : ∃ x, x ∈ xs ∧ ∃ as, Reads h v x.py as := ⟨x, hx, as, r⟩
  have e : (pKind h xs).keyOf v = some (tk q.choose) := dif_pos q
  obtain ⟨_, bs, r2⟩ := q.choose_spec
  rw [e, reads_one _ _ _ _ _ r2 r]
theorem pKind_inv {h : Heap} {xs : List P} {v : Value} {k : List (Int ⊕ List Nat)} (e : (pKind h xs).keyOf v = some k) : ∃ x as, x ∈ xs ∧ Reads h v x.py as ∧ k = tk x := by
  by_cases q : ∃ x, x ∈ xs ∧ ∃ as, Reads h v x.py as
  · have e' : (pKind h xs).keyOf v = some (tk q.choose) := dif_pos q
    obtain ⟨h1, bs, r2⟩ := q.choose_spec
    rw [e'] at e
    exact ⟨_, bs, h1, r2, (Option.some.inj e).symm⟩
  · have e' : (pKind h xs).keyOf v = none := dif_neg q
    rw [e'] at e; cases e
theorem srt_mem {xs : List P} (h : srtOk xs = true) {x y : P} (hx : x ∈ xs) (hy : y ∈ xs) : x.lim 20 = true ∧ x.sk ≠ 0 ∧ x.cok y = true ∧ x.sk = y.sk := by
  have h1 := List.all_eq_true.mp h x hx
  simp only [Bool.and_eq_true, bne_iff_ne, ne_eq] at h1
  have h2 := List.all_eq_true.mp h1.2.2 y hy
  simp only [Bool.and_eq_true, beq_iff_eq] at h2
  exact ⟨h1.1, h1.2.1, h2.1, h2.2⟩
theorem sk_tup {x : P} (h0 : x.sk ≠ 0) (h : 4 ≤ x.sk) : ∃ y r, x = .tup (y :: r) := by
  unfold P.sk at h0 h
  split at h <;> first | omega | exact ⟨_, _, rfl⟩
theorem sk_oth {x : P} (h0 : x.sk ≠ 0) (h : ¬ 4 ≤ x.sk) : x ≠ .non ∧ ∀ xs, x ≠ .tup xs := by
  refine ⟨fun e => by subst e; simp [P.sk] at h0, fun xs e => ?_⟩
  subst e
  unfold P.sk at h0 h
  split at h <;> simp_all
theorem sk_head {x y : P} {r q : List P} (h0 : (P.tup (x :: r)).sk ≠ 0) (h : (P.tup (x :: r)).sk = (P.tup (y :: q)).sk) : dataType x.py = dataType y.py := by
  cases x <;> cases y <;> simp_all [P.sk] <;> rfl
theorem sk_type {x y : P} (h0 : x.sk ≠ 0) (h4 : ¬ 4 ≤ x.sk) (h : x.sk = y.sk) : dataType x.py = dataType y.py := by
  have hx := (sk_oth h0 h4).2
  have hy := (sk_oth (by rw [← h]; exact h0) (by rw [← h]; exact h4)).2
  cases x <;> cases y <;> first | rfl | (exact absurd rfl (hx _)) | (exact absurd rfl (hy _)) | (simp [P.sk] at h0 h)
theorem py_type_tup {x : P} (h : (dataType x.py != Value.type "tuple") = true) (xs : List P) : x ≠ .tup xs := by
  rintro rfl
  simp [dataType, P.py] at h
theorem SortsAt.P {prog : Program} {w : World} {A : Around} {s : Shared} {vs : List Value} {xs : List G7.P} (e : EachIs (fun v x => ∃ as, Reads s.heap v (G7.P.py x) as) vs xs) (hk : srtOk xs = true) (hu : A.units + 20 < cLine) : SortsAt prog w A s (pKind s.heap xs) vs := by
  have room : ∀ {x y : G7.P}, x ∈ xs → A.units + min x.py.depth y.py.depth < cLine := fun {x y} hx => by
    have := lim_depth x 20 (srt_mem hk hx hx).1
    have := Nat.min_le_left x.py.depth y.py.depth
    omega
  refine ⟨fun v hv => ?_, ?_⟩
  · obtain ⟨x, hx, as, r⟩ := e.left v hv
    exact ⟨_, pKind_some hx r⟩
  · cases xs with
    | nil =>
      cases e
      exact ⟨PyProof.Rows.general', fun E x y a b Q ha _ _ => (by
        obtain ⟨x, _, hx, _⟩ := pKind_inv ha
        exact absurd hx (by simp)), fun h2 => absurd h2 (by simp)⟩
    | cons x0 xr =>
      have m0 : x0 ∈ x0 :: xr := List.mem_cons_self ..
      have h0 := (srt_mem hk m0 m0).2.1
      by_cases h4 : 4 ≤ x0.sk
      · have ht : ∀ x, x ∈ x0 :: xr → ∃ y r, x = G7.P.tup (y :: r) := fun x hx => by
          have q := srt_mem hk hx m0
          exact sk_tup q.2.1 (by rw [q.2.2.2]; exact h4)
        obtain ⟨y0, r0, e0⟩ := ht x0 m0
        have hh : ∀ y r, G7.P.tup (y :: r) ∈ x0 :: xr → dataType y.py = dataType y0.py := fun y r hm => by
          have q := srt_mem hk hm m0
          rw [e0] at q
          exact sk_head q.2.1 q.2.2.2
        refine ⟨PyProof.Rows.tuples' (dataType y0.py != Value.type "tuple"), ?_, fun h2 E Q hq => ?_⟩
        · intro E v v' a b Q ha hb hq
          obtain ⟨x, as, hx, ra, rfl⟩ := pKind_inv ha
          obtain ⟨x', as', hx', rb, rfl⟩ := pKind_inv hb
          have hc := (srt_mem hk hx hx').2.2.1
          have hr := room (y := x') hx
          have hq' : Q (x.lt x') s := by
            have q := lt_lx hc
            rw [← q]; exact hq
          obtain ⟨y1, r1, rfl⟩ := ht x hx
          obtain ⟨y2, r2, rfl⟩ := ht x' hx'
          cases ra with
          | @tuple l o us n _ _ h1 h2 h3 h4 =>
            cases rb with
            | @tuple l' o' us' n' _ _ k1 k2 k3 k4 =>
              have n1 : us.size = (y1 :: r1).length := by rw [← pys_len]; simpa using ReadsAll.length _ _ _ h4
              have n2 : us'.size = (y2 :: r2).length := by rw [← pys_len]; simpa using ReadsAll.length _ _ _ k4
              refine kat_lt h1 h3 k1 k3 (katLex_P (y1 :: r1) (y2 :: r2) 0 _ _ _ _ h4 k4 (by simpa [P.cok] using hc) (by have q := SeqAt.room_in hr; omega) (fun hb _ x r t ex => ?_) (by rw [n1, n2]) (by simpa [P.lt] using hq'))
              obtain ⟨rfl, rfl⟩ := List.cons.inj ex
              rw [← hh _ _ hx] at hb
              exact py_type_tup hb t
        · have e2 := each_map (R := fun v d => ∃ as, Reads s.heap v d as) G7.P.py e
          obtain ⟨fs, t1, t2, t3⟩ := each_katTups e2 (fun d hd => by
            obtain ⟨x, hx, rfl⟩ := List.mem_map.mp hd
            obtain ⟨y, r, rfl⟩ := ht x hx
            exact ⟨y.py, G7.P.pys r, rfl⟩)
          refine kat_kind (T := dataType y0.py) t1 (by omega) (fun f hf => ?_) (beq_self_eq_true _) hq
          obtain ⟨d, r, as, m1, m2⟩ := t3 f hf
          obtain ⟨x, hx, ex⟩ := List.mem_map.mp m1
          obtain ⟨y, r', rfl⟩ := ht x hx
          simp only [G7.P.py, G7.P.pys, PyData.tuple.injEq, List.cons.injEq] at ex
          rw [← hh _ _ hx, ex.1]
          exact looks_reads m2
      · refine ⟨PyProof.Rows.oneType', ?_, fun h2 E Q hq => ?_⟩
        · intro E v v' a b Q ha hb hq
          obtain ⟨x, as, hx, ra, rfl⟩ := pKind_inv ha
          obtain ⟨x', as', hx', rb, rfl⟩ := pKind_inv hb
          have q := srt_mem hk hx hx'
          have q0 := srt_mem hk hx m0
          rw [PyProof.Rows.keyLt'_oneType]
          refine oneLt_P (fun _ => (sk_oth q.2.1 (by rw [q0.2.2.2]; exact h4)).2) ra rb q.2.2.1 (room hx) ?_
          rw [← lt_lx q.2.2.1]; exact hq
        · refine kas_kind (T := dataType x0.py) h2 (fun v hv => ?_) ?_ (beq_self_eq_true _) hq
          · obtain ⟨x, hx, as, r⟩ := e.left v hv
            have q := srt_mem hk hx m0
            rw [← sk_type q.2.1 (by rw [q.2.2.2]; exact h4) q.2.2.2]
            exact looks_reads r
          · exact dataType_other fun xs z => by
              have hn := (sk_oth h0 h4).2
              cases x0 <;> first | (exact hn _ rfl) | (cases z)
theorem srt_le {xs : List P} (h : srtOk xs = true) : xs.mergeSort (sortLe (PyProof.Rows.listOrd PyProof.Rows.itemOrd) false tk) = srtP xs := by
  refine sort_congr fun a ha b hb => ?_
  show (!lx (tk b) (tk a)) = P.le a b
  rw [lt_lx (srt_mem h hb ha).2.2.1]
  rfl
theorem each_vals {F : Hp} : ∀ {ws : List V} {us : List Value} {xs : List P}, Vals ws us → HasPs F ws xs → EachIs (fun u x => ∃ y : V, RelV y u ∧ HasP F y x) us xs
  | _, _, _, .nil, h => by cases h; exact .nil
  | _, _, _, .cons r t, h => by cases h with | cons a b => exact .cons ⟨_, r, a⟩ (each_vals t b)
theorem vals_each {F : Hp} : ∀ {us : List Value} {xs : List P}, EachIs (fun u x => ∃ y : V, RelV y u ∧ HasP F y x) us xs → ∃ ws, Vals ws us ∧ HasPs F ws xs
  | _, _, .nil => ⟨[], .nil, .nil⟩
  | _, _, .cons ⟨y, r, h⟩ t => by
    obtain ⟨ws, h1, h2⟩ := vals_each t
    exact ⟨y :: ws, .cons r h1, .cons h h2⟩
theorem cr_sortedP {X : Cx} (hu : X.A.units + 64 < cLine) : CallR X (.builtin "sorted") (fun vs H Q => ∃ (F : Hp) (q : Addr) (ws : List V) (xs : List P), vs = [.ref q] ∧ H q = some (.lst ws) ∧ Sub F H ∧ HasPs F ws xs ∧ srtOk xs = true ∧ xs.length ≤ sizeLine ∧
    ∀ p us, H p = none → HasPs F us (srtP xs) → Q (.ref p) (upd H p (.lst us))) := by
  intro pins s σ H vs us Q I r h
  obtain ⟨F, a, ws, xs, rfl, hs, sub, hp, hk, hz, q⟩ := h
  obtain ⟨_, its, n, rv, hob⟩ := I.hok a _ hs
  rw [L2.Vals.ref1 r]
  have el := hp.length
  have rl := rv.length
  have er : EachIs (fun v x => ∃ y : V, RelV y v ∧ HasP F y x) its xs := each_vals rv hp
  have hl : s.heap.IsList a its.toArray := ⟨_, hob, rfl, _, rfl⟩
  have rd : EachIs (fun v x => ∃ as, Reads s.heap v (P.py x) as) its xs := er.mono fun v x ⟨y, h1, h2⟩ => L2.Dp.reads I _ y v (HasP.dp (K := X.K) sub x y h2) h1
  have rd' : EachIs (fun v x => ∃ as, Reads (sortingHeap (copyHeap s.heap its) (s.heap.objs.size + 1) its) v (P.py x) as) its xs := rd.mono fun _ _ ⟨as, r⟩ => ⟨as, PyProof.Rows.Reads.keeps (fun _ _ => sorting_copy_old) r⟩
  have un : X.A.in1.in1.units = X.A.units + 1 + 1 := rfl
  refine sorted_vals hl (SortsAt.P (s := { s with heap := sortingHeap (copyHeap s.heap its) (s.heap.objs.size + 1) its }) rd' hk (by omega)) (by omega) ?_
  have so := sortVals_each (κ := pKind (sortingHeap (copyHeap s.heap its) (s.heap.objs.size + 1) its) xs) (rev := false) tk er ((each_mem rd').mono fun v x ⟨⟨as, r⟩, hx⟩ => pKind_some hx r)
  have e2 : xs.mergeSort (sortLe (pKind (sortingHeap (copyHeap s.heap its) (s.heap.objs.size + 1) its) xs).toKeyOrd false tk) = srtP xs := srt_le hk
  rw [e2] at so
  obtain ⟨us', h1, h2⟩ := vals_each so
  obtain ⟨ep, he⟩ := PyProof.Rows.sortedAll_at s.heap its (sortVals (pKind (sortingHeap (copyHeap s.heap its) (s.heap.objs.size + 1) its) xs) false its its).toArray
  have hlen : us'.length ≤ sizeLine := by rw [h2.length]; unfold srtP; rw [List.length_mergeSort]; exact hz
  exact ⟨.ref _, upd H (s.heap.objs.size + 1) (.lst us'), I.laid (t' := s.toks) (fun _ _ => PyProof.Rows.sortedAll_old) (Nat.le_succ _) ⟨hlen, _, ep, h1, he⟩, rfl, q _ _ (I.hok.fresh (Nat.le_succ _)) h2⟩
end G7

namespace G7
open PySem PySem.W PySem.SeqAt
open L2 (V Hp HO CallR Inv RelV Vals upd upd_same upd_ne SqL SqT Cx EP VK)
variable [WW]
mutual
theorem eqv_comm : ∀ x y : P, x.eqv y = y.eqv x
  | .non, y => by cases y <;> simp [P.eqv]
  | .bl a, y => by cases y <;> simp [P.eqv] <;> exact Bool.beq_comm
  | .int a, y => by cases y <;> simp [P.eqv] <;> exact Bool.beq_comm
  | .str a, y => by cases y <;> simp [P.eqv] <;> exact Bool.beq_comm
  | .tup xs, y => by
    cases y with
    | tup ys => simp only [P.eqv]; exact eqvs_comm xs ys
    | _ => simp [P.eqv]
  | .lst xs, y => by
    cases y with
    | lst ys => simp only [P.eqv]; exact eqvs_comm xs ys
    | _ => simp [P.eqv]
theorem eqvs_comm : ∀ xs ys : List P, P.eqvs xs ys = P.eqvs ys xs
  | [], [] => rfl
  | [], _ :: _ => by simp [P.eqvs]
  | _ :: _, [] => by simp [P.eqvs]
  | x :: xs, y :: ys => by simp only [P.eqvs, eqv_comm x y, eqvs_comm xs ys]
end
theorem gok_comm : ∀ xs ys : List P, gokB xs ys = gokB ys xs
  | [], [] => rfl
  | [], _ :: _ => rfl
  | _ :: _, [] => rfl
  | x :: xs, y :: ys => by
    unfold gokB
    rw [eqv_comm x y, gok_comm xs ys]
    split
    · rfl
    · cases x <;> cases y <;> rfl
theorem gok_self : ∀ xs : List P, (∀ x ∈ xs, x.eqv x = true) → gokB xs xs = true
  | [], _ => rfl
  | x :: xs, h => by
    unfold gokB
    rw [if_pos (h x List.mem_cons_self)]
    exact gok_self xs fun y hy => h y (List.mem_cons_of_mem _ hy)
mutual
theorem eqv_self : ∀ x : P, x.eqv x = true
  | .non => rfl
  | .bl b => by simp [P.eqv]
  | .int i => by simp [P.eqv]
  | .str x => by simp [P.eqv]
  | .tup xs => by simp only [P.eqv]; exact eqvs_self xs
  | .lst xs => by simp only [P.eqv]; exact eqvs_self xs
theorem eqvs_self : ∀ xs : List P, P.eqvs xs xs = true
  | [] => rfl
  | x :: xs => by simp [P.eqvs, eqv_self x, eqvs_self xs]
end
theorem gok_at : ∀ (xs ys : List P), gokB xs ys = true → ∀ j, j < xs.length → j < ys.length → (∀ i, i < j → eqF xs ys i = true) → eqF xs ys j = false → ∃ a b, xs.getD j .non = .int a ∧ ys.getD j .non = .int b
  | [], _, _, j, h1, _, _, _ => absurd h1 (Nat.not_lt_zero j)
  | _ :: _, [], _, j, _, h2, _, _ => absurd h2 (Nat.not_lt_zero j)
  | x :: xs, y :: ys, h, 0, _, _, _, he => by
    have he : x.eqv y = false := he
    unfold gokB at h
    rw [if_neg (by rw [he]; exact Bool.false_ne_true)] at h
    cases x with
    | int a =>
      cases y with
      | int b => exact ⟨a, b, rfl, rfl⟩
      | _ => cases h
    | _ => cases h
  | x :: xs, y :: ys, h, j + 1, h1, h2, al, he => by
    have h0 : x.eqv y = true := al 0 (Nat.succ_pos j)
    unfold gokB at h
    rw [if_pos h0] at h
    obtain ⟨a, b, e1, e2⟩ := gok_at xs ys h j (by simpa using h1) (by simpa using h2) (fun i hi => al (i + 1) (by omega)) he
    exact ⟨a, b, by simpa using e1, by simpa using e2⟩
theorem rcGt_P {xs ys : List P} {A : Around} {s : Shared} {a b : Value} {as bs : List Addr} (ra : Reads s.heap a (P.tup xs).py as) (rb : Reads s.heap b (P.tup ys).py bs) (hg : gokB xs ys = true) (hu : A.units + min (P.tup xs).py.depth (P.tup ys).py.depth < cLine) : RcOp .Gt A s a b (P.lts ys xs) := by
  cases ra with
  | @tuple l o vs n _ as1 h1 h2 h3 h4 =>
    cases rb with
    | @tuple l' o' vs' n' _ bs1 k1 k2 k3 k4 =>
      have n1 : vs.size = xs.length := by rw [← pys_len]; simpa using ReadsAll.length _ _ _ h4
      have n2 : vs'.size = ys.length := by rw [← pys_len]; simpa using ReadsAll.length _ _ _ k4
      have e : P.lts ys xs = firstLt (eqF xs ys) (ltF ys xs) (decide (vs.size > vs'.size)) (List.range (min vs.size vs'.size)) := by
        rw [n1, n2, ← firstLt_P ys xs, Nat.min_comm ys.length xs.length]
        have e1 : eqF ys xs = eqF xs ys := funext fun j => eqv_comm _ _
        rw [e1]
      rw [e]
      refine G7O.rc_tupGt ⟨_, h1, h2, _, h3⟩ ⟨_, k1, k2, _, k3⟩ (room_here hu) (eqs_P xs ys A s vs vs' _ _ h4 k4 hu) fun j j1 j2 al hj => ?_
      obtain ⟨i1, i2, e1, e2⟩ := gok_at xs ys hg j (by omega) (by omega) al hj
      have r1 := readsAll_at (vs := vs.toList) h4 j vs[j] (by simp [j1])
      have r2 := readsAll_at (vs := vs'.toList) k4 j vs'[j] (by simp [j2])
      obtain ⟨bs1, r1, _⟩ := r1
      obtain ⟨bs2, r2, _⟩ := r2
      rw [pys_getD, e1] at r1
      rw [pys_getD, e2] at r2
      have q := rcGt_alike (.int i1) (.int i2) A.in1 s _ _ _ _ r1 r2 rfl (fun z => nomatch z) (by have := room_in hu; simp only [PyData.depth]; exact Nat.lt_of_le_of_lt (by omega) this)
      rw [dataLt_int] at q
      have : ltF ys xs j = decide (i2 < i1) := by
        unfold ltF
        rw [e1, e2]
        simp [P.lt]
      rw [this]
      exact q
/-- max(a, b) of two values whose order is known while the heap stands -/
theorem max_twoH {prog : Program} {w : World} {A : Around} {E : Value → Shared → Prop} {s : Shared} {a b : Value} {Q : Value → Shared → Prop} (hh : A.handled = none) (bt : Nat → Nat → Bool)
    (hc : ∀ (i j : Nat) (vi vj : Value) (t : Shared), (∀ c o, s.heap.get? c = some o → t.heap.get? c = some o) → (#[a, b] : Array Value)[i]? = some vi → (#[a, b] : Array Value)[j]? = some vj → RcOp .Gt A.in1 t vi vj (bt i j))
    (h : ∀ h' tk, (∀ c o, s.heap.get? c = some o → h'.get? c = some o) → Q (if bt 1 0 = true then b else a) { s with heap := h', toks := tk }) : wpAny (model prog w) A (call (.builtin "max") [a, b]) Q E s := by
  have nm : (toString "max" ++ toString ".loop" : String) = "max.loop" := by decide
  refine call_function_tree F.kind_max F.plain_max F.entry_max (F.args_max2 _ _) ?_
  show wpAny _ A.in1 (Builtin.Builtins.bindParams "max" ["key", "default"] 0 ⟨[], []⟩ >>= _) _ _ s
  refine wpAny_bind (wpAny_of_eq (show Builtin.Builtins.bindParams "max" ["key", "default"] 0 ⟨[], []⟩ = pure [none, none] from rfl) ?_)
  show wpAny _ A.in1 (newTuple [a, b] >>= _) _ _ s
  refine wpAny_bind (wpAny_newObj_type ?_)
  have hT : (s.heap.push { cls := .type "tuple", data := .seq #[a, b] }).IsTuple s.heap.objs.size #[a, b] := ⟨_, Heap.get?_push_size _ rfl, rfl, 0, rfl⟩
  refine wpAny_bind (iter_tupleW (s := { s with heap := s.heap.push { cls := .type "tuple", data := .seq #[a, b] } }) (A := A.in1) hh hT fun s2 e2 W st hfp hw hk => ?_)
  have hz : (s.heap.push { cls := .type "tuple", data := .seq #[a, b] }).objs.size = s.heap.objs.size + 1 := Heap.size_push ..
  have keep : ∀ c o, s.heap.get? c = some o → s2.heap.get? c = some o := fun c o e => hk c o (Heap.get?_push_of_some _ e)
  have out : ∀ c o, s.heap.get? c = some o → c ∉ [(s.heap.push { cls := .type "tuple", data := .seq #[a, b] }).objs.size] := fun c o e hm => by
    have h1 := Heap.lt_size e
    have h2 : c = (s.heap.push { cls := .type "tuple", data := .seq #[a, b] }).objs.size := by simpa using hm
    rw [h2, hz] at h1
    exact absurd h1 (Nat.not_lt.mpr (Nat.le_succ _))
  refine wpAny_bind (wpAny_newObj_type ?_)
  have nf : s2.heap.objs.size ∉ _ := fun hm => Nat.lt_irrefl _ (hfp _ hm)
  rw [nm]
  refine wpAny_pure ⟨plainId_quiet F.plain_max_loop _, codeAny_max_loop_firstH W s.heap out bt (fun i j vi vj t Q' E' hs hi hj hq => hc i j vi vj t hs hi hj prog w E' Q' hq) s2.heap.objs.size nf (fresh_in keep) _ (by simp) (fun c o e => Heap.get?_push_of_some _ (keep c o e)) (W.frame 0 s2 _ s2.toks st (Nat.le_refl _) fun c _ o e => Heap.get?_push_of_some _ e) (Heap.get?_push_size _ rfl) fun v s' hP hm => ?_⟩
  have hm := Moved.drop_new (tk := s2.toks) hm (Nat.le_refl _)
  obtain ⟨h', tk, rfl, hk'⟩ := moved_old e2 rfl hm
  have hv : v = if bt 1 0 = true then b else a := by
    have hP : (#[a, b] : Array Value)[argBest bt 1]? = some v := hP
    by_cases hb : bt 1 0 = true
    · have e : argBest bt 1 = 1 := by simp [argBest, hb]
      rw [e] at hP
      rw [if_pos hb]
      simpa using hP.symm
    · have e : argBest bt 1 = 0 := by simp [argBest, hb]
      rw [e] at hP
      rw [if_neg hb]
      simpa using hP.symm
  rw [hv]
  exact h h' tk fun c o e => hk' c o (Heap.get?_push_of_some _ e)
theorem cr_maxT {X : Cx} (hc : X.calm = true) (hu : X.A.units + 64 < cLine) : CallR X (.builtin "max") (fun vs H Q => ∃ (F : Hp) (x y : V) (xs ys : List P), vs = [x, y] ∧ Sub F H ∧ HasP F x (.tup xs) ∧ HasP F y (.tup ys) ∧ gokB xs ys = true ∧ (P.tup xs).lim 20 = true ∧ (P.tup ys).lim 20 = true ∧
    Q (if P.lts xs ys = true then y else x) H) := by
  intro pins s σ H vs us Q I r h
  obtain ⟨F, x, y, xs, ys, rfl, sub, hx, hy, hg, l1, l2, q⟩ := h
  obtain ⟨u, v, rfl, ru, rv⟩ := r.two
  obtain ⟨as, r1⟩ := L2.Dp.reads I _ x u (HasP.dp (K := X.K) sub _ x hx) ru
  obtain ⟨bs, r2⟩ := L2.Dp.reads I _ y v (HasP.dp (K := X.K) sub _ y hy) rv
  have d1 := lim_depth _ 20 l1
  have d2 := lim_depth _ 20 l2
  have un : X.A.in1.units = X.A.units + 1 := rfl
  have hroom : ∀ p q : List P, (P.tup p).py.depth ≤ 20 → X.A.in1.units + min (P.tup p).py.depth (P.tup q).py.depth < cLine := fun p q hp => by
    have := Nat.min_le_left (P.tup p).py.depth (P.tup q).py.depth
    omega
  have gx := gok_self xs fun z _ => eqv_self z
  have gy := gok_self ys fun z _ => eqv_self z
  refine max_twoH (I.ok.hd hc) (fun i j => match i, j with
    | 0, 0 => P.lts xs xs
    | 0, _ => P.lts ys xs
    | _, 0 => P.lts xs ys
    | _, _ => P.lts ys ys) (fun i j vi vj t hs hi hj => ?_) fun h' tk hk => ?_
  · have q1 : Reads t.heap u (P.tup xs).py as := PyProof.Rows.Reads.keeps hs r1
    have q2 : Reads t.heap v (P.tup ys).py bs := PyProof.Rows.Reads.keeps hs r2
    match i, j, hi, hj with
    | 0, 0, hi, hj => cases hi; cases hj; exact rcGt_P q1 q1 gx (hroom _ _ d1)
    | 0, 1, hi, hj => cases hi; cases hj; exact rcGt_P q1 q2 hg (hroom _ _ d1)
    | 1, 0, hi, hj => cases hi; cases hj; exact rcGt_P q2 q1 (by rw [gok_comm]; exact hg) (hroom _ _ d2)
    | 1, 1, hi, hj => cases hi; cases hj; exact rcGt_P q2 q2 gy (hroom _ _ d2)
    | i + 2, _, hi, _ => simp at hi
    | 0, j + 2, _, hj => simp at hj
    | 1, j + 2, _, hj => simp at hj
  · show EP X pins σ Q (if P.lts xs ys = true then v else u) _
    by_cases e : P.lts xs ys = true
    · rw [if_pos e] at q ⊢
      exact ⟨y, H, I.kept hk, rv, q⟩
    · rw [if_neg e] at q ⊢
      exact ⟨x, H, I.kept hk, ru, q⟩
theorem cr_maxB {X : Cx} (hc : X.calm = true) (hu : X.A.units + 64 < cLine) : CallR X (.builtin "max") (rB2 X.K .maxT) := by
  intro pins s σ H xs us Q I r h
  obtain ⟨F, ρ, t, x, y, a, b, c, rfl, st, hx, hy, g, q⟩ := h
  unfold b2P at g
  split at g <;> first | contradiction | skip
  split at g
  · rename_i g1
    cases g
    refine cr_maxT hc hu pins s σ H _ us Q I r ⟨F, x, y, _, _, rfl, st.sub, hx, hy, g1.1, g1.2.1, g1.2.2, ?_⟩
    split
    · rename_i z; rw [if_pos z] at q; exact q.now st (.p hy)
    · rename_i z; rw [if_neg z] at q; exact q.now st (.p hx)
  · cases g
end G7

namespace G7
open PySem PySem.Spec
open L2 (V Hp HO St WX TE TS R2 OpR CallR MtR MtM SlR IxR Inv RelV Vals upd upd_same upd_ne ne_of_none SqL SqT Cx Room EP VK PE PT PA PI PG PO Sp XK It TI TG FnOk)
variable [WW]

theorem star1 {x : Expr} {xs : List Expr} {env : Env} (h : plainE x = true) : starEach (x :: xs) env = (false, eval x env) :: starEach xs env := by
  cases x <;> first | rfl | (simp [plainE] at h)
theorem star_all {pos : Pos} {env : Env} : ∀ {xs : List Expr}, (xs.all plainE) = true → (backTo pos (starEach xs env)).any (·.1) = false
  | [], _ => rfl
  | x :: xs, h => by
    rw [List.all_cons] at h
    obtain ⟨h1, h2⟩ := ba h
    rw [star1 h1]
    show (false || (backTo pos (starEach xs env)).any (·.1)) = false
    rw [star_all h2]; rfl
theorem base1 {o : Expr} {n : Str} {env : Env} {w : Sem Value} (h : plainE o = true) : attributeBase o n env w = w := by
  cases o <;> try rfl
  rename_i f args kws pos
  cases f <;> try rfl
  cases args <;> try rfl
  cases kws <;> try rfl
  simp [plainE] at h
theorem plainIx1 {e : Expr} (h : plainE e = true) : L2.PlainIx e := by
  intro o i
  cases e <;> first | rfl | (simp [plainE] at h)
theorem noSet1 {e : Expr} (op : CmpOp) (h : plainE e = true) : behindInMarks op e = false := by
  cases e <;> first | rfl | (simp [plainE] at h)
theorem noFold1 {e : Expr} {env : Env} (h : plainE e = true) : ∀ x, foldedSetIterable e env x = pure x := by
  intro x
  cases e <;> first | rfl | (simp [plainE] at h)
theorem plainTest1 {e : Expr} {env : Env} (h : plainT e = true) : ∀ whole, isTrue e env whole = (do let v ← whole; standAt e.pos; holding [v] (truthy v)) := by
  intro w
  cases e <;> first | rfl | (simp [plainT] at h; done) | skip
  rename_i op x pos
  cases op <;> first | rfl | (simp [plainT] at h)

theorem strs_has {F : Hp} : ∀ xs : List Str, HasPs F (xs.map V.str) (xs.map P.str)
  | [] => .nil
  | x :: xs => .cons (.str x) (strs_has xs)
section
variable {T : Tabs} {G : Fns} {k : Nat} {c : Ct} {W : WX} {X : Cx} {xc : Nat → Value} {a b d : Expr} {as : List Expr} {fa fb fc : Sl → Sto → R D} {fs : Sl → Sto → R (List D)} {pos : Pos}
theorem s_nil : PA X [] (tA X.K xc W fun _ s => .ok [] s) := PA.imp L2.pa_nil fun σ H Q ⟨F, ρ, τ, s, st, sl, h⟩ => h.now st _ .nil
theorem s_cons (ha : PE X a (tE X.K xc W fa)) (hs : PA X as (tA X.K xc W fs)) (hp : plainE a = true) :
    PA X (a :: as) (tA X.K xc W fun σ s => (fa σ s).bind fun d s => (fs σ s).bind fun ds s => .ok (d :: ds) s) := by
  refine PA.imp (L2.pa_cons ha hs (star1 hp)) fun σ H Q ⟨F, ρ, τ, s, st, sl, h⟩ => ?_
  refine ⟨F, ρ, τ, s, st, sl, h.bind.imp fun d s1 F1 H1 ρ1 e1 st1 h1 x hx => ?_⟩
  refine ⟨F1, ρ1, τ, s1, st1, sl.mono e1, h1.bind.imp fun ds s2 F2 H2 ρ2 e2 st2 h2 xs hxs => ?_⟩
  exact h2.now st2 _ (.cons (HasD.mono e2 _ _ hx) hxs)
theorem size1000 {n m : Nat} (h : n ≤ 1000) (e : m = n) : m ≤ sizeLine := by
  rw [sizeLine_eq]; omega
/-- how many values -/
theorem evs_len {G : Fns} : ∀ {es : Es} {τ : Sl} {s s' : Sto} {ds : List D} {xs : List Expr} {T : Tabs} {c : Ct}, ckEs T c es xs = true → evs G es τ s = .ok ds s' → ds.length = xs.length
  | .nil, τ, s, s', ds, xs, T, c, h, e => by
    cases xs with
    | nil => simp only [evs] at e; cases e; rfl
    | cons x xs => simp [ckEs] at h
  | .cons e0 es, τ, s, s', ds, xs, T, c, h, e => by
    cases xs with
    | nil => simp [ckEs] at h
    | cons x xs =>
      simp only [ckEs] at h
      obtain ⟨h1, h2⟩ := ba h
      obtain ⟨h2, h3⟩ := ba h2
      simp only [evs] at e
      cases g : ev G e0 τ s with
      | bad => rw [g] at e; cases e
      | exc n s1 => rw [g] at e; cases e
      | ok d s1 =>
        rw [g, R.bind_ok] at e
        cases g2 : evs G es τ s1 with
        | bad => rw [g2] at e; cases e
        | exc n s1 => rw [g2] at e; cases e
        | ok ds2 s2 =>
          rw [g2] at e
          cases e
          rw [List.length_cons, List.length_cons, evs_len h3 g2]
theorem s_tup {es : Es} {kk : Nat} (hs : PA X as (tA X.K xc W (evs G es))) (hck : ckEs T c es as = true) (hl : as.length ≤ 1000) :
    PE X (.Tuple as kk pos) (tE X.K xc W fun σ s => (evs G es σ s).bind fun ds s => .ok (mkTup ds) s) := by
  refine PE.imp (L2.pe_tup hs) fun σ H Q ⟨F, ρ, τ, s, st, sl, h⟩ => ?_
  refine ⟨F, ρ, τ, s, st, sl, h.bind.impE fun ds s1 F1 H1 ρ1 g e1 st1 h1 xs hxs => ?_⟩
  refine ⟨size1000 hl (hxs.length.trans (evs_len hck g)), fun p hp => ?_⟩
  exact h1 _ _ _ (st1.xnew hp) (st1.new hp) _ (HasD.mkTup upd_same (size1000 hl (evs_len hck g)) (HasDs.mono (st1.xnew hp) _ _ hxs))
theorem t_fz {K : PySem.W.Frag} {σ : St} {H : Hp} {Q : VK} {fl : Sl → Sto → R (List P)} (h : tE K xc W (fun σ s => (fl σ s).bind fun xs s => .ok (.p (.lst xs)) s) σ H Q) : tL K xc W fl σ H Q := by
  obtain ⟨F, ρ, τ, s, st, sl, h⟩ := h
  refine ⟨F, ρ, τ, s, st, sl, h.bind.imp fun xs s1 F1 H1 ρ1 e1 st1 h1 p vs hp z r => ?_⟩
  exact h1 _ _ _ (st1.xnew hp) (st1.new hp) _ (.p (.lst upd_same z (r.mono (sub_upd (st1.sub.none hp)))))
theorem s_fz {fl : Sl → Sto → R (List P)} (hl : PE X a (tL X.K xc W fl)) : PE X a (tE X.K xc W fun σ s => (fl σ s).bind fun xs s => .ok (.p (.lst xs)) s) := PE.imp hl fun σ H Q h => t_fz h
theorem t_own {K : PySem.W.Frag} {σ : St} {H : Hp} {Q : VK} {fl : Sl → Sto → R (List P)} (h : tE K xc W (fun σ s => (fl σ s).bind fun xs s => .ok (.tmp s.t.length) (s.pushT (.lst xs))) σ H Q) : tL K xc W fl σ H Q := by
  obtain ⟨F, ρ, τ, s, st, sl, h⟩ := h
  refine ⟨F, ρ, τ, s, st, sl, h.bind.imp fun xs s1 F1 H1 ρ1 e1 st1 h1 p vs hp z r => ?_⟩
  refine h1 _ _ _ (st1.xpush hp) (st1.pushT hp z r) _ (.tmp ?_)
  rw [← st1.tl]; simp
theorem s_own {fl : Sl → Sto → R (List P)} (hl : PE X a (tL X.K xc W fl)) : PE X a (tE X.K xc W fun σ s => (fl σ s).bind fun xs s => .ok (.tmp s.t.length) (s.pushT (.lst xs))) := PE.imp hl fun σ H Q h => t_own h
theorem s_disp {es : Es} (hs : PA X as (tA X.K xc W (evs G es))) (hck : ckEs T c es as = true) (hl : as.length ≤ 1000) :
    PE X (.List as pos) (tL X.K xc W fun σ s => (evs G es σ s).bind fun ds s => R.of (allP ds) s) := by
  refine PE.imp (L2.pe_lst hs) fun σ H Q ⟨F, ρ, τ, s, st, sl, h⟩ => ?_
  refine ⟨F, ρ, τ, s, st, sl, h.bind.impE fun ds s1 F1 H1 ρ1 g e1 st1 h1 xs hxs => ?_⟩
  obtain ⟨ps, e2, h2⟩ := h1.of
  exact ⟨size1000 hl (hxs.length.trans (evs_len hck g)), fun p hp => h2.now st1 p xs hp (by rw [allP_len e2]; exact size1000 hl (evs_len hck g)) (allP_has e2 hxs)⟩
/-! ### and, or -/
theorem s_one {op : BoolOp} (ha : PE X a (tE X.K xc W fa)) : PE X (.BoolOp op [a] pos) (tE X.K xc W fun σ s => (fa σ s).bind fun d s => .ok d s) := by
  refine PE.imp (L2.pe_one ha) fun σ H Q h => ?_
  exact t_one (r := fun x H Q => Q x H) h fun x d F H ρ s st hx h => h.now st x hx
theorem s_and (ha : PE X a (tE X.K xc W fa)) (hb : PE X (.BoolOp .And (b :: as) pos) (tE X.K xc W fb)) : PE X (.BoolOp .And (a :: b :: as) pos) (tE X.K xc W fun σ s => (fa σ s).bind fun d s => (match d with
      | .p (.bl true) => fb σ s
      | .p (.bl false) => .ok (.p (.bl false)) s
      | _ => .bad)) := by
  refine PE.imp (L2.pe_and ha hb) fun σ H Q ⟨F, ρ, τ, s, st, sl, h⟩ => ?_
  refine ⟨F, ρ, τ, s, st, sl, h.bind.imp fun d s1 F1 H1 ρ1 e1 st1 h1 x hx => ?_⟩
  split at h1
  · cases hx.bl; exact ⟨true, rfl, L2.iteT ⟨F1, ρ1, τ, s1, st1, sl.mono e1, h1⟩⟩
  · cases hx.bl; exact ⟨false, rfl, L2.iteF (h1.now st1 _ (.p (.bl false)))⟩
  · exact h1.elim
theorem s_or (ha : PE X a (tE X.K xc W fa)) (hb : PE X (.BoolOp .Or (b :: as) pos) (tE X.K xc W fb)) : PE X (.BoolOp .Or (a :: b :: as) pos) (tE X.K xc W fun σ s => (fa σ s).bind fun d s => (match d with
      | .p (.bl false) => fb σ s
      | .p (.bl true) => .ok (.p (.bl true)) s
      | _ => .bad)) := by
  refine PE.imp (L2.pe_or ha hb) fun σ H Q ⟨F, ρ, τ, s, st, sl, h⟩ => ?_
  refine ⟨F, ρ, τ, s, st, sl, h.bind.imp fun d s1 F1 H1 ρ1 e1 st1 h1 x hx => ?_⟩
  split at h1
  · cases hx.bl; exact ⟨false, rfl, L2.iteF ⟨F1, ρ1, τ, s1, st1, sl.mono e1, h1⟩⟩
  · cases hx.bl; exact ⟨true, rfl, L2.iteT (h1.now st1 _ (.p (.bl true)))⟩
  · exact h1.elim
theorem PW.imp {e : Expr} {t t' : L2.TT} (h : L2.PW X e t) (g : ∀ σ H Q, t' σ H Q → t σ H Q) : L2.PW X e t' := ⟨fun wh pins s σ H Q I q => h.run wh pins s σ H Q I (g σ H Q q)⟩
theorem t_same {f : Sl → Sto → R D} {K : PySem.W.Frag} {σ : St} {H : Hp} {Q : Bool → Hp → Prop} (h : tT K xc W (fun σ s => (f σ s).bind fun d s => .ok d s) σ H Q) : tT K xc W f σ H Q := by
  obtain ⟨F, ρ, τ, s, st, sl, h⟩ := h
  exact ⟨F, ρ, τ, s, st, sl, h.bind.imp fun d s1 F1 H1 ρ1 e1 st1 h1 => h1.now st1⟩
theorem s_andT1 (ha : PT X a (tT X.K xc W fa)) : L2.PW X (.BoolOp .And [a] pos) (tT X.K xc W fun σ s => (fa σ s).bind fun d s => .ok d s) :=
  PW.imp (L2.pw_and1 ha) fun σ H Q h => t_same h
theorem s_orT1 (ha : PT X a (tT X.K xc W fa)) : L2.PW X (.BoolOp .Or [a] pos) (tT X.K xc W fun σ s => (fa σ s).bind fun d s => .ok d s) :=
  PW.imp (L2.pw_or1 ha) fun σ H Q h => t_same h
theorem s_andT (ha : PT X a (tT X.K xc W fa)) (hb : L2.PW X (.BoolOp .And (b :: as) pos) (tT X.K xc W fb)) : L2.PW X (.BoolOp .And (a :: b :: as) pos) (tT X.K xc W fun σ s => (fa σ s).bind fun d s => (match d with
      | .p (.bl true) => fb σ s
      | .p (.bl false) => .ok (.p (.bl false)) s
      | _ => .bad)) := by
  refine PW.imp (L2.pw_and ha hb) fun σ H Q ⟨F, ρ, τ, s, st, sl, h⟩ => ?_
  refine ⟨F, ρ, τ, s, st, sl, h.bind.imp fun d s1 F1 H1 ρ1 e1 st1 h1 => ?_⟩
  split at h1
  · exact ⟨true, rfl, L2.iteT ⟨F1, ρ1, τ, s1, st1, sl.mono e1, h1⟩⟩
  · obtain ⟨b, e, q⟩ := h1.now st1
    cases e
    exact ⟨false, rfl, L2.iteF q⟩
  · exact h1.elim
theorem s_orT (ha : PT X a (tT X.K xc W fa)) (hb : L2.PW X (.BoolOp .Or (b :: as) pos) (tT X.K xc W fb)) : L2.PW X (.BoolOp .Or (a :: b :: as) pos) (tT X.K xc W fun σ s => (fa σ s).bind fun d s => (match d with
      | .p (.bl false) => fb σ s
      | .p (.bl true) => .ok (.p (.bl true)) s
      | _ => .bad)) := by
  refine PW.imp (L2.pw_or ha hb) fun σ H Q ⟨F, ρ, τ, s, st, sl, h⟩ => ?_
  refine ⟨F, ρ, τ, s, st, sl, h.bind.imp fun d s1 F1 H1 ρ1 e1 st1 h1 => ?_⟩
  split at h1
  · exact ⟨false, rfl, L2.iteF ⟨F1, ρ1, τ, s1, st1, sl.mono e1, h1⟩⟩
  · obtain ⟨b, e, q⟩ := h1.now st1
    cases e
    exact ⟨true, rfl, L2.iteT q⟩
  · exact h1.elim
/-- a test whose value is asked -/
theorem s_valT (ha : PE X a (tE X.K xc W fa)) (hp : plainT a = true) : PT X a (tT X.K xc W fa) :=
  PT.imp (L2.pt_val ha (plainTest1 hp)) fun σ H Q h => t_test h
/-! ### calls -/
theorem ckEs_plain {T : Tabs} {c : Ct} : ∀ {es : Es} {xs : List Expr}, ckEs T c es xs = true → xs.all plainE = true
  | .nil, [], _ => rfl
  | .nil, _ :: _, h => by simp [ckEs] at h
  | .cons _ _, [], h => by simp [ckEs] at h
  | .cons e es, x :: xs, h => by
    simp only [ckEs] at h
    obtain ⟨h1, h2⟩ := ba h
    obtain ⟨h2, h3⟩ := ba h2
    rw [List.all_cons, h2, ckEs_plain h3]; rfl
theorem s_call (hX : XE T G k c W X) {f : Nat} {x : Str} {es : Es} {p : Pos} (h1 : T.fnAt f x (a :: as).length = true) (h2 : isGl c.sc x = true) (h3 : okn x = true) (hck : ckEs T c es (a :: as) = true) (hs : PA X (a :: as) (tA X.K (xcOf T X.K) W (evs G es))) :
    PE X (.Call (.Name x p) (a :: as) [] pos) (tE X.K (xcOf T X.K) W fun σ s => (evs G es σ s).bind fun ds s => G f ds s) := by
  unfold Tabs.fnAt at h1
  split at h1
  · rename_i fe hfe
    obtain ⟨h1, hl⟩ := ba h1
    have e := of_decide_eq_true h1
    have hl := of_decide_eq_true hl
    obtain ⟨fd, F, hb, hm, hk⟩ := hX.fns f fe hfe (by rw [e])
    rw [show fe.at_.1 = x by rw [e]] at hm
    have hp := ckEs_plain hck
    rw [List.all_cons] at hp
    obtain ⟨hp1, hp2⟩ := ba hp
    refine PE.imp (L2.pe_callS F hX.room (hX.gl h2) hm hk hb (fun σ => L2N.passAt hX.tk σ) hs (okn1 h3).1 (star1 hp1) (star_all hp2)) fun σ H Q ⟨F, ρ, τ, s, st, sl, h⟩ => ?_
    refine ⟨F, ρ, τ, s, st, sl, h.bind.impE fun ds s1 F1 H1 ρ1 g e1 st1 h1 xs hxs => ?_⟩
    exact ⟨by rw [hxs.length, evs_len hck g, hl], F1, ρ1, s1, ds, (e1.c.trans sl.c), st1, hxs, h1⟩
  · cases h1
theorem t_args1 {K : PySem.W.Frag} {σ : St} {H : Hp} {g : D → Sto → R D} {Q : VK} {r : List V → Hp → VK → Prop} (h : tE K xc W (fun τ s => (fa τ s).bind fun d s => g d s) σ H Q)
    (fin : ∀ x d F H ρ s, Stt F H ρ s → HasD K F ρ x d → RP xc W σ F H ρ (g d s) (CV K Q) → r [x] H Q) : L2.tCB r (L2.tCons (tE K xc W fa) L2.tNil) σ H Q :=
  t_one (r := fun x H Q => r [x] H Q) h fin
theorem t_args2 {K : PySem.W.Frag} {σ : St} {H : Hp} {g : D → D → Sto → R D} {Q : VK} {r : List V → Hp → VK → Prop} (h : tE K xc W (fun τ s => (fa τ s).bind fun d s => (fb τ s).bind fun e s => g d e s) σ H Q)
    (fin : ∀ x y d e F H ρ s, Stt F H ρ s → HasD K F ρ x d → HasD K F ρ y e → RP xc W σ F H ρ (g d e s) (CV K Q) → r [x, y] H Q) : L2.tCB r (L2.tCons (tE K xc W fa) (L2.tCons (tE K xc W fb) L2.tNil)) σ H Q :=
  t_two (r := fun x y H Q => r [x, y] H Q) h fin
theorem b1_ok {f : B1} {d : D} {s : Sto} {K : PySem.W.Frag} {σ : St} {F H : Hp} {ρ : Rho} {Q : VK} (h : RP xc W σ F H ρ (b1D f d s) (CV K Q)) : ∃ r s', b1D f d s = .ok r s' ∧ Fut K Q F H ρ r s' := by
  cases g : b1D f d s with
  | bad => rw [g] at h; exact h.elim
  | exc n s' =>
    exfalso
    unfold b1D at g
    split at g
    · cases g
    · split at g
      · rename_i p _
        cases q : (b1P f p).map D.p with
        | none => rw [q] at g; cases g
        | some r => rw [q] at g; cases g
      · cases g
  | ok r s' => rw [g] at h; exact ⟨r, s', rfl, h.fut⟩
theorem s_b1 (hX : XE T G k c W X) {f : B1} {x : Str} {p : Pos} (hx : x = b1N f) (hf : T.free c x = true) (ha : PE X a (tE X.K xc W fa)) (hp : plainE a = true) :
    PE X (.Call (.Name x p) [a] [] pos) (tE X.K xc W fun σ s => (fa σ s).bind fun d s => b1D f d s) := by
  obtain ⟨hg, hm, hd, hn⟩ := hX.isFree hf
  have key : ∀ {v : Value} {r : List V → Hp → VK → Prop}, r = rB1 X.K f → PE X (.Call (.Name x p) [a] [] pos) (L2.tCB r (L2.tCons (tE X.K xc W fa) L2.tNil)) → PE X (.Call (.Name x p) [a] [] pos) (tE X.K xc W fun σ s => (fa σ s).bind fun d s => b1D f d s) := fun {v r} e h => by
    subst e
    refine PE.imp h fun σ H Q q => t_args1 q fun x d F H ρ s st hx h => ?_
    obtain ⟨r, s', e1, h1⟩ := b1_ok h
    exact ⟨F, ρ, s, x, d, r, s', rfl, st, hx, e1, h1⟩
  subst hx
  have hs := star1 (xs := []) (env := X.env) hp
  cases f with
  | len => exact key (v := .none) rfl (L2.pe_callB cr_len hg hm (by decide +kernel) (L2.pa_cons ha L2.pa_nil hs) hn hd hs rfl)
  | all => exact key (v := .none) rfl (L2.pe_callB (cr_all hX.calm) hg hm (by decide +kernel) (L2.pa_cons ha L2.pa_nil hs) hn hd hs rfl)
  | any => exact key (v := .none) rfl (L2.pe_callB (cr_any hX.calm) hg hm (by decide +kernel) (L2.pa_cons ha L2.pa_nil hs) hn hd hs rfl)
  | tuple => exact key (v := .none) rfl (L2.pe_callTy cr_tuple hg hm (by decide +kernel) (L2.pa_cons ha L2.pa_nil hs) hn hd hs rfl)
  | int => exact key (v := .none) rfl (L2.pe_callTy cr_int hg hm (by decide +kernel) (L2.pa_cons ha L2.pa_nil hs) hn hd hs rfl)
  | str => exact key (v := .none) rfl (L2.pe_callTy cr_str hg hm (by decide +kernel) (L2.pa_cons ha L2.pa_nil hs) hn hd hs rfl)
  | max1 => exact key (v := .none) rfl (L2.pe_callB (cr_max1 hX.calm) hg hm (by decide +kernel) (L2.pa_cons ha L2.pa_nil hs) hn hd hs rfl)
  | min1 => exact key (v := .none) rfl (L2.pe_callB (cr_min1 hX.calm) hg hm (by decide +kernel) (L2.pa_cons ha L2.pa_nil hs) hn hd hs rfl)
  | sum => exact key (v := .none) rfl (L2.pe_callB (cr_sum1 hX.calm) hg hm (by decide +kernel) (L2.pa_cons ha L2.pa_nil hs) hn hd hs rfl)
theorem s_b2 (hX : XE T G k c W X) {f : B2} {x : Str} {p : Pos} (hx : x = b2N f) (hf : T.free c x = true) (ha : PE X a (tE X.K xc W fa)) (hp : plainE a = true) (hb : PE X b (tE X.K xc W fb)) (hq : plainE b = true) :
    PE X (.Call (.Name x p) [a, b] [] pos) (tE X.K xc W fun σ s => (fa σ s).bind fun d s => (fb σ s).bind fun e s => (match d, e with
    | .p x, .p y => R.of ((b2P f x y).map .p) s
    | _, _ => .bad)) := by
  obtain ⟨hg, hm, hd, hn⟩ := hX.isFree hf
  have key : PE X (.Call (.Name x p) [a, b] [] pos) (L2.tCB (rB2 X.K f) (L2.tCons (tE X.K xc W fa) (L2.tCons (tE X.K xc W fb) L2.tNil))) → PE X (.Call (.Name x p) [a, b] [] pos) (tE X.K xc W fun σ s => (fa σ s).bind fun d s => (fb σ s).bind fun e s => (match d, e with
    | .p x, .p y => R.of ((b2P f x y).map .p) s
    | _, _ => .bad)) := fun h => by
    refine PE.imp h fun σ H Q q => t_args2 q fun x y d e F H ρ s st hx hy h => ?_
    split at h
    · obtain ⟨r, e3, h⟩ := h.of
      obtain ⟨c, e4, rfl⟩ := Option.map_eq_some_iff.mp e3
      cases hx with | p hx =>
      cases hy with | p hy =>
      exact ⟨F, ρ, s, x, y, _, _, c, rfl, st, hx, hy, e4, h.fut⟩
    · exact h.elim
  subst hx
  have hs := star1 (xs := [b]) (env := X.env) hp
  have hs2 := star1 (xs := []) (env := X.env) hq
  have hall : (backTo pos (starEach [b] X.env)).any (·.1) = false := star_all (by rw [List.all_cons, hq]; rfl)
  cases f with
  | min => exact key (L2.pe_callB (cr_min hX.calm) hg hm (by decide +kernel) (L2.pa_cons ha (L2.pa_cons hb L2.pa_nil hs2) hs) hn hd hs hall)
  | maxT => exact key (L2.pe_callB (cr_maxB hX.calm hX.units) hg hm (by decide +kernel) (L2.pa_cons ha (L2.pa_cons hb L2.pa_nil hs2) hs) hn hd hs hall)
  | max => exact key (L2.pe_callB (cr_max hX.calm) hg hm (by decide +kernel) (L2.pa_cons ha (L2.pa_cons hb L2.pa_nil hs2) hs) hn hd hs hall)
theorem boot_ty (t : Ty) : bootBuiltins (Str.ofString (tyN t)) = some (.type (tyN t)) := by cases t <;> decide +kernel
theorem s_isi (hX : XE T G k c W X) {t : Ty} {x z : Str} {p p2 : Pos} (hx : x = "isinstance") (hf : T.free c x = true) (ha : PE X a (tE X.K xc W fa)) (hp : plainE a = true) (hz : z = Str.ofString (tyN t)) (hfz : T.free c z = true) :
    PE X (.Call (.Name x p) [a, .Name z p2] [] pos) (tE X.K xc W fun σ s => (fa σ s).bind fun d s => R.of ((isTy s t d).map fun b => .p (.bl b)) s) := by
  obtain ⟨hg, hm, hd, hn⟩ := hX.isFree hf
  obtain ⟨hg2, hm2, hd2, hn2⟩ := hX.isFree hfz
  subst hx
  subst hz
  have hs := star1 (xs := [.Name (Str.ofString (tyN t)) p2]) (env := X.env) hp
  refine PE.imp (L2.pe_callB (cr_isi t) hg hm (by decide +kernel) (L2.pa_cons ha (L2.pa_cons (L2.pe_bltn (v := .ty (tyN t)) hg2 hm2 (boot_ty t) rfl hn2 hd2) L2.pa_nil rfl) hs) hn hd hs rfl) fun σ H Q ⟨F, ρ, τ, s, st, sl, h⟩ => ?_
  refine ⟨F, ρ, τ, s, st, sl, h.bind.imp fun d s1 F1 H1 ρ1 e1 st1 h1 x hx => ?_⟩
  obtain ⟨r, e3, h2⟩ := h1.of
  obtain ⟨b, e4, rfl⟩ := Option.map_eq_some_iff.mp e3
  exact ⟨F1, ρ1, s1, x, d, b, rfl, st1, hx, e4, h2.fut⟩
/-! ### methods of texts and lists -/
theorem t_m1 {K : PySem.W.Frag} {σ : St} {H : Hp} {g : Str → D → Sto → R D} {Q : VK} {r : V → List V → Hp → VK → Prop} (h : tE K xc W (fun τ s => (fa τ s).bind fun d s => (match d with
    | .p (.str x) => (fb τ s).bind fun e s => g x e s
    | _ => .bad)) σ H Q)
    (fin : ∀ x y e F H ρ s, Stt F H ρ s → HasD K F ρ y e → RP xc W σ F H ρ (g x e s) (CV K Q) → r (.str x) [y] H Q) : L2.tM1 r (tE K xc W fa) (tE K xc W fb) σ H Q := by
  obtain ⟨F, ρ, τ, s, st, sl, h⟩ := h
  refine ⟨F, ρ, τ, s, st, sl, h.bind.imp fun d s1 F1 H1 ρ1 e1 st1 h1 x hx => ?_⟩
  split at h1
  · rename_i z
    cases hx.str
    refine ⟨⟨z, rfl⟩, F1, ρ1, τ, s1, st1, sl.mono e1, h1.bind.imp fun e s2 F2 H2 ρ2 e2 st2 h2 y hy => ?_⟩
    exact fin z y e F2 H2 ρ2 s2 st2 hy h2
  · exact h1.elim
theorem s_m1 {f : M1} {m : Str} {p : Pos} (hm : m = m1N f) (hline : (p.endLine == pos.line) = true) (ha : PE X a (tE X.K xc W fa)) (hp : plainE a = true) (hb : PE X b (tE X.K xc W fb)) (hq : plainE b = true) :
    PE X (.Call (.Attribute a m p) [b] [] pos) (tE X.K xc W fun σ s => (fa σ s).bind fun d s => (match d with
    | .p (.str x) => (fb σ s).bind fun e s => (match s.get e with
      | some y => R.of ((m1P f (.str x) y).map .p) s
      | _ => .bad)
    | _ => .bad)) := by
  have key : PE X (.Call (.Attribute a m p) [b] [] pos) (L2.tM1 (rM1 X.K f) (tE X.K xc W fa) (tE X.K xc W fb)) → PE X (.Call (.Attribute a m p) [b] [] pos) (tE X.K xc W fun σ s => (fa σ s).bind fun d s => (match d with
    | .p (.str x) => (fb σ s).bind fun e s => (match s.get e with
      | some y => R.of ((m1P f (.str x) y).map .p) s
      | _ => .bad)
    | _ => .bad)) := fun h => by
    refine PE.imp h fun σ H Q q => t_m1 q fun x y e F H ρ s st hy h => ?_
    split at h
    · rename_i z hz
      obtain ⟨r, e3, h⟩ := h.of
      obtain ⟨c, e4, rfl⟩ := Option.map_eq_some_iff.mp e3
      exact ⟨F, ρ, s, y, .str x, z, c, rfl, st, .p (.str x), get_sees st hy hz, e4, h.fut⟩
    · exact h.elim
  subst hm
  have hs := star1 (xs := []) (env := X.env) hq
  cases f with
  | strip => exact key (L2.pe_m1 PySem.F.slot_str_strip PySem.F.type_str_strip mt_strip ha hb hs (base1 hp) hline)
  | startswith => exact key (L2.pe_m1 PySem.F.slot_str_startswith PySem.F.type_str_startswith mt_startswith ha hb hs (base1 hp) hline)
  | partition => exact key (L2.pe_m1 PySem.F.slot_str_partition PySem.F.type_str_partition mt_partition ha hb hs (base1 hp) hline)
  | join => exact key (L2.pe_m1 PySem.F.slot_str_join PySem.F.type_str_join mt_join ha hb hs (base1 hp) hline)
theorem s_split {p : Pos} (hline : (p.endLine == pos.line) = true) (ha : PE X a (tE X.K xc W fa)) (hp : plainE a = true) (hb : PE X b (tE X.K xc W fb)) (hq : plainE b = true) :
    PE X (.Call (.Attribute a "split" p) [b] [] pos) (tL X.K xc W fun σ s => (fa σ s).bind fun d s => (match d with
    | .p (.str x) => (fb σ s).bind fun e s => (match e with
      | .p (.str y) => if (y.length == 0) = false ∧ x.length + 2 ≤ sizeLine then .ok ((Txt.split x y).map .str) s else .bad
      | _ => .bad)
    | _ => .bad)) := by
  refine PE.imp (L2.pe_split ha hb (star1 (xs := []) hq) (base1 hp) hline) fun σ H Q ⟨F, ρ, τ, s, st, sl, h⟩ => ?_
  refine ⟨F, ρ, τ, s, st, sl, h.bind.imp fun d s1 F1 H1 ρ1 e1 st1 h1 x hx => ?_⟩
  split at h1
  · rename_i z
    cases hx.str
    refine ⟨⟨z, rfl⟩, F1, ρ1, τ, s1, st1, sl.mono e1, h1.bind.imp fun e s2 F2 H2 ρ2 e2 st2 h2 y hy => ?_⟩
    split at h2
    · split at h2
      · rename_i hz
        cases hy.str
        exact ⟨_, _, rfl, rfl, hz.1, hz.2, fun q hq => h2.now st2 q _ hq (by rw [List.length_map]; exact Nat.le_trans (PyProof.Rows.split_le _ _) hz.2) (strs_has _)⟩
      · exact h2.elim
    · exact h2.elim
  · exact h1.elim
theorem tyV_list {K : PySem.W.Frag} {F H : Hp} (sub : Sub F H) {v : V} {xs : List P} (h : Sees F H v (.lst xs)) : L2.tyV K "list" v H := by
  obtain ⟨q, vs, e, h1, _, _⟩ := h.lst sub
  subst e
  exact .inl ⟨rfl, vs, SqL.of h1⟩
theorem t_bm {K : PySem.W.Frag} {σ : St} {H : Hp} {g : D → D → Sto → R D} {Q : VK} {r : V → List V → Hp → VK → Prop} (h : tE K xc W (fun τ s => (fa τ s).bind fun d s => (match s.get d with
    | some (.lst _) => (fb τ s).bind fun e s => g d e s
    | _ => .bad)) σ H Q)
    (fin : ∀ x y d e F H ρ s, Stt F H ρ s → HasD K F ρ x d → HasD K F ρ y e → RP xc W σ F H ρ (g d e s) (CV K Q) → r x [y] H Q) : L2.tBM K "list" r (tE K xc W fa) (L2.tCons (tE K xc W fb) L2.tNil) σ H Q := by
  obtain ⟨F, ρ, τ, s, st, sl, h⟩ := h
  refine ⟨F, ρ, τ, s, st, sl, h.bind.imp fun d s1 F1 H1 ρ1 e1 st1 h1 x hx => ?_⟩
  split at h1
  · rename_i xs hs
    refine ⟨tyV_list st1.sub (get_sees st1 hx hs), F1, ρ1, τ, s1, st1, sl.mono e1, h1.bind.imp fun e s2 F2 H2 ρ2 e2 st2 h2 y hy => ?_⟩
    exact fin x y d e F2 H2 ρ2 s2 st2 (HasD.mono e2 _ _ hx) hy h2
  · exact h1.elim
theorem few1 {e : Expr} {cpos : Pos} {env : Env} (h : plainE e = true) : ((backTo cpos (starEach [e] env)).all (fun x => !x.1) && (backToKw cpos (keywordEach [] env)).all (fun x => x.1.isSome)
      && decide (([e] : List Expr).length + ([] : List Keyword).length + (if ([] : List Keyword).isEmpty then 0 else 1) < 30)) = true := by
  rw [star1 h]; rfl
theorem app_ok {d e : D} {s : Sto} {K : PySem.W.Frag} {σ : St} {F H : Hp} {ρ : Rho} {Q : VK} (h : RP xc W σ F H ρ (appD d e s) (CV K Q)) : ∃ r s', appD d e s = .ok r s' ∧ Fut K Q F H ρ r s' := by
  cases g : appD d e s with
  | bad => rw [g] at h; exact h.elim
  | exc n s' =>
    exfalso
    unfold appD at g
    split at g
    · split at g
      · split at g <;> cases g
      · cases g
    · split at g
      · split at g <;> cases g
      · cases g
    · cases g
  | ok r s' => rw [g] at h; exact ⟨r, s', rfl, h.fut⟩
theorem ext_ok {d e : D} {s : Sto} {K : PySem.W.Frag} {σ : St} {F H : Hp} {ρ : Rho} {Q : VK} (h : RP xc W σ F H ρ (extD d e s) (CV K Q)) : ∃ r s', extD d e s = .ok r s' ∧ Fut K Q F H ρ r s' := by
  cases g : extD d e s with
  | bad => rw [g] at h; exact h.elim
  | exc n s' =>
    exfalso
    unfold extD at g
    split at g
    · split at g
      · split at g <;> cases g
      · cases g
    · cases g
  | ok r s' => rw [g] at h; exact ⟨r, s', rfl, h.fut⟩
theorem s_app {p : Pos} (hline : (p.endLine == pos.line) = true) (ha : PE X a (tE X.K xc W fa)) (hp : plainE a = true) (hb : PE X b (tE X.K xc W fb)) (hq : plainE b = true) :
    PE X (.Call (.Attribute a "append" p) [b] [] pos) (tE X.K xc W fun σ s => (fa σ s).bind fun d s => (match s.get d with
    | some (.lst _) => (fb σ s).bind fun e s => appD d e s
    | _ => .bad)) := by
  have hs := star1 (xs := []) (env := X.env) hq
  refine PE.imp (L2.pe_bm PySem.F.plainAttrs_list PySem.F.slot_list_append PySem.F.type_list_append mt_app ha (L2.pa_cons hb L2.pa_nil hs) (base1 hp) (few1 hq) hline hs rfl) fun σ H Q q => t_bm q fun x y d e F H ρ s st hx hy h => ?_
  obtain ⟨r, s', e1, h1⟩ := app_ok h
  exact ⟨F, ρ, s, y, d, e, r, s', rfl, st, hx, hy, e1, h1⟩
theorem s_ext {p : Pos} (hline : (p.endLine == pos.line) = true) (ha : PE X a (tE X.K xc W fa)) (hp : plainE a = true) (hb : PE X b (tE X.K xc W fb)) (hq : plainE b = true) :
    PE X (.Call (.Attribute a "extend" p) [b] [] pos) (tE X.K xc W fun σ s => (fa σ s).bind fun d s => (match s.get d with
    | some (.lst _) => (fb σ s).bind fun e s => extD d e s
    | _ => .bad)) := by
  have hs := star1 (xs := []) (env := X.env) hq
  refine PE.imp (L2.pe_bm PySem.F.plainAttrs_list PySem.F.slot_list_extend PySem.F.type_list_extend mt_ext ha (L2.pa_cons hb L2.pa_nil hs) (base1 hp) (few1 hq) hline hs rfl) fun σ H Q q => t_bm q fun x y d e F H ρ s st hx hy h => ?_
  obtain ⟨r, s', e1, h1⟩ := ext_ok h
  exact ⟨F, ρ, s, y, d, e, r, s', rfl, st, hx, hy, e1, h1⟩
theorem pop_ok {d e : D} {s : Sto} {K : PySem.W.Frag} {σ : St} {F H : Hp} {ρ : Rho} {Q : VK} (h : RP xc W σ F H ρ (popD d e s) (CV K Q)) : ∃ r s', popD d e s = .ok r s' ∧ Fut K Q F H ρ r s' := by
  cases g : popD d e s with
  | bad => rw [g] at h; exact h.elim
  | exc n s' =>
    exfalso
    unfold popD at g
    split at g
    · split at g
      · split at g
        · split at g <;> cases g
        · cases g
      · cases g
    · cases g
  | ok r s' => rw [g] at h; exact ⟨r, s', rfl, h.fut⟩
theorem s_pop {p : Pos} (hline : (p.endLine == pos.line) = true) (ha : PE X a (tE X.K xc W fa)) (hp : plainE a = true) (hb : PE X b (tE X.K xc W fb)) (hq : plainE b = true) :
    PE X (.Call (.Attribute a "pop" p) [b] [] pos) (tE X.K xc W fun σ s => (fa σ s).bind fun d s => (match s.get d with
    | some (.lst _) => (fb σ s).bind fun e s => popD d e s
    | _ => .bad)) := by
  have hs := star1 (xs := []) (env := X.env) hq
  refine PE.imp (L2.pe_bm PySem.F.plainAttrs_list PySem.F.slot_list_pop PySem.F.type_list_pop mt_popD ha (L2.pa_cons hb L2.pa_nil hs) (base1 hp) (few1 hq) hline hs rfl) fun σ H Q q => t_bm q fun x y d e F H ρ s st hx hy h => ?_
  obtain ⟨r, s', e1, h1⟩ := pop_ok h
  exact ⟨F, ρ, s, y, d, e, r, s', rfl, st, hx, hy, e1, h1⟩
theorem s_lof (hX : XE T G k c W X) {x : Str} {p : Pos} (hx : x = "list") (hf : T.free c x = true) (ha : PE X a (tE X.K xc W fa)) (hp : plainE a = true) :
    PE X (.Call (.Name x p) [a] [] pos) (tL X.K xc W fun σ s => (fa σ s).bind fun d s => (match s.get d with
    | some (.lst xs) => .ok xs s
    | some (.tup xs) => .ok xs s
    | _ => .bad)) := by
  obtain ⟨hg, hm, hd, hn⟩ := hX.isFree hf
  subst hx
  have hs := star1 (xs := []) (env := X.env) hp
  refine PE.imp (L2.pe_callTy L2.call_list_of hg hm (by decide +kernel) (L2.pa_cons ha L2.pa_nil hs) hn hd hs rfl) fun σ H Q ⟨F, ρ, τ, s, st, sl, h⟩ => ?_
  refine ⟨F, ρ, τ, s, st, sl, h.bind.imp fun d s1 F1 H1 ρ1 e1 st1 h1 x hx => ?_⟩
  split at h1
  · rename_i xs hs
    obtain ⟨q, vs, e, h2, r, z⟩ := (get_sees st1 hx hs).lst st1.sub
    subst e
    exact ⟨q, vs, rfl, .inl (SqL.of h2), fun l hl => h1.now st1 l vs hl z r⟩
  · rename_i xs hs
    obtain ⟨q, vs, e, _, h2, r, z⟩ := (get_sees st1 hx hs).tup st1.sub
    subst e
    exact ⟨q, vs, rfl, .inr (SqT.of h2), fun l hl => h1.now st1 l vs hl z r⟩
  · exact h1.elim
end
end G7

namespace G7
open PySem PySem.Spec
open L2 (V Hp HO St WX TE TS R2 OpR CallR MtR MtM SlR IxR Inv RelV Vals upd upd_same upd_ne ne_of_none SqL SqT Cx Room EP VK PE PT PA PI PG PO Sp XK It TI TG FnOk thn)
variable [WW]

theorem join_small {sep z : Str} {ys : List Str} (h : joinFits sep ys = true) (hz : z.length ≤ 8) : (Txt.join sep ys).length + ((Txt.join sep ys).length + 1) * z.length ≤ 16777216 := by
  have h1 := of_decide_eq_true h
  have h2 : (Txt.join sep ys).length ≤ 1000000 := by
    rw [TL.join_eq]
    exact Nat.le_trans (StrLaws.join_length_le sep ys) h1
  have h3 : ((Txt.join sep ys).length + 1) * z.length ≤ 1000001 * 8 := Nat.mul_le_mul (by omega) hz
  omega
section
variable {T : Tabs} {G : Fns} {k : Nat} {c : Ct} {W : WX} {X : Cx} {xc : Nat → Value} {a b d : Expr} {as : List Expr} {fa fb fc : Sl → Sto → R D} {fs : Sl → Sto → R (List D)} {pos : Pos}
theorem s_jr {sep y z : Str} {j0 j1 j2 : Nat} {p0 p2 q2 p c1 c2 : Pos} (hyz : (y == z) = false) (hz8 : z.length ≤ 8) (hline2 : (p2.endLine == q2.line) = true) (hline : (p.endLine == pos.line) = true) (ha : PE X a (tE X.K xc W fa)) (hp : plainE a = true) :
    PE X (.Call (.Attribute (.Call (.Attribute (.Constant (.str sep) j0 p0) "join" p2) [a] [] q2) "replace" p) [.Constant (.str y) j1 c1, .Constant (.str z) j2 c2] [] pos) (tE X.K xc W fun σ s => (fa σ s).bind fun d s => (match s.get d with
    | some (.lst ys) => (match allStr ys with
      | some zs => if joinFits sep zs then .ok (.p (.str (Txt.replace (Txt.join sep zs) y z))) s else .bad
      | none => .bad)
    | _ => .bad)) := by
  refine ⟨fun pins s σ H Q I h => ?_⟩
  obtain ⟨F, ρ, τ, t, st, sl, h⟩ := h
  have h' : tE X.K xc W fa σ H (fun x H2 => ∃ q zs, x = .ref q ∧ SqL X.K H2 q (zs.map V.str) ∧ joinFits sep zs = true ∧ Q (.str (Txt.replace (Txt.join sep zs) y z)) H2) := by
    refine ⟨F, ρ, τ, t, st, sl, h.bind.imp fun d s1 F1 H1 ρ1 e1 st1 h1 x hx => ?_⟩
    split at h1
    · rename_i ys hs
      split at h1
      · rename_i zs hzs
        split at h1
        · rename_i hj
          obtain ⟨q, vs, e, h2, r, _⟩ := (get_sees st1 hx hs).lst st1.sub
          subst e
          have e2 := allStr_has hzs r
          subst e2
          exact ⟨q, zs, rfl, SqL.of h2, hj, h1.now st1 _ (.p (.str _))⟩
        · exact h1.elim
      · exact h1.elim
    · exact h1.elim
  refine PySem.Call_method2 rfl rfl hline (PySem.Call_method1 rfl (star1 hp) hline2 (Calls.Constant_str ?_))
  refine ⟨"str", _, PySem.F.plainAttrs_str, PySem.F.slot_str_join, PySem.F.type_str_join, typeIs_str _ _ _, (fun _ e => nomatch e), Calls.callWith_builtin rfl (Calls.evalArgs_plain (Calls.spliced_cons ?_))⟩
  have I0 : Inv X pins σ H { s with toks := s.toks + 1 } := I.tok _
  refine wpAny_with_toks (n := 1) (show 1 ≤ s.toks + 1 by omega) (wpAny_mono (ha.run pins _ σ H _ I0 h') (fun u s2 ⟨x, H2, I2, r2, q, zs, e, hs, hj, hq⟩ hk => ?_) fun _ _ x _ => x)
  subst e
  refine Calls.spliced_nil ?_
  refine wpAny_with_toks (n := 1) hk (wpAny_mono (L2.mt_join (X := X) pins s2 σ H2 (.str sep) [.ref q] _ [u] (fun v H3 => v = .str (Txt.join sep zs) ∧ H3 = H2) I2 ⟨_, rfl⟩ (.cons r2 .nil) ⟨sep, q, zs, rfl, rfl, .inl hs, joinFits_le hj, rfl, rfl⟩) (fun u3 s3 ⟨v3, H3, I3, r3, e3, e4⟩ hk3 => ?_) fun _ _ x _ => x)
  subst e3; subst e4
  obtain ⟨t3, rfl⟩ := r3
  refine ⟨"str", _, PySem.F.plainAttrs_str, PySem.F.slot_str_replace, PySem.F.type_str_replace, typeIs_str _ _ _, (fun _ e => nomatch e), Calls.callWith_builtin rfl (Calls.evalArgs_plain (Calls.spliced_cons ?_))⟩
  refine Calls.Constant_str (Calls.spliced_cons (Calls.Constant_str (Calls.spliced_nil ?_)))
  exact PySem.SC.replace (by show s3.toks ≠ 0; omega) (by show s3.toks + 1 ≠ 0; omega) (by show s3.toks ≠ s3.toks + 1; omega) hyz (join_small hj hz8) fun t' k => ⟨.str _, _, I3.tok k, ⟨t', rfl⟩, hq⟩
end

theorem ix_lt {α : Type} {xs : List α} {i : Nat} {a : α} (h : xs[i]? = some a) (z : xs.length ≤ sizeLine) : i < sizeLine := Nat.lt_of_lt_of_le (List.getElem?_eq_some_iff.mp h).1 z
/-! ### what is walked -/
def Runs (K : PySem.W.Frag) (r : Src) (J : It) (F0 H0 : Hp) (ρ0 : Rho) : Prop := ∀ (i : Nat) (F H : Hp) (ρ : Rho) (s : Sto), Ext F0 H0 ρ0 F H ρ → Stt F H ρ s →
  (r.at s i = some none → J.stop i H) ∧ ∀ d, r.at s i = some (some d) → i < sizeLine ∧ J.go i H ∧ ∀ x H', J.yld i H x H' → ∃ F', Ext F H ρ F' H' ρ ∧ Stt F' H' ρ s ∧ HasD K F' ρ x d
def tI (K : PySem.W.Frag) (xc : Nat → Value) (W : WX) (x : Sl → Sto → R Src) : TI := fun σ H R => ∃ F ρ τ s, Stt F H ρ s ∧ SlOk K F ρ σ τ ∧ RP xc W σ F H ρ (x τ s) (fun r s F H ρ => ∀ J, Runs K r J F H ρ → R J H)
section
variable {X : Cx} {K : PySem.W.Frag} {F0 H0 : Hp} {ρ0 : Rho}
theorem runs_lst {a : Addr} {vs : List V} {xs : List P} (h : F0 a = some (.lst vs)) (z : xs.length ≤ sizeLine) (r : HasPs F0 vs xs) : Runs K (.fix (xs.map .p)) (L2.Itl K a) F0 H0 ρ0 := by
  intro i F H ρ s e st
  have hH : H a = some (.lst vs) := st.sub _ _ (e.f _ _ h)
  refine ⟨fun q => ?_, fun d q => ?_⟩
  · have q : (xs.map D.p)[i]? = none := Option.some.inj q
    rw [List.getElem?_map] at q
    have q : xs[i]? = none := by simpa using q
    exact ⟨vs, SqL.of hH, by rw [r.length]; exact List.getElem?_eq_none_iff.mp q⟩
  · have q : (xs.map D.p)[i]? = some d := Option.some.inj q
    rw [List.getElem?_map] at q
    obtain ⟨x, q1, rfl⟩ := Option.map_eq_some_iff.mp q
    obtain ⟨v, hv, hx⟩ := r.get q1
    refine ⟨ix_lt q1 z, ⟨vs, v, SqL.of hH, hv⟩, fun w H' ⟨e1, e2⟩ => ?_⟩
    have := e2 vs (SqL.of hH)
    rw [hv] at this; cases this
    subst e1
    exact ⟨F, Ext.refl F _ ρ, st, .p (HasP.mono e.f _ _ hx)⟩
theorem runs_tup {a : Addr} {vs : List V} {ds : List D} (h : F0 a = some (.tup vs)) (z : ds.length ≤ sizeLine) (r : HasDs K F0 ρ0 vs ds) : Runs K (.fix ds) (L2.Itt K a) F0 H0 ρ0 := by
  intro i F H ρ s e st
  have hH : H a = some (.tup vs) := st.sub _ _ (e.f _ _ h)
  refine ⟨fun q => ?_, fun d q => ?_⟩
  · have q : ds[i]? = none := Option.some.inj q
    exact ⟨vs, SqT.of hH, by rw [r.length]; exact List.getElem?_eq_none_iff.mp q⟩
  · have q : ds[i]? = some d := Option.some.inj q
    obtain ⟨v, hv, hx⟩ := r.get q
    refine ⟨ix_lt q z, ⟨vs, v, SqT.of hH, hv⟩, fun w H' ⟨e1, e2⟩ => ?_⟩
    have := e2 vs (SqT.of hH)
    rw [hv] at this; cases this
    subst e1
    exact ⟨F, Ext.refl F _ ρ, st, HasD.mono e _ _ hx⟩
theorem runs_tm {a : Addr} {n : Nat} (h : ρ0.t[n]? = some a) : Runs K (.tm n) (L2.Itl K a) F0 H0 ρ0 := by
  intro i F H ρ s e st
  have hn : ρ.t[n]? = some a := by obtain ⟨r, q⟩ := e.t; rw [q]; exact get_pre h
  refine ⟨fun q => ?_, fun d q => ?_⟩
  · simp only [Src.at] at q
    split at q
    · rename_i xs hx
      obtain ⟨z, vs, h1, r⟩ := st.ot n _ a hx hn
      have q := Option.some.inj q
      have q : xs[i]? = none := by simpa using q
      exact ⟨vs, SqL.of h1, by rw [r.length]; exact List.getElem?_eq_none_iff.mp q⟩
    · cases q
  · simp only [Src.at] at q
    split at q
    · rename_i xs hx
      obtain ⟨z, vs, h1, r⟩ := st.ot n _ a hx hn
      obtain ⟨x, q1, rfl⟩ := Option.map_eq_some_iff.mp (Option.some.inj q)
      obtain ⟨v, hv, hx⟩ := r.get q1
      refine ⟨ix_lt q1 z, ⟨vs, v, SqL.of h1, hv⟩, fun w H' ⟨e1, e2⟩ => ?_⟩
      have := e2 vs (SqL.of h1)
      rw [hv] at this; cases this
      subst e1
      exact ⟨F, Ext.refl F _ ρ, st, .p hx⟩
    · cases q
theorem runs_rf {a : Addr} {n : Nat} (h : ρ0.m[n]? = some a) : Runs K (.rf n) (L2.Itl K a) F0 H0 ρ0 := by
  intro i F H ρ s e st
  have hn : ρ.m[n]? = some a := by obtain ⟨r, q⟩ := e.m; rw [q]; exact get_pre h
  refine ⟨fun q => ?_, fun d q => ?_⟩
  · simp only [Src.at] at q
    split at q
    · rename_i xs hx
      obtain ⟨z, vs, h1, r⟩ := st.om n _ a hx hn
      have q := Option.some.inj q
      have q : xs[i]? = none := by simpa using q
      exact ⟨vs, SqL.of h1, by rw [r.length]; exact List.getElem?_eq_none_iff.mp q⟩
    · cases q
  · simp only [Src.at] at q
    split at q
    · rename_i xs hx
      obtain ⟨z, vs, h1, r⟩ := st.om n _ a hx hn
      obtain ⟨x, q1, rfl⟩ := Option.map_eq_some_iff.mp (Option.some.inj q)
      obtain ⟨v, hv, hx⟩ := r.get q1
      refine ⟨ix_lt q1 z, ⟨vs, v, SqL.of h1, hv⟩, fun w H' ⟨e1, e2⟩ => ?_⟩
      have := e2 vs (SqL.of h1)
      rw [hv] at this; cases this
      subst e1
      exact ⟨F, Ext.refl F _ ρ, st, .p hx⟩
    · cases q
theorem runs_str {x : Str} (z : x.length ≤ sizeLine) : Runs K (.fix (x.cps.toList.map fun c => .p (.str ⟨#[c]⟩))) (L2.Its x) F0 H0 ρ0 := by
  intro i F H ρ s e st
  refine ⟨fun q => ?_, fun d q => ?_⟩
  · have q : (x.cps.toList.map fun c => D.p (.str ⟨#[c]⟩))[i]? = none := Option.some.inj q
    rw [List.getElem?_map] at q
    have q : x.cps.toList[i]? = none := by simpa using q
    have := List.getElem?_eq_none_iff.mp q
    show x.cps.size ≤ i
    simpa using this
  · have q : (x.cps.toList.map fun c => D.p (.str ⟨#[c]⟩))[i]? = some d := Option.some.inj q
    rw [List.getElem?_map] at q
    obtain ⟨ch, q1, rfl⟩ := Option.map_eq_some_iff.mp q
    have q' : x.cps[i]? = some ch := by simpa using q1
    refine ⟨ix_lt q1 (by rw [Array.length_toList]; exact z), ?_, fun w H' ⟨e1, c2, e2, e3⟩ => ?_⟩
    · show i < x.cps.size
      have := (List.getElem?_eq_some_iff.mp q1).1
      simpa using this
    · rw [q'] at e2; cases e2
      subst e1; subst e3
      exact ⟨F, Ext.refl F _ ρ, st, .p (.str _)⟩
theorem runs_range {lo : Int} {n : Nat} (z : n ≤ sizeLine) : Runs K (.fix (rangeL lo n)) (L2.Itr lo n) F0 H0 ρ0 := by
  intro i F H ρ s e st
  refine ⟨fun q => ?_, fun d q => ?_⟩
  · have q : (rangeL lo n)[i]? = none := Option.some.inj q
    have := List.getElem?_eq_none_iff.mp q
    show n ≤ i
    simpa [rangeL] using this
  · have q : (rangeL lo n)[i]? = some d := Option.some.inj q
    unfold rangeL at q
    rw [List.getElem?_map] at q
    obtain ⟨j, q1, rfl⟩ := Option.map_eq_some_iff.mp q
    obtain ⟨hj, ej⟩ := List.getElem?_eq_some_iff.mp q1
    have hj' : i < n := by simpa using hj
    have ej : i = j := by simpa using ej
    subst ej
    refine ⟨Nat.lt_of_lt_of_le hj' z, hj', fun w H' ⟨e1, e2⟩ => ?_⟩
    subst e1; subst e2
    exact ⟨F, Ext.refl F _ ρ, st, .p (.int _)⟩
theorem enumL_get : ∀ (xs : List P) (j i : Nat), (enumL xs j)[i]? = (xs[i]?).map fun x => D.p (.tup [.int ((j + i : Nat) : Int), x])
  | [], j, i => by simp [enumL]
  | x :: xs, j, 0 => by simp [enumL]
  | x :: xs, j, i + 1 => by
    simp only [enumL, List.getElem?_cons_succ]
    rw [enumL_get xs (j + 1) i]
    have e : j + 1 + i = j + (i + 1) := by omega
    rw [e]
theorem runs_enum {a : Addr} {vs : List V} {xs : List P} (h : F0 a = some (.lst vs)) (z : xs.length ≤ sizeLine) (r : HasPs F0 vs xs) : Runs K (.fix (enumL xs 0)) (L2.Ite K a) F0 H0 ρ0 := by
  intro i F H ρ s e st
  have hH : H a = some (.lst vs) := st.sub _ _ (e.f _ _ h)
  refine ⟨fun q => ?_, fun d q => ?_⟩
  · have q : (enumL xs 0)[i]? = none := Option.some.inj q
    rw [enumL_get] at q
    have q : xs[i]? = none := by simpa using q
    exact ⟨vs, SqL.of hH, by rw [r.length]; exact List.getElem?_eq_none_iff.mp q⟩
  · have q : (enumL xs 0)[i]? = some d := Option.some.inj q
    rw [enumL_get] at q
    obtain ⟨x, q1, rfl⟩ := Option.map_eq_some_iff.mp q
    obtain ⟨v, hv, hx⟩ := r.get q1
    refine ⟨ix_lt q1 z, ⟨vs, v, SqL.of hH, hv⟩, fun w H' ⟨p, x2, e0, hp, e1, e2⟩ => ?_⟩
    have := e2 vs (SqL.of hH)
    rw [hv] at this; cases this
    subst e0; subst e1
    refine ⟨_, st.xnew hp, st.new hp, .p (.tup upd_same (by show 2 ≤ sizeLine; decide) (.cons ?_ (.cons (HasP.mono ((e.f).trans (sub_upd (st.sub.none hp))) _ _ hx) .nil)))⟩
    rw [Nat.zero_add]
    exact .int _
theorem zipL_get : ∀ (xs ys : List P) (i : Nat), (zipL xs ys)[i]? = (xs[i]?).bind fun x => (ys[i]?).map fun y => D.p (.tup [x, y])
  | [], ys, i => by simp [zipL]
  | x :: xs, [], i => by
    have : (zipL (x :: xs) []) = [] := rfl
    rw [this]
    cases (x :: xs)[i]? <;> simp
  | x :: xs, y :: ys, 0 => by simp [zipL]
  | x :: xs, y :: ys, i + 1 => by
    have := zipL_get xs ys i
    simpa [zipL] using this
theorem runs_zipL {a b : Addr} {vs ws : List V} {xs ys : List P} (z : xs.length ≤ sizeLine) (h : F0 a = some (.lst vs)) (r : HasPs F0 vs xs) (h' : F0 b = some (.lst ws)) (r' : HasPs F0 ws ys) : Runs K (.fix (zipL xs ys)) (L2.Itz K a b) F0 H0 ρ0 := by
  intro i F H ρ s e st
  have hH : H a = some (.lst vs) := st.sub _ _ (e.f _ _ h)
  have hH' : H b = some (.lst ws) := st.sub _ _ (e.f _ _ h')
  refine ⟨fun q => ?_, fun d q => ?_⟩
  · have q : (zipL xs ys)[i]? = none := Option.some.inj q
    have := List.getElem?_eq_none_iff.mp q
    refine ⟨vs, ws, SqL.of hH, SqL.of hH', ?_⟩
    rw [r.length, r'.length]
    have hl : (zipL xs ys).length = min xs.length ys.length := by simp [zipL]
    rw [hl] at this
    omega
  · have q : (zipL xs ys)[i]? = some d := Option.some.inj q
    rw [zipL_get] at q
    obtain ⟨x, q1, q⟩ := Option.bind_eq_some_iff.mp q
    obtain ⟨y, q2, rfl⟩ := Option.map_eq_some_iff.mp q
    obtain ⟨v, hv, hx⟩ := r.get q1
    obtain ⟨u, hu, hy⟩ := r'.get q2
    refine ⟨ix_lt q1 z, ⟨vs, ws, v, u, SqL.of hH, SqL.of hH', hv, hu⟩, fun w H' ⟨p, x2, y2, e0, hp, e1, e2, e3⟩ => ?_⟩
    have e2 := e2 vs (SqL.of hH)
    rw [hv] at e2; cases e2
    have e3 := e3 ws (SqL.of hH')
    rw [hu] at e3; cases e3
    subst e0; subst e1
    have sb := (e.f).trans (sub_upd (o := .tup [v, u]) (st.sub.none hp))
    exact ⟨_, st.xnew hp, st.new hp, .p (.tup upd_same (by show 2 ≤ sizeLine; decide) (.cons (HasP.mono sb _ _ hx) (.cons (HasP.mono sb _ _ hy) .nil)))⟩
theorem runs_zipT {a b : Addr} {vs ws : List V} {xs ys : List P} (z : xs.length ≤ sizeLine) (h : F0 a = some (.tup vs)) (r : HasPs F0 vs xs) (h' : F0 b = some (.tup ws)) (r' : HasPs F0 ws ys) : Runs K (.fix (zipL xs ys)) (RZ.ItzT K a b) F0 H0 ρ0 := by
  intro i F H ρ s e st
  have hH : H a = some (.tup vs) := st.sub _ _ (e.f _ _ h)
  have hH' : H b = some (.tup ws) := st.sub _ _ (e.f _ _ h')
  refine ⟨fun q => ?_, fun d q => ?_⟩
  · have q : (zipL xs ys)[i]? = none := Option.some.inj q
    have := List.getElem?_eq_none_iff.mp q
    refine ⟨vs, ws, SqT.of hH, SqT.of hH', ?_⟩
    rw [r.length, r'.length]
    have hl : (zipL xs ys).length = min xs.length ys.length := by simp [zipL]
    rw [hl] at this
    omega
  · have q : (zipL xs ys)[i]? = some d := Option.some.inj q
    rw [zipL_get] at q
    obtain ⟨x, q1, q⟩ := Option.bind_eq_some_iff.mp q
    obtain ⟨y, q2, rfl⟩ := Option.map_eq_some_iff.mp q
    obtain ⟨v, hv, hx⟩ := r.get q1
    obtain ⟨u, hu, hy⟩ := r'.get q2
    refine ⟨ix_lt q1 z, ⟨vs, ws, v, u, SqT.of hH, SqT.of hH', hv, hu⟩, fun w H' ⟨p, x2, y2, e0, hp, e1, e2, e3⟩ => ?_⟩
    have e2 := e2 vs (SqT.of hH)
    rw [hv] at e2; cases e2
    have e3 := e3 ws (SqT.of hH')
    rw [hu] at e3; cases e3
    subst e0; subst e1
    have sb := (e.f).trans (sub_upd (o := .tup [v, u]) (st.sub.none hp))
    exact ⟨_, st.xnew hp, st.new hp, .p (.tup upd_same (by show 2 ≤ sizeLine; decide) (.cons (HasP.mono sb _ _ hx) (.cons (HasP.mono sb _ _ hy) .nil)))⟩
end
end G7

/-! enumerate(tuple): each item in a new pair -/
namespace L2
open PySem PySem.Spec PyProof.Rows
open AutoSeq1 (wpAny_loadPart')
abbrev tIt (q : Addr) : Obj := { cls := .type "tuple_iterator", data := .fields #[.ref q, .int 0 0] }
abbrev enO (q : Addr) : Obj := { cls := .type "enumerate", data := .fields #[.none, .bool false, .ref q, rawInt 0, .none, .none] }
theorem enum_newT (q : Addr) (us : Array Value) (n : Nat) (dc : Option Addr) (sl : Array (Option Value)) :
    Meets (Builtin.«enumerate.__new__» ⟨[.type "enumerate", .ref q], []⟩) (fun _ R s => s.heap.get? q = some { cls := .type "tuple", dict := dc, data := .seq us n, slots := sl } ∧
      R (.ok (.ret (.ref (s.heap.push (tIt q)).objs.size))) { s with heap := (s.heap.push (tIt q)).push (enO s.heap.objs.size) }) :=
  .of_wp fun prog w A R s h => by
    obtain ⟨hp, g, d, tk, os⟩ := s
    obtain ⟨hq, h⟩ := h
    have sb := sub_enumerate
    have hT : Heap.IsTuple (Shared.heap ⟨hp, g, d, tk, os⟩) q us := ⟨_, hq, rfl, n, rfl⟩
    wp_walk using wpAny_loadPart' hq
    refine wpAny_stack_any fun st => wpAny_pure ?_
    split
    · rename_i c _ _ _ _ _
      cases (c == Value.type "enumerate")
      all_goals
        wp_walk using wpAny_loadPart' hq, wpAny_pyIter_tuple hT
        exact ⟨_, rfl, h⟩
    · wp_walk using wpAny_loadPart' hq, wpAny_pyIter_tuple hT
      exact ⟨_, rfl, h⟩
section
variable {P : Program} {w : World} {A : Around} {E : Value → Shared → Prop} {s : Shared}
theorem call_enumT {q : Addr} {us : Array Value} {Q : Value → Shared → Prop} (hT : s.heap.IsTuple q us)
    (h : ∀ h', IsEnum h' (s.heap.objs.size + 1) s.heap.objs.size 0 .none → h'.IsTupleIter s.heap.objs.size q 0 → (∀ b o, s.heap.get? b = some o → h'.get? b = some o) → Q (.ref (s.heap.objs.size + 1)) { s with heap := h' }) :
    wpAny (model P w) A (call (.type "enumerate") [.ref q]) Q E s := by
  obtain ⟨⟨c, dc, dt, sl⟩, hq, hc, n, hd⟩ := hT
  dsimp only at hc hd
  subst hc hd
  refine callType_new F.called_enumerate (by decide) (F.typeCall_enumerate_1 _) (F.newCall_enumerate_1 _) (fun x => F.args_object_init_2 x _) F.entry_enumerate_new (enum_newT q us n dc sl) ⟨hq, ?_⟩
  have z : (s.heap.push (tIt q)).objs.size = s.heap.objs.size + 1 := Heap.size_push ..
  have en : IsEnum ((s.heap.push (tIt q)).push (enO s.heap.objs.size)) (s.heap.objs.size + 1) s.heap.objs.size 0 .none := by
    have e := Heap.get?_push_size (s.heap.push (tIt q)) (o := enO s.heap.objs.size) rfl
    rwa [z] at e
  show _ ∧ _
  rw [z]
  exact ⟨⟨_, en, rfl⟩, h _ en ⟨_, Heap.get?_push_of_some _ (Heap.get?_push_size _ rfl), rfl, rfl⟩ fun b o e => Heap.get?_push_of_some _ (Heap.get?_push_of_some _ e)⟩
end
def IteT (K : PySem.W.Frag) (a : Addr) (xs : List V) : It :=
  ⟨fun i H => SqT K H a xs ∧ i < xs.length, fun i H v H' => ∃ T x, v = .ref T ∧ H T = none ∧ H' = upd H T (.tup [.int (i : Nat), x]) ∧ xs[i]? = some x, fun i H => SqT K H a xs ∧ xs.length ≤ i⟩
theorem turn_enumT {P : Program} {w : World} {K : PySem.W.Frag} {elts : List Expr} {kk : Nat} {tpos : Pos} (a : Addr) (xs : List V) (e it : Addr) :
    Turn P w K (.Tuple elts kk tpos) (IteT K a xs) [e, it] e (fun i h => (∃ old, IsEnum h e it ((i : Nat) : Int) old) ∧ h.IsTupleIter it a i ∧ e ≠ it ∧ i ≤ xs.length ∧ a ≠ it ∧ a ≠ e) where
  mem := by simp
  obj := fun i h st b hb => by
    obtain ⟨⟨old, he⟩, ⟨o, ho, hc, hd⟩, _⟩ := st
    rcases List.mem_cons.mp hb with z | z
    · rw [z]; exact ⟨_, he, fun v q => nomatch q⟩
    · rw [List.mem_singleton.mp z]; exact ⟨o, ho, fun v q => by rw [hd] at q; cases q⟩
  keep := fun i h h' st k => let ⟨⟨old, he⟩, ⟨o, ho, r⟩, r2⟩ := st; ⟨⟨old, k e (by simp) _ he⟩, ⟨o, k it (by simp) o ho, r⟩, r2⟩
  item := by
    intro X hP hw hK hc i pins s σ H E I hf st hg
    subst hP hw hK
    obtain ⟨⟨old, he⟩, hit, hne, hle, na, nb⟩ := st
    obtain ⟨hq, hg⟩ := hg
    obtain ⟨us, rv, pl, hz⟩ := I.tuple hq
    have hl := rv.length
    have hel : e < s.heap.objs.size := Heap.lt_size he
    have hil : it < s.heap.objs.size := by obtain ⟨_, q, _⟩ := hit; exact Heap.lt_size q
    have Dr := Draws.tuple (prog := X.prog) (w := X.w) (A := X.A.in1) (I.ok.hd hc) it a na us.toArray
    refine wpAny_pyNext_enum_itemD Dr he ⟨hit, pl⟩ (by simp; omega) hne (by simp [hne, Ne.symm nb]) fun u h' tk hu ho hit' hT hsz hk => ?_
    obtain ⟨x, hx⟩ : ∃ x, xs[i]? = some x := ⟨xs[i], List.getElem?_eq_getElem hg⟩
    obtain ⟨u', hu', ru⟩ := rv.get hx
    have eu : u' = u := by
      have : us[i]? = some u := by simpa using hu
      rw [hu'] at this; exact Option.some.inj this
    subst eu
    refine ⟨_, rfl, wpAny_letOwnedTupleGo_enum (s := { s with heap := h', toks := tk + 1 }) ho fun h'' he' sb => ?_⟩
    have hT2 : h''.get? s.heap.objs.size = some { cls := .type "tuple", data := .seq #[.int i tk, u'] } := (sb.2 _ (Nat.ne_of_gt hel)).trans hT
    have new : ObjOk X.prog X.w (upd H s.heap.objs.size (.tup [.int (i : Nat), x])) h'' s.heap.objs.size (.tup [.int (i : Nat), x]) :=
      ⟨by show 2 ≤ sizeLine; decide, [.int i tk, u'], .cons ⟨_, rfl⟩ (.cons ru .nil), ⟨_, hT2, rfl, _, rfl⟩⟩
    have I1 : Inv X pins σ (upd H s.heap.objs.size (.tup [.int (i : Nat), x])) { s with heap := h'', toks := tk + 1 } :=
      I.turnedNew (ch := [e, it]) (fun b ob hb q => (sb.2 b (fun z => hb (by simp [z]))).trans (hk b ob (fun z => hb (by simp [z])) (fun z => hb (by simp [z])) q)) hf (Nat.le_refl _) new
    obtain ⟨⟨oi, hoi, ri⟩, _⟩ := hit'
    refine ⟨.ref s.heap.objs.size, _, I1, rfl, ⟨_, x, rfl, I.hok.fresh (Nat.le_refl _), rfl, hx⟩, ⟨⟨u', ?_⟩, ⟨oi, (sb.2 it (Ne.symm hne)).trans hoi, ri⟩, hne, hg, na, nb⟩, fun b hb => ?_⟩
    · have e1 : ((i + 1 : Nat) : Int) = (i : Int) + 1 := by omega
      rw [e1]; exact he'
    · have lb : b < s.heap.objs.size := by
        rcases List.mem_cons.mp hb with z | z
        · rw [z]; exact hel
        · rw [List.mem_singleton.mp z]; exact hil
      rw [upd_ne (Nat.ne_of_lt lb)]
      exact (hf b hb).1
  done := by
    intro X hP hw hK hc i pins s σ H E I hf st hg
    subst hP hw hK
    obtain ⟨⟨old, he⟩, hit, hne, hle, na, nb⟩ := st
    obtain ⟨hq, hg⟩ := hg
    obtain ⟨us, rv, pl, hz⟩ := I.tuple hq
    have hl := rv.length
    obtain ⟨f0, f1, f2, f3, f4, f5⟩ := hf it (by simp)
    have Dr := Draws.tuple (prog := X.prog) (w := X.w) (A := X.A.in1) (I.ok.hd hc) it a na us.toArray
    have ei : i = us.toArray.size := by simp; omega
    subst ei
    exact wpAny_pyNext_enum_endD Dr he ⟨hit, pl⟩ fun h' eb => ⟨rfl, I.turned (t' := s.toks) (fun b o hb q => eb b o hb q) f0 f1 f3 f4 f5⟩
  self := fun A i s Q E st h => let ⟨⟨_, he⟩, _⟩ := st; wpAny_pyIter_enum he h
def iEnumT (K : PySem.W.Frag) (ta : TA) : TI := fun σ H R => ta σ H fun vs H1 => ∃ a xs, vs = [.ref a] ∧ SqT K H1 a xs ∧ R (IteT K a xs) H1
theorem pi_enumT {X : Cx} {e : Expr} {ta : TA} {p pos tpos : Pos} {elts : List Expr} {kk : Nat} (hg : Gl X "enumerate") (hm : X.mg "enumerate" = none) (ha : PA X [e] ta) (hs : starEach [e] X.env = [(false, eval e X.env)] := by rfl) :
    PI X (.Tuple elts kk tpos) (.Call (.Name "enumerate" p) [e] [] pos) (iEnumT X.K ta) := by
  refine ⟨fun pins s σ H R I h => ?_⟩
  refine Call_ (ld_blt I hg hm boot_enumerate (PyProof.Rows.callWith_type1 (thn (ha.run pos pins s σ H _ I h) fun us s1 ⟨vs, H1, I1, r1, a, xs, ex, hq, q⟩ => ?_) hs rfl))
  subst ex
  rw [Vals.ref1 r1]
  obtain ⟨its, rv, pl, hz⟩ := I1.tuple hq
  have la : a < s1.heap.objs.size := by obtain ⟨o, e, _⟩ := pl; exact Heap.lt_size e
  refine call_enumT pl fun h' he hit hk => wpAny_pyIter_enum he ?_
  have I2 : Inv X pins σ H1 { s1 with heap := h' } := I1.kept (t' := s1.toks) hk
  refine ⟨s1.heap.objs.size + 1, [s1.heap.objs.size + 1, s1.heap.objs.size], _, _, H1, rfl, I2, turn_enumT a xs (s1.heap.objs.size + 1) s1.heap.objs.size, ⟨⟨.none, he⟩, hit, Nat.succ_ne_self _, Nat.zero_le _, Nat.ne_of_lt la, Nat.ne_of_lt (Nat.lt_succ_of_lt la)⟩, fun b hb => ?_, q⟩
  have le : s1.heap.objs.size ≤ b := by
    rcases List.mem_cons.mp hb with z | z
    · rw [z]; exact Nat.le_succ _
    · rw [List.mem_singleton.mp z]; exact Nat.le_refl _
  exact I1.fpOk le (I1.hok.fresh le)
end L2

/-! enumerate(text): each sign in a new pair -/
namespace L2
open PySem PySem.Spec PyProof.Rows
def IteS (x : Str) : It :=
  ⟨fun i _ => i < x.cps.size, fun i H v H' => ∃ T c, v = .ref T ∧ H T = none ∧ H' = upd H T (.tup [.int (i : Nat), .str ⟨#[c]⟩]) ∧ x.cps[i]? = some c, fun i _ => x.cps.size ≤ i⟩
theorem turn_enumS {P : Program} {w : World} {K : PySem.W.Frag} {elts : List Expr} {kk : Nat} {tpos : Pos} (x : Str) (tx : Tok) (e it : Addr) :
    Turn P w K (.Tuple elts kk tpos) (IteS x) [e, it] e (fun i h => (∃ old, IsEnum h e it ((i : Nat) : Int) old) ∧ h.IsStrIter it (strIterType x) x tx i ∧ e ≠ it ∧ i ≤ x.cps.size) where
  mem := by simp
  obj := fun i h st b hb => by
    obtain ⟨⟨old, he⟩, ⟨o, ho, hc, hd⟩, _⟩ := st
    have e' : b = e ∨ b = it := by simpa using hb
    rcases e' with z | z
    · rw [z]; exact ⟨_, he, fun v q => nomatch q⟩
    · rw [z]; exact ⟨o, ho, fun v q => by rw [hd] at q; cases q⟩
  keep := fun i h h' st k => let ⟨⟨old, he⟩, ⟨o, ho, r⟩, hne⟩ := st; ⟨⟨old, k e (by simp) _ he⟩, ⟨o, k it (by simp) o ho, r⟩, hne⟩
  item := by
    intro X hP hw hK hc i pins s σ H E I hf st hg
    subst hP hw hK
    obtain ⟨⟨old, he⟩, hit, hne, hle⟩ := st
    have hg : i < x.cps.size := hg
    have hel : e < s.heap.objs.size := Heap.lt_size he
    have hil : it < s.heap.objs.size := by obtain ⟨_, q, _⟩ := hit; exact Heap.lt_size q
    have Dr := Draws.text (prog := X.prog) (w := X.w) (A := X.A.in1) (I.ok.hd hc) it x tx
    refine wpAny_pyNext_enum_itemD Dr he hit hg hne (by simpa using hne) fun u h' tk hu ho hit' hT hsz hk => ?_
    obtain ⟨ch, tu, hch, rfl⟩ := hu
    refine ⟨_, rfl, wpAny_letOwnedTupleGo_enum (s := { s with heap := h', toks := tk + 1 }) ho fun h'' he' sb => ?_⟩
    have hT2 : h''.get? s.heap.objs.size = some { cls := .type "tuple", data := .seq #[.int i tk, .str ⟨#[ch]⟩ tu] } := (sb.2 _ (Nat.ne_of_gt hel)).trans hT
    have new : ObjOk X.prog X.w (upd H s.heap.objs.size (.tup [.int (i : Nat), .str ⟨#[ch]⟩])) h'' s.heap.objs.size (.tup [.int (i : Nat), .str ⟨#[ch]⟩]) :=
      ⟨by show 2 ≤ sizeLine; decide, [.int i tk, .str ⟨#[ch]⟩ tu], .cons ⟨_, rfl⟩ (.cons ⟨_, rfl⟩ .nil), ⟨_, hT2, rfl, _, rfl⟩⟩
    have I1 : Inv X pins σ (upd H s.heap.objs.size (.tup [.int (i : Nat), .str ⟨#[ch]⟩])) { s with heap := h'', toks := tk + 1 } :=
      I.turnedNew (ch := [e, it]) (fun b ob hb q => (sb.2 b (fun z => hb (by simp [z]))).trans (hk b ob (fun z => hb (by simp [z])) (fun z => hb (by simp [z])) q)) hf (Nat.le_refl _) new
    obtain ⟨oi, hoi, ri⟩ := hit'
    refine ⟨.ref s.heap.objs.size, _, I1, rfl, ⟨_, ch, rfl, I.hok.fresh (Nat.le_refl _), rfl, hch⟩, ⟨⟨.str ⟨#[ch]⟩ tu, ?_⟩, ⟨oi, (sb.2 it (Ne.symm hne)).trans hoi, ri⟩, hne, hg⟩, fun b hb => ?_⟩
    · have e1 : ((i + 1 : Nat) : Int) = (i : Int) + 1 := by omega
      rw [e1]; exact he'
    · have hb' : b < s.heap.objs.size := by
        have e' : b = e ∨ b = it := by simpa using hb
        rcases e' with z | z
        · rw [z]; exact hel
        · rw [z]; exact hil
      rw [upd_ne (Nat.ne_of_lt hb')]
      exact (hf b hb).1
  done := by
    intro X hP hw hK hc i pins s σ H E I hf st hg
    subst hP hw hK
    obtain ⟨⟨old, he⟩, hit, hne, hle⟩ := st
    have hg : x.cps.size ≤ i := hg
    have hg : i = x.cps.size := Nat.le_antisymm hle hg
    subst hg
    obtain ⟨f0, f1, f2, f3, f4, f5⟩ := hf it (by simp)
    have Dr := Draws.text (prog := X.prog) (w := X.w) (A := X.A.in1) (I.ok.hd hc) it x tx
    exact wpAny_pyNext_enum_endD Dr he hit fun h' eb => ⟨rfl, I.turned (t' := s.toks) (fun b o hb q => eb b o hb q) f0 f1 f3 f4 f5⟩
  self := fun A i s Q E st h => let ⟨⟨_, he⟩, _⟩ := st; wpAny_pyIter_enum he h
def iEnumS (ta : TA) : TI := fun σ H R => ta σ H fun vs H1 => ∃ x, vs = [.str x] ∧ R (IteS x) H1
theorem pi_enumS {X : Cx} {e : Expr} {ta : TA} {p pos tpos : Pos} {elts : List Expr} {kk : Nat} (hg : Gl X "enumerate") (hm : X.mg "enumerate" = none) (ha : PA X [e] ta) (hs : starEach [e] X.env = [(false, eval e X.env)] := by rfl) :
    PI X (.Tuple elts kk tpos) (.Call (.Name "enumerate" p) [e] [] pos) (iEnumS ta) := by
  refine ⟨fun pins s σ H R I h => ?_⟩
  refine Call_ (ld_blt I hg hm boot_enumerate (PyProof.Rows.callWith_type1 (thn (ha.run pos pins s σ H _ I h) fun us s1 ⟨vs, H1, I1, r1, q1⟩ => ?_) hs rfl))
  obtain ⟨x, ex, q⟩ := q1
  subst ex
  cases r1 with
  | cons r rr =>
    cases rr
    obtain ⟨tx, rfl⟩ := r
    refine call_enumerate_str fun h' he hit hsz hk => wpAny_pyIter_enum he ?_
    have I2 : Inv X pins σ H1 { s1 with heap := h' } := I1.kept (t' := s1.toks) hk
    refine ⟨s1.heap.objs.size + 1, [s1.heap.objs.size + 1, s1.heap.objs.size], _, _, H1, rfl, I2, turn_enumS x tx (s1.heap.objs.size + 1) s1.heap.objs.size, ⟨⟨.none, he⟩, hit, Nat.succ_ne_self _, Nat.zero_le _⟩, fun b hb => ?_, q⟩
    have e' : b = s1.heap.objs.size + 1 ∨ b = s1.heap.objs.size := by simpa using hb
    have hle : s1.heap.objs.size ≤ b := by
      rcases e' with z | z
      · rw [z]; exact Nat.le_add_right _ _
      · rw [z]; exact Nat.le_refl _
    exact I1.fpOk hle (I1.hok.fresh hle)
end L2
namespace G7
open PySem PySem.Spec
open L2 (V Hp HO St WX TE TS R2 OpR CallR MtR MtM SlR IxR Inv RelV Vals upd upd_same upd_ne ne_of_none SqL SqT Cx Room EP VK PE PT PA PI PG PO Sp XK It TI TG FnOk thn)
variable [WW]
section
variable {X : Cx} {K : PySem.W.Frag} {F0 H0 : Hp} {ρ0 : Rho}
theorem runs_enumS {x : Str} (z : x.length ≤ sizeLine) : Runs K (.fix (enumL (x.cps.toList.map fun c => .str ⟨#[c]⟩) 0)) (L2.IteS x) F0 H0 ρ0 := by
  intro i F H ρ s e st
  refine ⟨fun q => ?_, fun d q => ?_⟩
  · have q : (enumL (x.cps.toList.map fun c => P.str ⟨#[c]⟩) 0)[i]? = none := Option.some.inj q
    rw [enumL_get, List.getElem?_map] at q
    have q : x.cps.toList[i]? = none := by simpa using q
    have := List.getElem?_eq_none_iff.mp q
    show x.cps.size ≤ i
    simpa using this
  · have q : (enumL (x.cps.toList.map fun c => P.str ⟨#[c]⟩) 0)[i]? = some d := Option.some.inj q
    rw [enumL_get, List.getElem?_map] at q
    obtain ⟨y, q1, rfl⟩ := Option.map_eq_some_iff.mp q
    obtain ⟨ch, q2, rfl⟩ := Option.map_eq_some_iff.mp q1
    have q' : x.cps[i]? = some ch := by simpa using q2
    refine ⟨ix_lt q2 (by rw [Array.length_toList]; exact z), ?_, fun w H' ⟨p, c2, e0, hp, e1, e2⟩ => ?_⟩
    · show i < x.cps.size
      have := (List.getElem?_eq_some_iff.mp q2).1
      simpa using this
    · rw [q'] at e2; cases e2
      subst e0; subst e1
      refine ⟨_, st.xnew hp, st.new hp, .p (.tup upd_same (by show 2 ≤ sizeLine; decide) (.cons ?_ (.cons (.str _) .nil)))⟩
      rw [Nat.zero_add]
      exact .int _
theorem runs_enumT {a : Addr} {vs : List V} {xs : List P} (h : F0 a = some (.tup vs)) (z : xs.length ≤ sizeLine) (r : HasPs F0 vs xs) : Runs K (.fix (enumL xs 0)) (L2.IteT K a vs) F0 H0 ρ0 := by
  intro i F H ρ s e st
  have hH : H a = some (.tup vs) := st.sub _ _ (e.f _ _ h)
  refine ⟨fun q => ?_, fun d q => ?_⟩
  · have q : (enumL xs 0)[i]? = none := Option.some.inj q
    rw [enumL_get] at q
    have q : xs[i]? = none := by simpa using q
    exact ⟨SqT.of hH, by rw [r.length]; exact List.getElem?_eq_none_iff.mp q⟩
  · have q : (enumL xs 0)[i]? = some d := Option.some.inj q
    rw [enumL_get] at q
    obtain ⟨x, q1, rfl⟩ := Option.map_eq_some_iff.mp q
    obtain ⟨v, hv, hx⟩ := r.get q1
    refine ⟨ix_lt q1 z, ⟨SqT.of hH, (List.getElem?_eq_some_iff.mp hv).1⟩, fun w H' ⟨p, x2, e0, hp, e1, e2⟩ => ?_⟩
    rw [hv] at e2; cases e2
    subst e0; subst e1
    refine ⟨_, st.xnew hp, st.new hp, .p (.tup upd_same (by show 2 ≤ sizeLine; decide) (.cons ?_ (.cons (HasP.mono ((e.f).trans (sub_upd (st.sub.none hp))) _ _ hx) .nil)))⟩
    rw [Nat.zero_add]
    exact .int _
end
section
variable {T : Tabs} {G : Fns} {k : Nat} {c : Ct} {W : WX} {X : Cx} {xc : Nat → Value} {tg a b d : Expr} {as : List Expr} {fa fb fc : Sl → Sto → R D} {pos : Pos}
theorem s_ival (ha : PE X a (tE X.K xc W fa)) : PI X tg a (tI X.K xc W fun σ s => (fa σ s).bind fun d s => R.of (srcOf s d) s) := by
  refine PI.imp ((PI.or (L2.pi_list ha) (PI.or (L2.pi_tup ha) (L2.pi_str ha)))) fun σ H R ⟨F, ρ, τ, s, st, sl, h⟩ => ?_
  dsimp only at h
  cases g : fa τ s with
  | bad => rw [g] at h; exact h.elim
  | exc n s1 => rw [g] at h; exact .inl ⟨F, ρ, τ, s, st, sl, by rw [g]; exact h⟩
  | ok d0 s1 =>
    have h' := h
    rw [g, G7.R.bind_ok] at h
    obtain ⟨r, e, _⟩ := h.of
    have hb : RP xc W σ F H ρ (fa τ s) (fun d s F' H' ρ' => RP xc W σ F' H' ρ' (G7.R.of (srcOf s d) s) fun r s F H ρ => ∀ J, Runs X.K r J F H ρ → R J H) := RP.bind h'
    have key : ∀ {Q : V → Hp → Prop}, (∀ F1 H1 ρ1 x, Stt F1 H1 ρ1 s1 → HasD X.K F1 ρ1 x d0 → (∀ J, Runs X.K r J F1 H1 ρ1 → R J H1) → Q x H1) → tE X.K xc W fa σ H Q := fun {Q} hq => by
      refine ⟨F, ρ, τ, s, st, sl, hb.impE fun d s2 F1 H1 ρ1 g1 e1 st1 h1 x hx => ?_⟩
      rw [g] at g1; cases g1
      obtain ⟨r', e', h2⟩ := h1.of
      rw [e] at e'; cases e'
      exact hq F1 H1 ρ1 x st1 hx (h2.now st1)
    unfold srcOf at e
    split at e
    · cases e
      refine .inl (key fun F1 H1 ρ1 x st1 hx hr => ?_)
      cases hx with | p hx =>
      cases hx with | lst h1 z h2 =>
      exact ⟨_, rfl, ⟨_, SqL.of (st1.sub _ _ h1)⟩, hr _ (runs_lst h1 z h2)⟩
    · cases e
      refine .inr (.inl (key fun F1 H1 ρ1 x st1 hx hr => ?_))
      cases hx with | p hx =>
      cases hx with | tup h1 z h2 =>
      exact ⟨_, rfl, ⟨_, SqT.of (st1.sub _ _ h1)⟩, hr _ (runs_tup h1 (by rw [List.length_map]; exact z) (HasDs.ofP h2))⟩
    · split at e
      · rename_i hz
        cases e
        refine .inr (.inr (key fun F1 H1 ρ1 x st1 hx hr => ?_))
        cases hx.str
        exact ⟨_, rfl, hr _ (runs_str hz)⟩
      · cases e
    · cases e
      refine .inr (.inl (key fun F1 H1 ρ1 x st1 hx hr => ?_))
      cases hx with | tup h1 z h2 =>
      exact ⟨_, rfl, ⟨_, SqT.of (st1.sub _ _ h1)⟩, hr _ (runs_tup h1 z h2)⟩
    · rename_i n
      split at e
      · rename_i ys ho
        cases e
        refine .inl (key fun F1 H1 ρ1 x st1 hx hr => ?_)
        cases hx with | @tmp q _ h1 =>
        obtain ⟨_, vs, h2, _⟩ := st1.ot n _ q ho h1
        exact ⟨_, rfl, ⟨_, SqL.of h2⟩, hr _ (runs_tm h1)⟩
      · cases e
    · rename_i n
      split at e
      · rename_i ys ho
        cases e
        refine .inl (key fun F1 H1 ρ1 x st1 hx hr => ?_)
        cases hx with | @ref q _ h1 =>
        obtain ⟨_, vs, h2, _⟩ := st1.om n _ q ho h1
        exact ⟨_, rfl, ⟨_, SqL.of h2⟩, hr _ (runs_rf h1)⟩
      · cases e
    · cases e
theorem s_rng1 (hX : XE T G k c W X) {x : Str} {p : Pos} (hx : x = "range") (hf : T.free c x = true) (ha : PE X a (tE X.K xc W fa)) (hp : plainE a = true) :
    PI X tg (.Call (.Name x p) [a] [] pos) (tI X.K xc W fun σ s => (fa σ s).bind fun d s => (match d with
    | .p (.int j) => if -1000000 ≤ j ∧ j ≤ 1000000 then .ok (.fix (rangeL 0 j.toNat)) s else .bad
    | _ => .bad)) := by
  obtain ⟨hg, hm, hd, hn⟩ := hX.isFree hf
  subst hx
  have hs := star1 (xs := []) (env := X.env) hp
  refine PI.imp (L2.pi_range1 hg hm (L2.pa_cons ha L2.pa_nil hs) hs) fun σ H R ⟨F, ρ, τ, s, st, sl, h⟩ => ?_
  refine ⟨F, ρ, τ, s, st, sl, h.bind.imp fun d s1 F1 H1 ρ1 e1 st1 h1 x hx => ?_⟩
  split at h1
  · split at h1
    · rename_i j hj
      cases hx.int
      exact ⟨j, rfl, by omega, by omega, h1.now st1 _ (runs_range (by rw [sizeLine_eq]; omega))⟩
    · exact h1.elim
  · exact h1.elim
theorem s_rng2 (hX : XE T G k c W X) {x : Str} {p : Pos} (hx : x = "range") (hf : T.free c x = true) (ha : PE X a (tE X.K xc W fa)) (hp : plainE a = true) (hb : PE X b (tE X.K xc W fb)) (hq : plainE b = true) :
    PI X tg (.Call (.Name x p) [a, b] [] pos) (tI X.K xc W fun σ s => (fa σ s).bind fun d s => (fb σ s).bind fun e s => (match d, e with
    | .p (.int i), .p (.int j) => if -1000000 ≤ i ∧ i ≤ 1000000 ∧ -1000000 ≤ j ∧ j ≤ 1000000 then .ok (.fix (rangeL i (j - i).toNat)) s else .bad
    | _, _ => .bad)) := by
  obtain ⟨hg, hm, hd, hn⟩ := hX.isFree hf
  subst hx
  have hs2 := star1 (xs := []) (env := X.env) hq
  have hs := star1 (xs := [b]) (env := X.env) hp
  refine PI.imp (L2.pi_range2 hg hm (L2.pa_cons ha (L2.pa_cons hb L2.pa_nil hs2) hs) (by rw [hs, hs2]; rfl) hs2) fun σ H R ⟨F, ρ, τ, s, st, sl, h⟩ => ?_
  refine ⟨F, ρ, τ, s, st, sl, h.bind.imp fun d s1 F1 H1 ρ1 e1 st1 h1 x hx => ?_⟩
  refine ⟨F1, ρ1, τ, s1, st1, sl.mono e1, h1.bind.imp fun e s2 F2 H2 ρ2 e2 st2 h2 y hy => ?_⟩
  split at h2
  · split at h2
    · rename_i i j hj
      cases hx.int; cases hy.int
      exact ⟨i, j, rfl, by omega, h2.now st2 _ (runs_range (by rw [sizeLine_eq]; omega))⟩
    · exact h2.elim
  · exact h2.elim
theorem s_enum (hX : XE T G k c W X) {x : Str} {p : Pos} (htg : isTupE tg = true) (hx : x = "enumerate") (hf : T.free c x = true) (ha : PE X a (tE X.K xc W fa)) (hp : plainE a = true) :
    PI X tg (.Call (.Name x p) [a] [] pos) (tI X.K xc W fun σ s => (fa σ s).bind fun d s => (match d with
    | .p a => R.of (enumOf a) s
    | _ => .bad)) := by
  obtain ⟨hg, hm, hd, hn⟩ := hX.isFree hf
  subst hx
  have hs := star1 (xs := []) (env := X.env) hp
  cases tg <;> first | (cases htg; done) | skip
  refine PI.imp (PI.or (L2.pi_enum hg hm (L2.pa_cons ha L2.pa_nil hs) hs) (PI.or (L2.pi_enumS hg hm (L2.pa_cons ha L2.pa_nil hs) hs) (L2.pi_enumT hg hm (L2.pa_cons ha L2.pa_nil hs) hs))) fun σ H R ⟨F, ρ, τ, s, st, sl, h⟩ => ?_
  dsimp only at h
  cases g : fa τ s with
  | bad => rw [g] at h; exact h.elim
  | exc n s1 => rw [g] at h; exact .inl ⟨F, ρ, τ, s, st, sl, by rw [g]; exact h⟩
  | ok d0 s1 =>
    have hb := RP.bind h
    rw [g, G7.R.bind_ok] at h
    split at h
    · rename_i y
      obtain ⟨r, e, _⟩ := h.of
      have key : ∀ {Q : V → Hp → Prop}, (∀ F1 H1 ρ1 x, Stt F1 H1 ρ1 s1 → HasP F1 x y → (∀ J, Runs X.K r J F1 H1 ρ1 → R J H1) → Q x H1) → tE X.K xc W fa σ H Q := fun {Q} hq => by
        refine ⟨F, ρ, τ, s, st, sl, hb.impE fun d s2 F1 H1 ρ1 g1 e1 st1 h1 x hx => ?_⟩
        rw [g] at g1; cases g1
        obtain ⟨r', e', h2⟩ := h1.of
        rw [e] at e'; cases e'
        cases hx with | p hx =>
        exact hq F1 H1 ρ1 x st1 hx (h2.now st1)
      unfold enumOf at e
      split at e
      · cases e
        refine .inl (key fun F1 H1 ρ1 x st1 hx hr => ?_)
        cases hx with | lst h1 z h2 =>
        exact ⟨_, _, rfl, SqL.of (st1.sub _ _ h1), hr _ (runs_enum h1 z h2)⟩
      · cases e
        refine .inr (.inr (key fun F1 H1 ρ1 x st1 hx hr => ?_))
        cases hx with | tup h1 z h2 =>
        exact ⟨_, _, rfl, SqT.of (st1.sub _ _ h1), hr _ (runs_enumT h1 z h2)⟩
      · split at e
        · rename_i hz
          cases e
          refine .inr (.inl (key fun F1 H1 ρ1 x st1 hx hr => ?_))
          cases hx
          exact ⟨_, rfl, hr _ (runs_enumS hz)⟩
        · cases e
      · cases e
    · exact h.elim
theorem s_zip (hX : XE T G k c W X) {x : Str} {p : Pos} (htg : isTupE tg = true) (hx : x = "zip") (hf : T.free c x = true) (ha : PE X a (tE X.K xc W fa)) (hp : plainE a = true) (hb : PE X b (tE X.K xc W fb)) (hq : plainE b = true) :
    PI X tg (.Call (.Name x p) [a, b] [] pos) (tI X.K xc W fun σ s => (fa σ s).bind fun d s => (fb σ s).bind fun e s => (match d, e with
    | .p x, .p y => R.of (zipOf x y) s
    | _, _ => .bad)) := by
  obtain ⟨hg, hm, hd, hn⟩ := hX.isFree hf
  subst hx
  have hs2 := star1 (xs := []) (env := X.env) hq
  have hs := star1 (xs := [b]) (env := X.env) hp
  have hall : (backTo pos (starEach [b] X.env)).any (·.1) = false := star_all (by rw [List.all_cons, hq]; rfl)
  cases tg <;> first | (cases htg; done) | skip
  refine PI.imp (RZ.pi_zipA hg hm (L2.pa_cons ha (L2.pa_cons hb L2.pa_nil hs2) hs) hs hall) fun σ H R ⟨F, ρ, τ, s, st, sl, h⟩ => ?_
  refine ⟨F, ρ, τ, s, st, sl, h.bind.imp fun d s1 F1 H1 ρ1 e1 st1 h1 x hx => ?_⟩
  refine ⟨F1, ρ1, τ, s1, st1, sl.mono e1, h1.bind.imp fun e s2 F2 H2 ρ2 e2 st2 h2 y hy => ?_⟩
  have hx := HasD.mono e2 _ _ hx
  split at h2
  · cases hx with | p hx =>
    cases hy with | p hy =>
    obtain ⟨r, e3, h3⟩ := h2.of
    unfold zipOf at e3
    split at e3
    · cases e3
      cases hx with | lst a1 az a2 =>
      cases hy with | lst b1 bz b2 =>
      exact ⟨_, _, _, _, rfl, .inl ⟨SqL.of (st2.sub _ _ a1), SqL.of (st2.sub _ _ b1), h3.now st2 _ (runs_zipL az a1 a2 b1 b2)⟩⟩
    · cases e3
      cases hx with | tup a1 az a2 =>
      cases hy with | tup b1 bz b2 =>
      exact ⟨_, _, _, _, rfl, .inr ⟨SqT.of (st2.sub _ _ a1), SqT.of (st2.sub _ _ b1), h3.now st2 _ (runs_zipT az a1 a2 b1 b2)⟩⟩
    · cases e3
  · exact h2.elim
end
end G7

namespace G7
open PySem PySem.Spec
open L2 (V Hp HO St WX TE TS R2 OpR CallR MtR MtM SlR IxR Inv RelV Vals upd upd_same upd_ne ne_of_none SqL SqT Cx Room EP VK PE PT PA PI PG PGs PO Sp XK It TI TG TGs FnOk thn)
variable [WW]

/-! ### targets -/
theorem wipe_in {σ : St} {i : Nat} : ∀ {vs : List Nat}, i ∈ vs → i < σ.length → (L2.wipe σ vs)[i]? = some none
  | [], h, _ => nomatch h
  | v :: vs, h, hl => by
    unfold L2.wipe
    by_cases e : v = i
    · subst e
      rw [List.getElem?_set_self (by rw [L2.wipe_length]; exact hl)]
    · rw [List.getElem?_set_ne e]
      rcases List.mem_cons.mp h with z | z
      · exact absurd z.symm e
      · exact wipe_in z hl
theorem wipe_set {σ : St} {i : Nat} {x : Option V} {vs : List Nat} (h : i ∈ vs) : L2.wipe (σ.set i x) vs = L2.wipe σ vs := by
  apply List.ext_getElem?
  intro j
  by_cases hj : j ∈ vs
  · by_cases hl : j < σ.length
    · rw [wipe_in hj hl, wipe_in hj (by simpa using hl)]
    · rw [List.getElem?_eq_none (by rw [L2.wipe_length]; simpa using hl), List.getElem?_eq_none (by rw [L2.wipe_length]; simpa using hl)]
  · rw [L2.wipe_out hj, L2.wipe_out hj, List.getElem?_set_ne (fun e => hj (by rw [← e]; exact h))]
/-- a target's reading -/
def tG (K : PySem.W.Frag) (tg : Tg) : TG := fun v σ H Q => ∃ F ρ τ s d τ', Stt F H ρ s ∧ SlOk K F ρ σ τ ∧ HasD K F ρ v d ∧ tg.put d τ = some τ' ∧
  ∀ σ', SlOk K F ρ σ' τ' → (∀ vs : List Nat, (∀ i ∈ tg.slots, i ∈ vs) → L2.wipe σ' vs = L2.wipe σ vs) → Q σ' H
def tGs (K : PySem.W.Frag) (is : List Nat) : TGs := fun vs σ H Q => ∃ F ρ τ s ds τ', Stt F H ρ s ∧ SlOk K F ρ σ τ ∧ HasDs K F ρ vs ds ∧ setAll τ is ds = some τ' ∧
  ∀ σ', SlOk K F ρ σ' τ' → (∀ vs : List Nat, (∀ i ∈ is, i ∈ vs) → L2.wipe σ' vs = L2.wipe σ vs) → Q σ' H
theorem PG.imp {X : Cx} {e : Expr} {t t' : TG} (h : PG X e t) (g : ∀ v σ H Q, t' v σ H Q → t v σ H Q) : PG X e t' := ⟨fun pins s σ H v u Q I r q => h.run pins s σ H v u Q I r (g v σ H Q q)⟩
theorem PGs.imp {X : Cx} {e : List Expr} {t t' : TGs} (h : PGs X e t) (g : ∀ v σ H Q, t' v σ H Q → t v σ H Q) : PGs X e t' := ⟨fun pins s σ H v u Q I r q => h.run pins s σ H v u Q I r (g v σ H Q q)⟩
section
variable {T : Tabs} {G : Fns} {k : Nat} {c : Ct} {W : WX} {X : Cx} {xc : Nat → Value}
theorem XE.sto (h : XE T G k c W X) {x : Str} (hs : storable c x = true) : L2.Loc X.env.scope x ∧ (X.fn x = true ∨ X.env.scope.names.lookup x = some .local) := by
  rw [h.sc, h.fn]
  unfold storable at hs
  split at hs
  · rename_i e; exact ⟨.inl e, .inr e⟩
  · rename_i e; exact ⟨.inr e, .inl hs⟩
  · cases hs
theorem s_tname (hX : XE T G k c W X) {i : Nat} {e : Expr} (h : ckName c i e = true) : PG X e (L2.gName i) := by
  unfold ckName at h
  split at h
  · obtain ⟨h1, h2⟩ := ba h
    have h1 := of_decide_eq_true h1
    obtain ⟨l1, l2⟩ := hX.sto h2
    exact L2.pg_name (by rw [hX.hN]; exact hX.nd) (by rw [hX.hN]; exact h1) l1 l2
  · cases h
theorem ckName_name {i : Nat} {e : Expr} (h : ckName c i e = true) : ∃ x p, e = .Name x p := by
  unfold ckName at h
  split at h
  · exact ⟨_, _, rfl⟩
  · cases h
theorem s_tnames (hX : XE T G k c W X) : ∀ {is : List Nat} {es : List Expr}, ckNames c is es = true → PGs X es (tGs X.K is)
  | [], [], _ => PGs.imp L2.pgs_nil fun vs σ H Q ⟨F, ρ, τ, s, ds, τ', st, sl, hd, e, q⟩ => by
    cases ds with
    | nil =>
      cases hd
      cases e
      exact ⟨rfl, q σ sl fun _ _ => rfl⟩
    | cons _ _ => cases e
  | [], _ :: _, h => by simp [ckNames] at h
  | _ :: _, [], h => by simp [ckNames] at h
  | i :: is, e :: es, h => by
    simp only [ckNames] at h
    obtain ⟨h1, h2⟩ := ba h
    obtain ⟨x, p, he⟩ := ckName_name h1
    refine PGs.imp (L2.pgs_cons (s_tname hX h1) (s_tnames hX h2) (by subst he; rfl)) fun vs σ H Q ⟨F, ρ, τ, s, ds, τ', st, sl, hd, e, q⟩ => ?_
    cases ds with
    | nil => cases e
    | cons d ds =>
      cases hd with | @cons v ws _ _ hv hr =>
      exact ⟨v, ws, rfl, F, ρ, τ.set i (some d), s, ds, τ', st, sl.set hv, hr, e, fun σ' s' hw => q σ' s' fun us hu => by
        rw [hw us fun j hj => hu j (List.mem_cons_of_mem _ hj)]
        exact wipe_set (hu i List.mem_cons_self)⟩
theorem names_len {env : Env} : ∀ {is : List Nat} {es : List Expr}, ckNames c is es = true → (assignEach es env).length = is.length ∧ (assignEach es env).findIdx? (·.1) = none
  | [], [], _ => ⟨rfl, rfl⟩
  | [], _ :: _, h => by simp [ckNames] at h
  | _ :: _, [], h => by simp [ckNames] at h
  | i :: is, e :: es, h => by
    simp only [ckNames] at h
    obtain ⟨h1, h2⟩ := ba h
    obtain ⟨x, p, he⟩ := ckName_name h1
    subst he
    obtain ⟨e1, e2⟩ := names_len (env := env) h2
    refine ⟨?_, ?_⟩
    · show (assignEach es env).length + 1 = is.length + 1
      rw [e1]
    · show List.findIdx? (·.1) ((false, assign (.Name x p) env) :: assignEach es env) = none
      rw [List.findIdx?_cons]
      simp [e2]
theorem setAll_len : ∀ {is : List Nat} {ds : List D} {τ τ' : Sl}, setAll τ is ds = some τ' → ds.length = is.length
  | [], [], _, _, _ => rfl
  | [], _ :: _, _, _, h => by cases h
  | _ :: _, [], _, _, h => by cases h
  | _ :: is, _ :: ds, _, _, h => by
    rw [List.length_cons, List.length_cons, setAll_len (is := is) (ds := ds) h]
theorem s_tnm (hX : XE T G k c W X) {is : List Nat} {es : List Expr} {kk : Nat} {pp : Pos} (h : ckNames c is es = true) : PG X (.Tuple es kk pp) (tG X.K (.names is)) := by
  obtain ⟨l1, l2⟩ := names_len (env := X.env) h
  refine PG.imp (L2.pg_tup hX.calm (s_tnames hX h) l1 l2) fun v σ H Q ⟨F, ρ, τ, s, d, τ', st, sl, hd, e, q⟩ => ?_
  cases hd with
  | p hp =>
    cases hp with
    | @tup a vs xs h1 hz hr =>
      have e : setAll τ is (xs.map .p) = some τ' := e
      have hl := setAll_len e
      rw [List.length_map] at hl
      exact ⟨a, vs, rfl, SqT.of (st.sub _ _ h1), by rw [hr.length]; exact hl, F, ρ, τ, s, xs.map .p, τ', st, sl, HasDs.ofP hr, e, q⟩
    | _ => cases e
  | @tup a vs ds h1 hz hr =>
    have e : setAll τ is ds = some τ' := e
    exact ⟨a, vs, rfl, SqT.of (st.sub _ _ h1), by rw [hr.length]; exact setAll_len e, F, ρ, τ, s, ds, τ', st, sl, hr, e, q⟩
  | _ => cases e
theorem s_tg (hX : XE T G k c W X) {tg : Tg} {e : Expr} (h : ckTg c tg e = true) : PG X e (tG X.K tg) := by
  unfold ckTg at h
  split at h
  · rename_i i
    refine PG.imp (s_tname hX h) fun v σ H Q ⟨F, ρ, τ, s, d, τ', st, sl, hd, e, q⟩ => ?_
    have e : some (τ.set i (some d)) = some τ' := e
    cases e
    exact q _ (sl.set hd) fun vs hv => wipe_set (hv i (by simp [Tg.slots]))
  · exact s_tnm hX h
  · rename_i i is e es kk pp k2 p2
    obtain ⟨h1, h2⟩ := ba h
    obtain ⟨x, p, he⟩ := ckName_name h1
    subst he
    refine PG.imp (L2.pg_tup (n := 2) hX.calm (L2.pgs_cons (s_tname hX h1) (L2.pgs_cons (s_tnm hX h2) L2.pgs_nil))) fun v σ H Q ⟨F, ρ, τ, s, d, τ', st, sl, hd, e, q⟩ => ?_
    cases hd with
    | p hp =>
      cases hp with
      | @tup a vs xs h1 hz hr =>
        match xs, e, hr with
        | [y, .tup zs], e, hr =>
          cases hr with | @cons v1 ws _ _ hv1 hr =>
          cases hr with | @cons v2 ws _ _ hv2 hr =>
          cases hr
          have e : setAll (τ.set i (some (.p y))) is (zs.map .p) = some τ' := e
          exact ⟨a, _, rfl, SqT.of (st.sub _ _ h1), rfl, v1, _, rfl, v2, _, rfl, F, ρ, τ.set i (some (.p y)), s, .p (.tup zs), τ', st, sl.set (.p hv1), .p hv2, e, fun σ' s' hw => ⟨rfl, q σ' s' fun us hu => by
            rw [hw us fun j hj => hu j (List.mem_cons_of_mem _ hj)]
            exact wipe_set (hu i List.mem_cons_self)⟩⟩
      | _ => cases e
    | _ => cases e
  · cases h
end

/-! ### a comprehension: its new list is left out of the heap -/
def del (H : Hp) (p : Addr) : Hp := fun a => if a = p then none else H a
theorem del_same {H : Hp} {p : Addr} : del H p p = none := by unfold del; rw [if_pos rfl]
theorem del_ne {H : Hp} {p a : Addr} (h : a ≠ p) : del H p a = H a := by unfold del; rw [if_neg h]
theorem upd_del {H : Hp} {p : Addr} {o : HO} (h : H p = some o) : upd (del H p) p o = H := by
  funext a
  by_cases e : a = p
  · subst e; rw [upd_same, h]
  · rw [upd_ne e, del_ne e]
theorem upd_del2 {H : Hp} {p : Addr} {o : HO} : upd (del H p) p o = upd H p o := by
  funext a
  by_cases e : a = p
  · subst e; rw [upd_same, upd_same]
  · rw [upd_ne e, upd_ne e, del_ne e]
theorem wipe_wipe {σ : St} {vs : List Nat} : L2.wipe (L2.wipe σ vs) vs = L2.wipe σ vs := by
  apply List.ext_getElem?
  intro j
  by_cases hj : j ∈ vs
  · by_cases hl : j < σ.length
    · rw [wipe_in hj hl, wipe_in hj (by rw [L2.wipe_length]; exact hl)]
    · rw [List.getElem?_eq_none (by rw [L2.wipe_length, L2.wipe_length]; simpa using hl), List.getElem?_eq_none (by rw [L2.wipe_length]; simpa using hl)]
  · rw [L2.wipe_out hj]
theorem Stt.del {F H : Hp} {ρ : Rho} {s : Sto} {p : Addr} (st : Stt F H ρ s) (hf : F p = none) (hp : p ∉ ρ.t ++ ρ.m) (hq : ρ.u.o p = none) (hg : ∀ xs, H p ≠ some (gO p xs)) : Stt F (del H p) ρ s := by
  have ne : ∀ b, ρ.u.o b ≠ none → b ≠ p := fun b hb e => hb (by rw [e]; exact hq)
  have sa : ∀ a, a ≠ p → SameAt ρ.u H (G7.del H p) a := fun a ha => ⟨del_ne ha, fun b k hb => del_ne (ne b (by rw [hb]; exact fun z => nomatch z))⟩
  refine ⟨fun a o h => ?_, st.tl, st.ml, st.nd, st.out, fun i o a h1 h2 => ?_, fun i o a h1 h2 => ?_, fun b hb => ⟨(st.uo b hb).1, (st.uo b hb).2.1, by rw [del_ne (ne b hb)]; exact (st.uo b hb).2.2⟩, fun b q k e => let ⟨h1, h2⟩ := st.uw b q k e; ⟨by rw [del_ne (fun z => by subst z; exact hg _ h1)]; exact h1, h2⟩⟩
  · rw [del_ne fun e => by rw [e, hf] at h; cases h]; exact st.sub a o h
  · exact (st.ot i o a h1 h2).mono (Sub.refl F) (sa a fun e => hp (e ▸ List.mem_append_left _ (List.mem_of_getElem? h2)))
  · exact (st.om i o a h1 h2).mono (Sub.refl F) (sa a fun e => hp (e ▸ List.mem_append_right _ (List.mem_of_getElem? h2)))
theorem Ext.del {F F' Hv H' : Hp} {ρ ρ' : Rho} {p : Addr} {o : HO} (e : Ext F (upd Hv p o) ρ F' H' ρ') (hv : Hv p = none) : Ext F Hv ρ F' (del H' p) ρ' := by
  have ne : ∀ a, Hv a ≠ none → a ≠ p := fun a h z => h (by rw [z]; exact hv)
  refine ⟨e.f, e.t, e.m, fun a x h hn hu => ?_, fun a ha => ?_, fun a x h => ?_, fun a h => ?_, e.c, fun a ha => ?_, e.um⟩
  · have hne := ne a (by rw [h]; exact fun z => nomatch z)
    rw [del_ne hne]
    exact e.k a x (by rw [upd_ne hne]; exact h) hn hu
  · rcases e.n a ha with z | z
    · exact .inl z
    · by_cases q : a = p
      · subst q; rw [upd_same] at z; cases z
      · rw [upd_ne q] at z; exact .inr z
  · rcases e.g a x h with z | z | z
    · exact .inl z
    · by_cases q : a = p
      · subst q; rw [upd_same] at z; cases z
      · rw [upd_ne q] at z; exact .inr (.inl z)
    · exact .inr (.inr z)
  · have hne := ne a h
    rw [del_ne hne]
    exact e.w a (by rw [upd_ne hne]; exact h)
  · rcases e.nu a ha with z | z
    · exact .inl z
    · by_cases q : a = p
      · subst q; rw [upd_same] at z; cases z
      · rw [upd_ne q] at z; exact .inr z
/-- behind an evaluation the new list stands as it stood, and is nobody's -/
theorem Ext.kept {F F' Hv H' : Hp} {ρ ρ' : Rho} {p : Addr} {o : HO} (e : Ext F (upd Hv p o) ρ F' H' ρ') (hf : F p = none) (hp : p ∉ ρ.t ++ ρ.m) (hq : ρ.u.o p = none) : H' p = some o ∧ F' p = none ∧ p ∉ ρ'.t ++ ρ'.m ∧ ρ'.u.o p = none := by
  refine ⟨e.k p o upd_same hp hq, ?_, fun z => ?_, ?_⟩
  · cases q : F' p with
    | none => rfl
    | some x =>
      rcases e.g p x q with z | z | z | z
      · rw [hf] at z; cases z
      · rw [upd_same] at z; cases z
      · exact absurd z hp
      · exact absurd hq z
  · rcases e.n p z with z | z
    · exact hp z
    · rw [upd_same] at z; cases z
  · cases q : ρ'.u.o p with
    | none => rfl
    | some x =>
      rcases e.nu p (by rw [q]; exact fun z => nomatch z) with z | z
      · exact absurd hq z
      · rw [upd_same] at z; cases z
section
variable {T : Tabs} {G : Fns} {k : Nat} {c : Ct} {W : WX} {X : Cx} {xc : Nat → Value} {tg' it' elt' : Expr} {ifs : List Expr} {scope : Scope} {pos : Pos} {fi : Sl → Sto → R Src} {stp : Sl → Sto → R (Option P)} {tt : L2.TT} {te : TE}
/-- what a turn's test and element are to do -/
def StepOk (K : PySem.W.Frag) (stp : Sl → Sto → R (Option P)) (tt : L2.TT) (te : TE) : Prop := ∀ (σ : St) (τ : Sl) (F H : Hp) (ρ : Rho) (s s' : Sto) (o : Option P) (A : VK) (B : Hp → Prop), Stt F H ρ s → SlOk K F ρ σ τ → stp τ s = .ok o s' →
  (∀ F' H' ρ', Ext F H ρ F' H' ρ' → Stt F' H' ρ' s' → match o with
    | some a => ∀ y, HasP F' y a → A y H'
    | none => B H') → tt σ H fun b H3 => if b = true then te σ H3 A else B H3
theorem t_comp {K : PySem.W.Frag} {tg : Tg} {vs : List Nat} (hstep : StepOk K stp tt te) (hslots : ∀ i ∈ tg.slots, i ∈ vs) {σ : St} {H : Hp} {Q : VK} (h : tL K xc W (fun σ s => (fi σ s).bind fun r s => lcLoop r (fun d s => match tg.put d (wipe σ vs) with
      | none => .bad
      | some σ1 => stp σ1 s) (r.len s + 1) 0 [] s) σ H Q) : L2.tLc (tI K xc W fi) (tG K tg) tt te vs σ H Q := by
  obtain ⟨F, ρ, τ, s, st, sl, h⟩ := h
  refine ⟨F, ρ, τ, s, st, sl, h.bind.imp fun r s1 F1 H1 ρ1 e1 st1 h1 J hJ DD hD => ?_⟩
  have sl1 := sl.mono e1
  generalize hstp : (fun (d : D) (s : Sto) => (match tg.put d (wipe τ vs) with
      | none => R.bad
      | some σ1 => stp σ1 s : R (Option P))) = step at h1
  refine ⟨fun i m H => ∃ Fv Hv ρv sv acc ws, H = upd Hv DD (.lst ws) ∧ Hv DD = none ∧ Stt Fv Hv ρv sv ∧ HasPs Fv ws acc ∧ acc.length ≤ i ∧ acc.length ≤ sizeLine ∧ Ext F1 H1 ρ1 Fv Hv ρv ∧ RP xc W σ Fv Hv ρv (lcLoop r step m i acc sv) (CL K Q), ⟨_, F1, H1, ρ1, s1, [], [], rfl, hD, st1, .nil, Nat.zero_le _, Nat.zero_le _, Ext.refl _ _ _, h1⟩, ?_⟩
  rintro i m _ ⟨Fv, Hv, ρv, sv, acc, ws, rfl, hv, stv, hr, hai, haz, ev, hl⟩
  have fD : Fv DD = none := stv.sub.none hv
  have nD : DD ∉ ρv.t ++ ρv.m := fun z => stv.inH z hv
  have uD : ρv.u.o DD = none := by
    cases q : ρv.u.o DD with
    | none => rfl
    | some x => exact absurd hv (stv.uo DD (by rw [q]; exact fun z => nomatch z)).2.2
  have stS : Stt Fv (upd Hv DD (.lst ws)) ρv sv := stv.skip hv
  have eS : Ext Fv Hv ρv Fv (upd Hv DD (.lst ws)) ρv := stv.xskip hv
  cases m with
  | zero => exact hl.elim
  | succ m =>
    unfold lcLoop at hl
    obtain ⟨j1, j2⟩ := hJ i Fv (upd Hv DD (.lst ws)) ρv sv (ev.trans eS) stS
    cases hat : r.at sv i with
    | none => rw [hat] at hl; exact hl.elim
    | some o =>
      rw [hat] at hl
      cases o with
      | none =>
        refine .inl ⟨j1 hat, ?_⟩
        exact hl.now stv DD ws hv haz hr
      | some d =>
        obtain ⟨hi0, hgo, hy⟩ := j2 d hat
        refine .inr ⟨hgo, fun H' => ∃ m', m' < m + 1 ∧ ∃ Fv Hv ρv sv acc ws, H' = upd Hv DD (.lst ws) ∧ Hv DD = none ∧ Stt Fv Hv ρv sv ∧ HasPs Fv ws acc ∧ acc.length ≤ i + 1 ∧ acc.length ≤ sizeLine ∧ Ext F1 H1 ρ1 Fv Hv ρv ∧ RP xc W σ Fv Hv ρv (lcLoop r step m' (i + 1) acc sv) (CL K Q), fun H' z => z, fun x H' yl => ?_⟩
        obtain ⟨F2, e2, st2, hx⟩ := hy x H' yl
        simp only at hl
        have hst : step d sv = (match tg.put d (wipe τ vs) with
          | none => R.bad
          | some σ1 => stp σ1 sv : R (Option P)) := by rw [← hstp]
        cases hput : tg.put d (wipe τ vs) with
        | none => rw [hput] at hst; rw [hst] at hl; exact hl.elim
        | some τ1 =>
          rw [hput] at hst
          simp only at hst
          refine ⟨F2, ρv, wipe τ vs, sv, d, τ1, st2, (((sl1.mono ev).mono eS).mono e2).wipe vs, hx, hput, fun σ' sl' hw => ⟨?_, ?_⟩⟩
          · rw [hw vs hslots, wipe_wipe]
          · cases hss : step d sv with
            | bad => rw [hss] at hl; exact hl.elim
            | exc n s' => rw [hss] at hl; exact hl.elim
            | ok o s' =>
              rw [hss] at hl
              simp only at hl
              refine hstep σ' τ1 F2 H' ρv sv s' o _ _ st2 sl' (hst.symm.trans hss) fun F3 H3 ρ3 e3 st3 => ?_
              have e23 := (e2.trans e3)
              obtain ⟨k1, k2, k3, k4⟩ := e23.kept fD nD uD
              have hf := (e23.del hv)
              have hs3 := st3.del k2 k3 k4 (fun xs z => by rw [k1] at z; cases z)
              cases o with
              | some a =>
                intro y hya
                refine ⟨ws, k1, ?_, m, Nat.lt_succ_self m, F3, del H3 DD, ρ3, s', acc ++ [a], ws ++ [y], ?_, del_same, hs3, (HasPs.mono hf.f _ _ hr).append (.cons hya .nil), ?_, ?_, ev.trans hf, hl.mono hf⟩
                · rw [hr.length]; omega
                · exact (upd_del2).symm
                · rw [List.length_append]; simp; exact hai
                · rw [List.length_append]; simp; omega
              | none =>
                exact ⟨m, Nat.lt_succ_self m, F3, del H3 DD, ρ3, s', acc, ws, (upd_del k1).symm, del_same, hs3, HasPs.mono hf.f _ _ hr, Nat.le_succ_of_le hai, haz, ev.trans hf, hl.mono hf⟩
theorem own_snd (N : List Str) (vs : List Nat) : (ownOf N vs).map (·.2) = vs := by
  unfold ownOf
  rw [List.map_map]
  exact List.map_id vs
theorem s_comp (hX : XE T G k c W X) {tg : Tg} {vs : List Nat} (hi : PI X tg' it' (tI X.K xc W fi))
    (hg : ∀ (s : Shared) (H : Hp) (C : Addr) (cl : List (Str × Addr)) (fp : List Addr), PG (X.blk s H scope (compEnvC scope cl C X.env) fp) tg' (tG X.K tg))
    (ht : ∀ (s : Shared) (H : Hp) (C : Addr) (cl : List (Str × Addr)) (fp : List Addr), L2.PTs (X.blk s H scope (compEnvC scope cl C X.env) fp) ifs tt)
    (he : ∀ (s : Shared) (H : Hp) (C : Addr) (cl : List (Str × Addr)) (fp : List Addr), PE (X.blk s H scope (compEnvC scope cl C X.env) fp) elt' te)
    (hstep : StepOk X.K stp tt te) (hblk : L2.blkC c.N c.sc scope (ownOf c.N vs) = true) (hslots : ∀ i ∈ tg.slots, i ∈ vs) (hpl : plainE it' = true) :
    PE X (.ListComp elt' [⟨tg', it', ifs, 0⟩] scope pos) (tL X.K xc W fun σ s => (fi σ s).bind fun r s => lcLoop r (fun d s => match tg.put d (wipe σ vs) with
      | none => .bad
      | some σ1 => stp σ1 s) (r.len s + 1) 0 [] s) := by
  have hb := L2.blkOk_by hblk
  rw [← hX.sc] at hb
  refine PE.imp (L2.pe_lc (own := ownOf c.N vs) hX.calm (by rw [hX.hN]; exact hX.nd) hi (by rw [hX.hN]; exact hb) hg ht he (noFold1 hpl)) fun σ H Q h => ?_
  rw [own_snd]
  exact t_comp hstep hslots h
theorem PS.imp {X : Cx} {st : Stmt} {t t' : TS} (h : L2.PS X st t) (g : ∀ D σ H, t' D σ H → t D σ H) : L2.PS X st t' := ⟨fun pins s σ H D I q => h.run pins s σ H D I (g D σ H q)⟩
theorem PSs.imp {X : Cx} {st : List Stmt} {t t' : TS} (h : L2.PSs X st t) (g : ∀ D σ H, t' D σ H → t D σ H) : L2.PSs X st t' := ⟨fun pins s σ H D I q => h.run pins s σ H D I (g D σ H q)⟩
/-- name = [..] -/
theorem s_compS (hX : XE T G k c W X) (hk : c.sc.kind = .function) {i : Nat} {y : Str} {py spos : Pos} {tg : Tg} {vs : List Nat} (hy : c.N[i]? = some y) (hyl : c.sc.names.lookup y = some .local) (hl : (py.line == pos.line) = true)
    (hany : (scope.names.any fun (n, k) => n == y && (k == .local || k == .cell)) = false) (hi : PI X tg' it' (tI X.K xc W fi))
    (hg : ∀ (s : Shared) (H : Hp) (C : Addr) (cl : List (Str × Addr)) (fp : List Addr), PG (X.blk s H scope (compEnvC scope cl C X.env) fp) tg' (tG X.K tg))
    (ht : ∀ (s : Shared) (H : Hp) (C : Addr) (cl : List (Str × Addr)) (fp : List Addr), L2.PTs (X.blk s H scope (compEnvC scope cl C X.env) fp) ifs tt)
    (he : ∀ (s : Shared) (H : Hp) (C : Addr) (cl : List (Str × Addr)) (fp : List Addr), PE (X.blk s H scope (compEnvC scope cl C X.env) fp) elt' te)
    (hstep : StepOk X.K stp tt te) (hblk : L2.blkC c.N c.sc scope (ownOf c.N vs) = true) (hslots : ∀ i ∈ tg.slots, i ∈ vs) (hpl : plainE it' = true) :
    L2.PS X (.Assign [.Name y py] (.ListComp elt' [⟨tg', it', ifs, 0⟩] scope pos) spos) (L2.tAsg (tL X.K xc W fun σ s => (fi σ s).bind fun r s => lcLoop r (fun d s => match tg.put d (wipe σ vs) with
      | none => .bad
      | some σ1 => stp σ1 s) (r.len s + 1) 0 [] s) (L2.gName i)) := by
  have hb := L2.blkOk_by hblk
  rw [← hX.sc] at hb
  refine PS.imp (L2.ps_setLc (own := ownOf c.N vs) hX.calm (by rw [hX.hN]; exact hX.nd) (by rw [hX.hN]; exact hy) (by rw [hX.sc]; exact hyl) (L2.sw_true (by rw [hX.sc]; exact hk) (by rw [hX.sc]; exact hyl) hl hany) hi (by rw [hX.hN]; exact hb) hg ht he (noFold1 hpl)) fun D σ H h => ?_
  rw [own_snd]
  exact t_comp hstep hslots h
end
end G7

namespace G7
open PySem PySem.Spec
open L2 (V Hp HO St WX TE TS R2 OpR CallR MtR MtM SlR IxR Inv RelV Vals upd upd_same upd_ne ne_of_none SqL SqT Cx Room EP VK PE PT PA PI PG PGs PO Sp XK It TI TG TGs FnOk thn)
variable [WW]

/-! ### an instance's methods and making, with exceptions that see the slots -/
section
variable {X : Cx} {k : Nat} {C f : Addr} {fd : FuncData} {ps : List Str} {sp : Sp} {E : St → XK}
theorem me_call {prog : Program} {w : World} {A : Around} {Er : Value → Shared → Prop} {s : Shared} {env : Env} {o : Expr} {m : Str} {apos pos : Pos} {args : List Expr} {Q : Value → Shared → Prop}
    (hbase : attributeBase o m env (eval o env) = eval o env) (hform : methodCallForm (args.length + ([] : List Keyword).length) (backTo pos (starEach args env)) (backToKw pos (keywordEach [] env)) = true)
    (hline : (apos.endLine == pos.line) = true)
    (h : wpAny (model prog w) A (eval o env) (fun ov s1 => ∀ pl, wpAny (model prog w) A (getMethod ov m pl) (fun fx s2 => wpAny (model prog w) A (callWith pos fx.1 fx.2 (backTo pos (starEach args env)) (backToKw pos (keywordEach [] env))) Q Er s2) Er s1) Er s) :
    wpAny (model prog w) A (eval (.Call (.Attribute o m apos) args [] pos) env) Q Er s := by
  rw [arm_eval_Call, hbase]
  refine wpAny_bind (wpAny_mono h (fun ov s1 h1 => wpAny_bind (wpAny_standAt ?_)) fun _ _ e => e)
  have hpos : methodCallPos true o env apos pos = pure pos := by
    unfold methodCallPos
    simp only [hline, Bool.or_true, if_true]
  unfold methodCall
  rw [hform]
  exact wpAny_bind (wpAny_holding (wpAny_mono (h1 _) (fun fx s2 h2 => wpAny_bind (wpAny_of_eq hpos h2)) fun _ _ e => e))
def tMe (C : Addr) (m : Str) (sp : Sp) (E : St → XK) (ta : TE) (t : L2.TA) : TE := fun σ H Q => ta σ H fun x H1 =>
  ∃ a dx fs, x = .ref a ∧ H1 a = some (.ins C dx fs) ∧ fs.lookup m = none ∧ t σ H1 fun vs H2 => sp (x :: vs) H2 Q (E σ)
theorem form_ok {args : List Expr} {pos : Pos} {env : Env} (hp : args.all plainE = true) (hl : args.length < 20) : methodCallForm (args.length + ([] : List Keyword).length) (backTo pos (starEach args env)) (backToKw pos (keywordEach [] env)) = true := by
  have h1 := star_all (pos := pos) (env := env) hp
  unfold methodCallForm
  rw [List.any_eq_false] at h1
  have h2 : (backTo pos (starEach args env)).all (fun x => !x.1) = true := List.all_eq_true.mpr fun x hx => by
    have := h1 x hx
    simpa using this
  rw [h2]
  simp [keywordEach, backToKw]
  omega
theorem pe_me {o e : Expr} {m : Str} {apos pos : Pos} {es : List Expr} {ta : TE} {t : L2.TA} (he : PE X o ta) (hp : plainE o = true) (c : L2.Cls X.K C) (hm : L2.Meth X.K C m f) (F : FnOk X.prog X.w X.K X.mg X.base (L2N.CX X.prog X.w) k f fd ps sp)
    (hr : Room k X.A) (hb : L2.Binds X.K fd ps []) (hx : ∀ σ, L2.PassesAt (L2N.CX X.prog X.w) X σ (E σ)) (ha : PA X (e :: es) t) (hpa : (e :: es).all plainE = true) (hl : (e :: es).length < 20) (hline : (apos.endLine == pos.line) = true) :
    PE X (.Call (.Attribute o m apos) (e :: es) [] pos) (tMe C m sp E ta t) := by
  refine ⟨fun pins s σ H Q I h => me_call (base1 hp) (form_ok hpa hl) hline (thn (he.run pins s σ H _ I h) fun u s1 ⟨x, H1, I1, rx, a, dx, fs, ex, ea, l, q⟩ pl => ?_)⟩
  subst ex
  cases (show u = Value.ref a from rx)
  refine L2.getmeth_ok I1 ea c hm l ?_
  rw [List.all_cons] at hpa
  obtain ⟨p1, p2⟩ := ba hpa
  exact PySem.W.callWith_K (first := [.ref a]) (h₀ := X.base) I.ok.mod.kin hm.kp (thn (ha.run pos pins s1 σ H1 _ I1 q) fun us s2 ⟨vs, H2, I2, r, q2⟩ => ⟨I2.kIn, L2.run_fnS (us := .ref a :: us) (vs := .ref a :: vs) F hr hb (hx σ) I2 (.cons rfl r) q2⟩) (star1 p1) (star_all p2)
theorem pe_me0 {o : Expr} {m : Str} {apos pos : Pos} {ta : TE} (he : PE X o ta) (hp : plainE o = true) (c : L2.Cls X.K C) (hm : L2.Meth X.K C m f) (F : FnOk X.prog X.w X.K X.mg X.base (L2N.CX X.prog X.w) k f fd ps sp)
    (hr : Room k X.A) (hb : L2.Binds X.K fd ps []) (hx : ∀ σ, L2.PassesAt (L2N.CX X.prog X.w) X σ (E σ)) (hline : (apos.endLine == pos.line) = true) :
    PE X (.Call (.Attribute o m apos) [] [] pos) (tMe C m sp E ta L2.tNil) := by
  refine ⟨fun pins s σ H Q I h => me_call (base1 hp) (form_ok (args := []) rfl (by simp)) hline (thn (he.run pins s σ H _ I h) fun u s1 ⟨x, H1, I1, rx, a, dx, fs, ex, ea, l, q⟩ pl => ?_)⟩
  subst ex
  cases (show u = Value.ref a from rx)
  refine L2.getmeth_ok I1 ea c hm l ?_
  exact PySem.W.callWith_K0 (first := [.ref a]) I1.kIn hm.kp (L2.run_fnS (us := [.ref a]) (vs := [.ref a]) F hr hb (hx σ) I1 (.cons rfl .nil) q)
def tMk (C : Addr) (sp : Sp) (E : St → XK) (t : L2.TA) : TE := fun σ H Q => t σ H fun vs H1 => ∀ x dx, H1 x = none → H1 dx = none → dx ≠ x →
  sp (.ref x :: vs) (upd (upd H1 dx (.own x)) x (.ins C dx [])) (fun v H2 => v = .non ∧ Q (.ref x) H2) (E σ)
theorem run_mk {pins : List (Addr × Obj)} {σ : St} {H : Hp} {s : Shared} {Q : VK} {us : List Value} {vs : List V} (M : L2.Mk X.K C f) (F : FnOk X.prog X.w X.K X.mg X.base (L2N.CX X.prog X.w) k f fd ps sp) (hr : Room (k + 1) X.A)
    (hb : L2.Binds X.K fd ps []) (hx : L2.PassesAt (L2N.CX X.prog X.w) X σ (E σ)) (I : Inv X pins σ H s) (r : Vals vs us)
    (h : ∀ x dx, H x = none → H dx = none → dx ≠ x → sp (.ref x :: vs) (upd (upd H dx (.own x)) x (.ins C dx [])) (fun v H2 => v = .non ∧ Q (.ref x) H2) (E σ)) : wpAny (model X.prog X.w) X.A (call (.ref C) us) (EP X pins σ Q) X.xe s := by
  generalize hn : s.heap.objs.size = n at *
  have fr : ∀ j, n ≤ j → H j = none := fun j hj => I.hok.fresh (by rw [hn]; exact hj)
  have hq := h (n + 1) n (fr _ (Nat.le_succ n)) (fr _ (Nat.le_refl n)) (Nat.ne_of_lt (Nat.lt_succ_self n))
  have I2 := Inv.made (C := C) I
  rw [hn] at I2
  have r2 : Vals (V.ref (n + 1) :: vs) (Value.ref (n + 1) :: us) := .cons rfl r
  have hl : (Value.ref (n + 1) :: us).length = ps.length := by rw [← r2.length]; exact F.len _ _ _ _ hq
  have b := hb _ (Value.ref (n + 1) :: us) I2.kIn (by rw [List.append_nil]; exact hl)
  rw [List.append_nil] at b
  have go := F.run _ X.stack _ _ ⟨Value.ref (n + 1) :: us, []⟩ (Value.ref (n + 1) :: us) _ _ (E σ) (hr.make C us []) (I2.env0.make C us []) b r2 hq
  refine wpAny_call (L2.make_map (f := f) I.kIn M.makes M.init (beq_iff_eq.mp M.fn) ?_)
  rw [hn]
  refine codeAny_mono go fun fl s' back => ?_
  cases fl with
  | error e => exact hx pins _ _ e s' I2 back
  | ok fl =>
    cases fl with
    | next => exact back.elim
    | brk => exact back.elim
    | cont => exact back.elim
    | ret u =>
      obtain ⟨v, H', I3, rv, ev, q3⟩ := I2.after back
      subst ev
      exact ⟨rv, V.ref (n + 1), H', I3, rfl, q3⟩
theorem pe_mk {x : Str} {p pos : Pos} {e : Expr} {es : List Expr} {t : L2.TA} (M : L2.Mk X.K C f) (F : FnOk X.prog X.w X.K X.mg X.base (L2N.CX X.prog X.w) k f fd ps sp) (hr : Room (k + 1) X.A) (hg : L2.Gl X x) (hm : X.mg x = some (.ref C)) (hb : L2.Binds X.K fd ps [])
    (hx : ∀ σ, L2.PassesAt (L2N.CX X.prog X.w) X σ (E σ)) (ha : PA X (e :: es) t) (hdb : (x == ("__debug__" : Str)) = false) (hpa : (e :: es).all plainE = true) : PE X (.Call (.Name x p) (e :: es) [] pos) (tMk C sp E t) := by
  rw [List.all_cons] at hpa
  obtain ⟨p1, p2⟩ := ba hpa
  exact ⟨fun pins s σ H Q I h => wpAny_Call_Name_kw (L2.ld_glob I hg hm (PySem.W.callWith_K (h₀ := X.base) I.ok.mod.kin M.kp (thn (ha.run pos pins s σ H _ I h) fun us s1 ⟨vs, H1, I1, r, q⟩ => ⟨I1.kIn, run_mk M F hr hb (hx σ) I1 r q⟩) (star1 p1) (star_all p2)) hdb)⟩
end
/-! ### terms -/
theorem ins_sees {K : PySem.W.Frag} {F H : Hp} {ρ : Rho} {s : Sto} {v : V} {d : D} {fs : List (Str × Fv)} (st : Stt F H ρ s) (hd : HasD K F ρ v d) (e : s.ins d = some fs) :
    ∃ n a dx ws, d = .ref n ∧ v = .ref a ∧ ρ.m[n]? = some a ∧ H a = some (.ins ρ.C dx ws) ∧ HasFs F ρ.m ws fs := by
  cases hd with
  | @ref b n h =>
    simp only [Sto.ins] at e
    split at e
    · rename_i xs hx
      cases e
      obtain ⟨dx, ws, h1, h2⟩ := st.om n _ b hx h
      exact ⟨n, b, dx, ws, rfl, rfl, h, h1, h2⟩
    · cases e
  | p _ => cases e
  | scr _ => cases e
  | tmp _ => cases e
  | tup _ _ _ => cases e
  | dct _ _ _ _ _ _ => cases e
theorem fv_has {K : PySem.W.Frag} {F : Hp} {ρ : Rho} {v : V} : ∀ {f : Fv}, FvOk F ρ.m v f → HasD K F ρ v (fvD f)
  | .p a, h => .p h
  | .m n, ⟨a, e, h⟩ => by subst e; exact .ref h
theorem has_fv {K : PySem.W.Frag} {F : Hp} {ρ : Rho} {v : V} {d : D} {f : Fv} (hd : HasD K F ρ v d) (e : dFv d = some f) : FvOk F ρ.m v f := by
  cases hd with
  | p h => cases e; exact h
  | ref h => cases e; exact ⟨_, rfl, h⟩
  | scr _ => cases e
  | tmp _ => cases e
  | tup _ _ _ => cases e
  | dct _ _ _ _ _ _ => cases e
section
variable {T : Tabs} {G : Fns} {k : Nat} {c : Ct} {W : WX} {X : Cx} {xc : Nat → Value} {a b d : Expr} {as : List Expr} {fa fb fc : Sl → Sto → R D} {pos : Pos}
theorem pe_nev {e : Expr} {t : TE} (h : ∀ σ H Q, t σ H Q → False) : PE X e t := ⟨fun _ _ _ _ _ _ q => (h _ _ _ q).elim⟩
theorem s_nev : PE X a (tE X.K xc W fun _ _ => .bad) := pe_nev fun _ _ _ ⟨_, _, _, _, _, _, h⟩ => h
theorem t_nev : PT X a (tT X.K xc W fun _ _ => .bad) := ⟨fun _ _ _ _ _ _ q => by obtain ⟨_, _, _, _, _, _, h⟩ := q; exact h.elim⟩
theorem XE.hasF (hX : XE T G k c W X) {x : Str} (h : T.hasF x = true) : L2.Cls X.K (He.ga X.K (Str.ofString "House")) ∧ L2.NoAttr X.K (He.ga X.K (Str.ofString "House")) x := by
  obtain ⟨h1, h2⟩ := ba h
  obtain ⟨y, hy, e⟩ := List.any_eq_true.mp h2
  have e := of_decide_eq_true e
  subst e
  exact ⟨(hX.cls h1).1, hX.noat h1 y hy⟩
theorem s_fld (hX : XE T G k c W X) {x : Str} (hf : T.hasF x = true) (ha : PE X a (tE X.K xc W fa)) (hp : plainE a = true) : PE X (.Attribute a x pos) (tE X.K xc W fun σ s => (fa σ s).bind fun d s => fldD d x s) := by
  obtain ⟨hc, hn⟩ := hX.hasF hf
  refine PE.imp (L2.pe_fld ha (base1 hp)) fun σ H Q ⟨F, ρ, τ, s, st, sl, h⟩ => ?_
  refine ⟨F, ρ, τ, s, st, sl, h.bind.imp fun d s1 F1 H1 ρ1 e1 st1 h1 v hv => ?_⟩
  unfold fldD at h1
  split at h1
  · rename_i fs hfs
    obtain ⟨n, q, dx, ws, rfl, rfl, hm, hH, hF⟩ := ins_sees st1 hv hfs
    split at h1
    · rename_i y hy
      obtain ⟨v, hl, hok⟩ := (hF.lookup x).1 y hy
      have hC := e1.c.trans sl.c
      rw [hC] at hH
      exact ⟨q, _, dx, ws, v, rfl, hH, hc, hn, hl, h1.now st1 v (fv_has hok)⟩
    · exact h1.elim
  · exact h1.elim
theorem methAt1 {f : Nat} {m : Str} {n : Nat} (h : T.methAt f m n = true) : ∃ fe, T.fns[f]? = some fe ∧ T.cls = true ∧ fe.at_ = (Str.ofString "House", some m) ∧ fe.ps.length = n := by
  unfold Tabs.methAt at h
  split at h
  · rename_i fe hfe
    obtain ⟨h1, h2⟩ := ba h
    obtain ⟨h2, h3⟩ := ba h2
    exact ⟨fe, hfe, h1, of_decide_eq_true h2, of_decide_eq_true h3⟩
  · cases h
theorem s_meth (hX : XE T G k c W X) {f : Nat} {m : Str} {p : Pos} {es : Es} (hm : T.methAt f m (as.length + 1) = true) (hni : m ≠ Str.ofString "__init__") (hline : (p.endLine == pos.line) = true) (ha : PE X a (tE X.K (xcOf T X.K) W fa)) (hp : plainE a = true)
    (hs : PA X as (tA X.K (xcOf T X.K) W (evs G es))) (hck : ckEs T c es as = true) (hl : as.length < 20) :
    PE X (.Call (.Attribute a m p) as [] pos) (tE X.K (xcOf T X.K) W fun σ s => (fa σ s).bind fun d s => (match s.ins d with
    | some fs => if (fs.lookup m).isNone then (evs G es σ s).bind fun ds s => G f (d :: ds) s else .bad
    | none => .bad)) := by
  obtain ⟨fe, hfe, hcl, hat, hlen⟩ := methAt1 hm
  obtain ⟨fd, F, hb, hme, _⟩ := hX.mth hcl f fe m hfe hat
  have Cl := (hX.cls hcl).1
  have key : PE X (.Call (.Attribute a m p) as [] pos) (tMe (He.ga X.K (Str.ofString "House")) m (spD X.K (xcOf T X.K) (G f) fe.ps.length) (L2.WE W) (tE X.K (xcOf T X.K) W fa) (tA X.K (xcOf T X.K) W (evs G es))) := by
    cases as with
    | nil =>
      cases es with
      | nil =>
        refine PE.imp (pe_me0 (E := L2.WE W) ha hp Cl (hme hni) F hX.room hb (fun σ => L2N.passAt hX.tk σ) hline) fun σ H Q h => ?_
        obtain ⟨F, ρ, τ, s, st, sl, h⟩ := h
        refine ⟨F, ρ, τ, s, st, sl, h.imp fun d s1 F1 H1 ρ1 e1 st1 h1 v hv => ?_⟩
        obtain ⟨q, dx, fs, e2, e3, e4, F2, ρ2, τ2, s2, st2, sl2, h2⟩ := h1 v hv
        refine ⟨q, dx, fs, e2, e3, e4, ?_⟩
        unfold evs at h2
        exact h2.now st2 [] .nil
      | cons _ _ => simp [ckEs] at hck
    | cons e es' => exact pe_me ha hp Cl (hme hni) F hX.room hb (fun σ => L2N.passAt hX.tk σ) hs (ckEs_plain hck) hl hline
  refine PE.imp key fun σ H Q ⟨F, ρ, τ, s, st, sl, h⟩ => ?_
  refine ⟨F, ρ, τ, s, st, sl, h.bind.imp fun d s1 F1 H1 ρ1 e1 st1 h1 v hv => ?_⟩
  split at h1
  · rename_i fs hfs
    obtain ⟨n, q, dx, ws, rfl, rfl, hmm, hH, hF⟩ := ins_sees st1 hv hfs
    split at h1
    · rename_i hno
      have hno : fs.lookup m = none := by
        cases z : fs.lookup m with
        | none => rfl
        | some _ => rw [z] at hno; cases hno
      have hC := e1.c.trans sl.c
      rw [hC] at hH
      refine ⟨q, dx, ws, rfl, hH, (hF.lookup m).2 hno, F1, ρ1, τ, s1, st1, sl.mono e1, h1.bind.impE fun ds s2 F2 H2 ρ2 g e2 st2 h2 xs hxs => ?_⟩
      refine ⟨by rw [List.length_cons, hxs.length, evs_len hck g, hlen], F2, ρ2, s2, .ref n :: ds, e2.c.trans hC, st2, .cons (HasD.mono e2 _ _ hv) hxs, h2⟩
    · exact h1.elim
  · exact h1.elim
theorem s_make (hX : XE T G k c W X) {f : Nat} {x : Str} {p : Pos} {es : Es} (hx : x = "House") (hm : T.methAt f "__init__" ((a :: as).length + 1) = true) (hg : isGl c.sc x = true) (ho : okn x = true)
    (hs : PA X (a :: as) (tA X.K (xcOf T X.K) W (evs G es))) (hck : ckEs T c es (a :: as) = true) :
    PE X (.Call (.Name x p) (a :: as) [] pos) (tE X.K (xcOf T X.K) W fun σ s => (evs G es σ s).bind fun ds s => (G f (.ref s.m.length :: ds) (s.pushM (.ins []))).bind fun r s' => (match r with
    | .p .non => .ok (.ref s.m.length) s'
    | _ => .bad)) := by
  obtain ⟨fe, hfe, hcl, hat, hlen⟩ := methAt1 hm
  obtain ⟨fd, F, hb, _, hmk⟩ := hX.mth hcl f fe _ hfe hat
  obtain ⟨_, hmg⟩ := hX.cls hcl
  subst hx
  refine PE.imp (pe_mk (E := L2.WE W) (hmk rfl) F hX.room1 (hX.gl hg) hmg hb (fun σ => L2N.passAt hX.tk σ) hs (okn1 ho).1 (ckEs_plain hck)) fun σ H Q ⟨F, ρ, τ, s, st, sl, h⟩ => ?_
  refine ⟨F, ρ, τ, s, st, sl, h.bind.impE fun ds s1 F1 H1 ρ1 g e1 st1 h1 vs hvs y dx hy hdx hne => ?_⟩
  have hC := e1.c.trans sl.c
  have hy' : upd H1 dx (.own y) y = none := by rw [upd_ne (Ne.symm hne)]; exact hy
  have st2 : Stt F1 (upd (upd H1 dx (.own y)) y (.ins (He.ga X.K (Str.ofString "House")) dx [])) ⟨ρ1.t, ρ1.m ++ [y], ρ1.C, ρ1.u⟩ (s1.pushM (.ins [])) :=
    (st1.skip hdx).pushM hy' ⟨dx, [], by rw [upd_same, hC], .nil⟩
  have e2 : Ext F1 H1 ρ1 F1 (upd (upd H1 dx (.own y)) y (.ins (He.ga X.K (Str.ofString "House")) dx [])) ⟨ρ1.t, ρ1.m ++ [y], ρ1.C, ρ1.u⟩ := (st1.xskip hdx).trans ((st1.skip hdx).xpushM hy')
  have hn : (ρ1.m ++ [y])[s1.m.length]? = some y := by rw [← st1.ml]; simp
  refine ⟨by rw [List.length_cons, hvs.length, evs_len hck g, hlen], F1, ⟨ρ1.t, ρ1.m ++ [y], ρ1.C, ρ1.u⟩, s1.pushM (.ins []), .ref s1.m.length :: ds, hC, st2, .cons (.ref hn) (HasDs.mono e2 _ _ hvs), ?_⟩
  have h2 := RP.bind (RP.mono h1 e2)
  refine RP.imp (xc := xcOf T X.K) (W := fun cls d _ H => L2.WE W σ cls d H) (σ := []) (show RP (xcOf T X.K) (fun cls d _ H => L2.WE W σ cls d H) [] F1 _ ⟨ρ1.t, ρ1.m ++ [y], ρ1.C, ρ1.u⟩ (G f (D.ref s1.m.length :: ds) (s1.pushM (O.ins []))) _ from h2) fun r s2 F2 H2 ρ2 e3 st3 h3 v hv => ?_
  split at h3
  · obtain ⟨q, hq⟩ := e3.m
    cases hv with | p hv =>
    cases hv
    exact ⟨rfl, h3.now st3 (.ref y) (.ref (by rw [hq]; exact get_pre hn))⟩
  · exact h3.elim
theorem s_ownD : PE X (.Dict [] [] pos) (tE X.K xc W fun _ s => .ok (.tmp s.t.length) (s.pushT (.dct []))) := by
  refine PE.imp L2.pe_dnewK fun σ H Q ⟨F, ρ, τ, s, st, sl, h⟩ p hp => ?_
  exact h _ _ _ (st.xpush hp) (st.pushO hp ⟨by simp, [], upd_same, .nil⟩) _ (.tmp (by rw [← st.tl]; simp))
theorem s_permD : PE X (.Dict [] [] pos) (tE X.K xc W fun _ s => .ok (.ref s.m.length) (s.pushM (.dct []))) := by
  refine PE.imp L2.pe_dnewK fun σ H Q ⟨F, ρ, τ, s, st, sl, h⟩ p hp => ?_
  exact h _ _ _ (st.xpushM hp) (st.pushM hp ⟨by simp, [], upd_same, .nil⟩) _ (.ref (by rw [← st.ml]; simp))
theorem s_perm {fl : Sl → Sto → R (List P)} (hl : PE X a (tL X.K xc W fl)) : PE X a (tE X.K xc W fun σ s => (fl σ s).bind fun xs s => .ok (.ref s.m.length) (s.pushM (.lst xs))) := by
  refine PE.imp hl fun σ H Q ⟨F, ρ, τ, s, st, sl, h⟩ => ⟨F, ρ, τ, s, st, sl, h.bind.imp fun xs s1 F1 H1 ρ1 e1 st1 h1 p vs hp z r => ?_⟩
  exact h1 _ _ _ (st1.xpushM hp) (st1.pushM hp ⟨z, vs, upd_same, r⟩) _ (.ref (by rw [← st1.ml]; simp))
theorem dFind_sees {K : PySem.W.Frag} {F H : Hp} {ρ : Rho} {s : Sto} {v : V} {d : D} {k : P} {o : Option D} (st : Stt F H ρ s) (hd : HasD K F ρ v d) (hn : s.dct d = none) (h : dFind s d k = some o) :
    ∃ q xs, v = .ref q ∧ GD H q xs ∧ k.key = true ∧ ((o = none ∧ atKey xs k.nk = none) ∨ ∃ e b val y, o = some e ∧ atKey xs k.nk = some (b, val) ∧ RelV y val ∧ HasD K F ρ y e) := by
  unfold dFind at h
  split at h
  · rename_i ks vs
    split at h
    · rename_i hk
      obtain ⟨q, od, xs, ws, rfl, hF, g, r, w, hs, _⟩ := fd_sees st hd
      cases h
      refine ⟨q, xs, rfl, g, hk, ?_⟩
      rcases dctF_find hk r w hs with ⟨g1, g2⟩ | ⟨d', b', v', y', g1, g2, g3, g4⟩
      · exact .inl ⟨g1, g2⟩
      · exact .inr ⟨d', b', v', y', g1, g2, g3, g4⟩
    · cases h
  · split at h
    · rename_i kvs hg
      split at h
      · rename_i hk
        obtain ⟨n, q, xs, rfl, rfl, _, _, hH, g, hh, _⟩ := dg_sees st hd hg
        refine ⟨q, xs, rfl, g, hk, ?_⟩
        rcases hh.find hk with ⟨g1, g2⟩ | ⟨iv, b', v', y', g1, g2, g3, g4⟩
        · rw [g1] at h; cases h
          exact .inl ⟨rfl, g2⟩
        · rw [g1] at h
          cases iv with
          | p x => cases h; exact .inr ⟨_, b', v', y', rfl, g2, g3, .p g4⟩
          | l _ => cases h
          | d _ => cases h
      · cases h
    · rw [hn] at h; cases h
theorem s_dix (hw : WW.w = X.w) (hu : X.A.units + 64 < cLine) (ha : PE X a (tE X.K xc W fa)) (hb : PE X b (tE X.K xc W fb)) (hp : L2.NoSl b) : PE X (.Subscript a b pos) (tE X.K xc W fun σ s => (fa σ s).bind fun d s => (fb σ s).bind fun e s => dixD d e s) := by
  refine PE.imp (pe_dix hw hu ha hb hp) fun σ H Q h => ?_
  refine t_two (r := rDix) h fun x y d e F H ρ s st hx hy h => ?_
  unfold dixD at h
  split at h
  · rename_i kvs q hd
    split at h
    · rename_i kk hk
      obtain ⟨r, e3, h⟩ := h.of
      obtain ⟨z, hz, rfl⟩ := Option.map_eq_some_iff.mp e3
      obtain ⟨ad, ws, rfl, hH, hkv, _⟩ := dct_sees st hx hd
      have ey := get_key (s := s) hy rfl hk
      subst ey
      obtain ⟨v, hv, hh⟩ := (hkv.val kk).1 z hz
      exact .inl ⟨ad, v, rfl, .inl ⟨ws, kk, hH, rfl, hv.symm⟩, h.now st v (.p hh)⟩
    · exact h.elim
  · rename_i q hd
    split at h
    · rename_i v hv
      obtain ⟨ad, xs, rfl, g, hk, h2⟩ := dFind_sees st hx hd hv
      cases hy with | p hy =>
      obtain ⟨kb, gk, _⟩ := gk_of st.sub hy hk
      rcases h2 with ⟨z, _⟩ | ⟨e, b', val, y', z, h3, h4, h5⟩
      · cases z
      · cases z
        exact .inr ⟨ad, xs, kb, _, b', val, y', rfl, g, gk, h3, h4, h.now st _ h5⟩
    · exact h.elim
  · exact h.elim
theorem s_dlen (hX : XE T G k c W X) {x : Str} {p : Pos} (hx : x = "len") (hf : T.free c x = true) (ha : PE X a (tE X.K xc W fa)) (hp : plainE a = true) :
    PE X (.Call (.Name x p) [a] [] pos) (tE X.K xc W fun σ s => (fa σ s).bind fun d s => dlenD d s) := by
  obtain ⟨hg, hm, hd, hn⟩ := hX.isFree hf
  subst hx
  have hs := star1 (xs := []) (env := X.env) hp
  have cr : CallR X (.builtin "len") (fun xs H Q => ∃ (q : Addr) (ws : List (L2.Key × V)), xs = [V.ref q] ∧ L2.Rd H q (.dK ws) ∧ Q (.int ws.length) H) := by
    intro pins s σ H vs us Q I r h
    obtain ⟨q, ws, rfl, hH, hq⟩ := h
    rw [Vals.ref1 r]
    exact L2.d_len I hH fun t s' I' => ⟨.int _, H, I', ⟨_, rfl⟩, hq⟩
  refine PE.imp (L2.pe_callB (CallR.or cr (cr_lenG hX.ww)) hg hm (by decide +kernel) (L2.pa_cons ha L2.pa_nil hs) hn hd hs rfl) fun σ H Q q => t_args1 q fun x d F H ρ s st hx h => ?_
  unfold dlenD at h
  split at h
  · rename_i kvs hk
    obtain ⟨ad, ws, rfl, hH, hkv, _⟩ := dct_sees st hx hk
    refine .inl ⟨ad, ws, rfl, hH, ?_⟩
    rw [hkv.length]
    exact h.now st _ (.p (.int _))
  · split at h
    · obtain ⟨q, od, xs, ws, rfl, hF, g, r, w, hs, _⟩ := fd_sees st hx
      refine .inr ⟨q, xs, rfl, g, ?_⟩
      rw [r.length]
      exact h.now st _ (.p (.int _))
    · split at h
      · rename_i kvs hg
        obtain ⟨n, q, xs, rfl, rfl, _, _, hH, g, hh, _⟩ := dg_sees st hx hg
        refine .inr ⟨q, xs, rfl, g, ?_⟩
        rw [hh.length]
        exact h.now st _ (.p (.int _))
      · exact h.elim
theorem l_add (ha : PE X a (tE X.K xc W fa)) (hb : PE X b (tE X.K xc W fb)) : PE X (.BinOp a .Add b pos) (tL X.K xc W fun σ s => (fa σ s).bind fun d s => (fb σ s).bind fun e s => (match s.get d, s.get e with
    | some (.lst xs), some (.lst ys) => if xs.length + ys.length ≤ sizeLine then .ok (xs ++ ys) s else .bad
    | _, _ => .bad)) := by
  refine PE.imp (L2.pe_op L2.op_cat ha hb) fun σ H Q ⟨F, ρ, τ, s, st, sl, h⟩ => ?_
  refine ⟨F, ρ, τ, s, st, sl, h.bind.imp fun d s1 F1 H1 ρ1 e1 st1 h1 x hx => ?_⟩
  refine ⟨F1, ρ1, τ, s1, st1, sl.mono e1, h1.bind.imp fun e s2 F2 H2 ρ2 e2 st2 h2 y hy => ?_⟩
  split at h2
  · rename_i xs ys g1 g2
    split at h2
    · rename_i hz
      obtain ⟨q1, vs, rfl, h3, r3, z3⟩ := (get_sees st2 (HasD.mono e2 _ _ hx) g1).lst st2.sub
      obtain ⟨q2, ws, rfl, h4, r4, z4⟩ := (get_sees st2 hy g2).lst st2.sub
      exact ⟨_, _, _, _, rfl, rfl, h3, h4, by rw [r3.length, r4.length]; exact hz, fun p hp => h2.now st2 p _ hp (by rw [List.length_append]; exact hz) (r3.append r4)⟩
    · exact h2.elim
  · exact h2.elim
theorem l_rep (ha : PE X a (tE X.K xc W fa)) (hb : PE X b (tE X.K xc W fb)) : PE X (.BinOp a .Mult b pos) (tL X.K xc W fun σ s => (fa σ s).bind fun d s => (fb σ s).bind fun e s => repD d e s) := by
  refine PE.imp (L2.pe_op L2.op_rep ha hb) fun σ H Q ⟨F, ρ, τ, s, st, sl, h⟩ => ?_
  refine ⟨F, ρ, τ, s, st, sl, h.bind.imp fun d s1 F1 H1 ρ1 e1 st1 h1 x hx => ?_⟩
  refine ⟨F1, ρ1, τ, s1, st1, sl.mono e1, h1.bind.imp fun e s2 F2 H2 ρ2 e2 st2 h2 y hy => ?_⟩
  unfold repD at h2
  split at h2
  · rename_i xs k g1
    split at h2
    · rename_i hz
      obtain ⟨q1, vs, rfl, h3, r3, z3⟩ := (get_sees st2 (HasD.mono e2 _ _ hx) g1).lst st2.sub
      cases hy with | p hy =>
      cases hy
      exact ⟨_, _, _, rfl, rfl, h3, hz.1, hz.2.1, by rw [r3.length]; exact hz.2.2, fun p hp => h2.now st2 p _ hp (by rw [rep_len]; exact hz.2.2) (r3.rep _)⟩
    · exact h2.elim
  · exact h2.elim
theorem HasKs.vals {F : Hp} : ∀ {xs : List Ent} {ks : List P}, HasKs F xs ks → HasPs F (xs.map fun x => V.ref x.2.1) ks
  | _, _, .nil => .nil
  | _, _, .cons h1 _ h3 => .cons h1 (HasKs.vals h3)
theorem l_lod (hX : XE T G k c W X) {x : Str} {p : Pos} (hx : x = "list") (hf : T.free c x = true) (ha : PE X a (tE X.K xc W fa)) (hp : plainE a = true) :
    PE X (.Call (.Name x p) [a] [] pos) (tL X.K xc W fun σ s => (fa σ s).bind fun d s => (match s.dctU d with
    | some kvs => .ok (kvs.map fun kv => kP kv.1) s
    | none => keysD d s)) := by
  obtain ⟨hg, hm, hd, hn⟩ := hX.isFree hf
  subst hx
  have hs := star1 (xs := []) (env := X.env) hp
  refine PE.imp (L2.pe_callTy (CallR.or (L2.call_list_dK hX.calm) (cr_listG hX.ww hX.calm)) hg hm (by decide +kernel) (L2.pa_cons ha L2.pa_nil hs) hn hd hs rfl) fun σ H Q ⟨F, ρ, τ, s, st, sl, h⟩ => ?_
  refine ⟨F, ρ, τ, s, st, sl, h.bind.imp fun d s1 F1 H1 ρ1 e1 st1 h1 x hx => ?_⟩
  split at h1
  · rename_i kvs hk
    obtain ⟨ad, ws, rfl, hH, hkv, z⟩ := dctU_sees st1 hx hk
    exact .inl ⟨ad, ws, rfl, hH, fun l hl => h1.now st1 l _ hl (by rw [List.length_map]; exact z) hkv.keys⟩
  · unfold keysD at h1
    split at h1
    · obtain ⟨q, od, xs, ws, rfl, hF, g, r, w, hs, z⟩ := fd_sees st1 hx
      exact .inr ⟨q, xs, rfl, g, fun l hl => h1.now st1 l _ hl z r.vals⟩
    · split at h1
      · rename_i kvs hg
        obtain ⟨n, q, xs, rfl, rfl, _, _, hH, g, hh, z, _⟩ := dg_sees st1 hx hg
        exact .inr ⟨q, xs, rfl, g, fun l hl => h1.now st1 l _ hl (by rw [List.length_map]; exact z) hh.keys.vals⟩
      · exact h1.elim
theorem sort_eq {ns is : List Int} (h1 : ns.Perm is) (h2 : ns.Pairwise (· ≤ ·)) : ns = is.mergeSort (fun a b => decide (a ≤ b)) := by
  have h3 : (is.mergeSort (fun a b => decide (a ≤ b))).Pairwise (· ≤ ·) := by
    have := List.pairwise_mergeSort (le := fun (a b : Int) => decide (a ≤ b)) (fun a b c h1 h2 => by simp at *; omega) (fun a b => by simp; omega) is
    exact this.imp fun h => by simpa using h
  exact (h1.trans (List.mergeSort_perm is _).symm).eq_of_pairwise (le := (· ≤ ·)) (fun a b _ _ h1 h2 => Int.le_antisymm h1 h2) h2 h3
theorem l_srt (hX : XE T G k c W X) {x : Str} {p : Pos} (hx : x = "sorted") (hf : T.free c x = true) (ha : PE X a (tE X.K xc W fa)) (hp : plainE a = true) :
    PE X (.Call (.Name x p) [a] [] pos) (tL X.K xc W fun σ s => (fa σ s).bind fun d s => (match s.get d with
    | some (.lst xs) => (match intsP xs with
      | some is => .ok ((is.mergeSort (fun a b => decide (a ≤ b))).map .int) s
      | none => if srtOk xs = true then .ok (srtP xs) s else .bad)
    | _ => .bad)) := by
  obtain ⟨hg, hm, hd, hn⟩ := hX.isFree hf
  subst hx
  have hs := star1 (xs := []) (env := X.env) hp
  refine PE.imp (L2.pe_callB (CallR.or L2.cr_sortedI (cr_sortedP hX.units)) hg hm (by decide +kernel) (L2.pa_cons ha L2.pa_nil hs) hn hd hs rfl) fun σ H Q ⟨F, ρ, τ, s, st, sl, h⟩ => ?_
  refine ⟨F, ρ, τ, s, st, sl, h.bind.imp fun d s1 F1 H1 ρ1 e1 st1 h1 x hx => ?_⟩
  split at h1
  · rename_i xs hxs
    split at h1
    · rename_i is his
      obtain ⟨q, vs, rfl, h2, r, z⟩ := (get_sees st1 hx hxs).lst st1.sub
      have e := ints_has his r
      subst e
      refine .inl ⟨q, is, rfl, SqL.of h2, fun ns p h3 h4 hp => ?_⟩
      rw [sort_eq h3 h4]
      exact h1.now st1 p _ hp (by rw [List.length_map, List.length_mergeSort, intsP_len his]; exact z) (has_ints _)
    · split at h1
      · rename_i hk
        obtain ⟨q, vs, rfl, h2, r, z⟩ := (get_sees st1 hx hxs).lst st1.sub
        refine .inr ⟨F1, q, vs, xs, rfl, h2, st1.sub, r, hk, z, fun p us hp hs => ?_⟩
        exact h1.now st1 p _ hp (by unfold srtP; rw [List.length_mergeSort]; exact z) hs
      · exact h1.elim
  · exact h1.elim
/-! ### a walk over a dict's keys -/
theorem HasKV.get {F : Hp} : ∀ {ws : List (L2.Key × V)} {kvs : List (L2.Key × P)} {i : Nat} {k : L2.Key} {v : V}, HasKV F ws kvs → ws[i]? = some (k, v) → ∃ x, kvs[i]? = some (k, x)
  | _, _, _, _, _, .nil, e => by simp at e
  | _, _, 0, _, _, .cons r _, e => by simp at e; obtain ⟨rfl, _⟩ := e; exact ⟨_, rfl⟩
  | _, _, i + 1, k, v, .cons _ t, e => by
    obtain ⟨x, h⟩ := HasKV.get (i := i) (k := k) (v := v) t (by simpa using e)
    exact ⟨x, by simpa using h⟩
theorem has_kP {F : Hp} : ∀ k : L2.Key, HasP F (L2.kV k) (kP k)
  | .inl i => .int i
  | .inr x => .str x
theorem runs_dk {K : PySem.W.Frag} {F0 H0 : Hp} {ρ0 : Rho} {q : Addr} {od : Obj} {ws : List (L2.Key × V)} {kvs : List (L2.Key × P)} (h : F0 q = some (.frz od (.dK ws))) (z : kvs.length ≤ sizeLine) (r : HasKV F0 ws kvs) :
    Runs K (.fix (kvs.map fun kv => .p (kP kv.1))) (L2.Itk q od ws) F0 H0 ρ0 := by
  intro i F H ρ s e st
  have hH : H q = some (.frz od (.dK ws)) := st.sub _ _ (e.f _ _ h)
  refine ⟨fun g => ?_, fun d g => ?_⟩
  · have g : (kvs.map fun kv => D.p (kP kv.1))[i]? = none := Option.some.inj g
    rw [List.getElem?_eq_none_iff, List.length_map] at g
    exact ⟨hH, by rw [r.length]; exact g⟩
  · have g : (kvs.map fun kv => D.p (kP kv.1))[i]? = some d := Option.some.inj g
    have hi : i < kvs.length := by
      have := (List.getElem?_eq_some_iff.mp g).1
      simpa using this
    refine ⟨Nat.lt_of_lt_of_le hi z, ⟨hH, by rw [r.length]; exact hi⟩, fun x H' y => ?_⟩
    obtain ⟨rfl, k, v, hk, rfl⟩ := y
    obtain ⟨x, hx⟩ := r.get hk
    rw [List.getElem?_map, hx] at g
    cases g
    exact ⟨F, Ext.refl F H' ρ, st, .p (has_kP k)⟩
theorem s_idk {tg : Expr} (ha : PE X a (tE X.K xc W fa)) : PI X tg a (tI X.K xc W fun σ s => (fa σ s).bind fun d s => (match s.dctW d with
    | some kvs => .ok (.fix (kvs.map fun kv => .p (kP kv.1))) s
    | none => .bad)) := by
  refine PI.imp (L2.pi_keys ha) fun σ H R ⟨F, ρ, τ, s, st, sl, h⟩ => ⟨F, ρ, τ, s, st, sl, h.bind.imp fun d s1 F1 H1 ρ1 e1 st1 h1 x hx => ?_⟩
  split at h1
  · rename_i kvs hk
    obtain ⟨q, od, ws, rfl, hF, hkv, z⟩ := dctW_sees st1 hx hk
    exact ⟨q, od, rfl, .inl ⟨ws, st1.sub _ _ hF, h1.now st1 _ (runs_dk hF z hkv)⟩⟩
  · exact h1.elim
/-! the lock -/
def delF (F : Hp) (d : Addr) : Hp := fun a => if a = d then none else F a
theorem delF_ne {F : Hp} {d a : Addr} (h : a ≠ d) : delF F d a = F a := by unfold delF; rw [if_neg h]
theorem delF_same {F : Hp} {d : Addr} : delF F d d = none := by unfold delF; rw [if_pos rfl]
mutual
theorem HasP.delF {F : Hp} {d : Addr} {od : Obj} {u : HO} (h : F d = some (.frz od u)) : ∀ (x : P) (v : V), HasP F v x → HasP (delF F d) v x
  | .non, _, r => by cases r; exact .non
  | .bl b, _, r => by cases r; exact .bl b
  | .int i, _, r => by cases r; exact .int i
  | .str x, _, r => by cases r; exact .str x
  | .tup xs, _, r => by
    cases r with
    | tup e z q => exact .tup (by rw [delF_ne fun z => by rw [z, h] at e; cases e]; exact e) z (HasPs.delF h xs _ q)
  | .lst xs, _, r => by
    cases r with
    | lst e z q => exact .lst (by rw [delF_ne fun z => by rw [z, h] at e; cases e]; exact e) z (HasPs.delF h xs _ q)
theorem HasPs.delF {F : Hp} {d : Addr} {od : Obj} {u : HO} (h : F d = some (.frz od u)) : ∀ (xs : List P) (vs : List V), HasPs F vs xs → HasPs (delF F d) vs xs
  | [], _, r => by cases r; exact .nil
  | x :: xs, _, r => by
    cases r with
    | cons a b => exact .cons (HasP.delF h x _ a) (HasPs.delF h xs _ b)
end
theorem HasKV.delF {F : Hp} {d : Addr} {od : Obj} {u : HO} (h : F d = some (.frz od u)) : ∀ {ws : List (L2.Key × V)} {kvs : List (L2.Key × P)}, HasKV F ws kvs → HasKV (delF F d) ws kvs
  | _, _, .nil => .nil
  | _, _, .cons a b => .cons (HasP.delF h _ _ a) (HasKV.delF h b)
theorem HasFs.delF {F : Hp} {d : Addr} {m : List Addr} {od : Obj} {u : HO} (h : F d = some (.frz od u)) : ∀ {ws : List (Str × V)} {fs : List (Str × Fv)}, HasFs F m ws fs → HasFs (delF F d) m ws fs
  | _, _, .nil => .nil
  | _, _, .cons (x := .p a) q b => .cons (show HasP _ _ _ from HasP.delF h _ _ q) (HasFs.delF h b)
  | _, _, .cons (x := .m n) q b => .cons q (HasFs.delF h b)
theorem HasKs.delF {F : Hp} {d : Addr} {od : Obj} {u : HO} (h : F d = some (.frz od u)) : ∀ {xs : List Ent} {ks : List P}, HasKs F xs ks → HasKs (delF F d) xs ks
  | _, _, .nil => .nil
  | _, _, .cons a b c => .cons (HasP.delF h _ _ a) b (HasKs.delF h c)
theorem IVOk.delF {q : UU} {F H : Hp} {a d : Addr} {kk : NestedKey} {v : V} {od : Obj} {u u' : HO} (h : F d = some (.frz od u)) (hd : q.o d = none) : ∀ {iv : IV}, IVOk q F H a kk v iv → IVOk q (delF F d) (upd H d u') a kk v iv
  | .p _, r => HasP.delF h _ _ r
  | .l _, ⟨b, vs, e, h1, h2, z, r⟩ => ⟨b, vs, e, h1, by rw [upd_ne (fun z => by rw [z, hd] at h1; cases h1)]; exact h2, z, HasPs.delF h _ _ r⟩
  | .d _, ⟨b, ys, e, h1, h2, n, z, r, g⟩ => ⟨b, ys, e, h1, by rw [upd_ne (fun z => by rw [z, hd] at h1; cases h1)]; exact h2, n, z, r.delF h, g⟩
theorem HasG.delF {q : UU} {F H : Hp} {a d : Addr} {od : Obj} {u u' : HO} (h : F d = some (.frz od u)) (hd : q.o d = none) : ∀ {xs : List Ent} {kvs : List (P × IV)}, HasG q F H a xs kvs → HasG q (delF F d) (upd H d u') a xs kvs
  | _, _, .nil => .nil
  | _, _, .cons h1 h2 h3 h4 h5 => .cons (HasP.delF h _ _ h1) h2 h3 (h4.delF h hd) (HasG.delF h hd h5)
theorem OOk.delF {m : List Addr} {C : Addr} {q : UU} {F H : Hp} {a d : Addr} {od : Obj} {u u' : HO} (h : F d = some (.frz od u)) (hd : q.o d = none) (hn : a ≠ d) : ∀ {o : O}, OOk m C q F H a o → OOk m C q (delF F d) (upd H d u') a o
  | .lst _, ⟨z, vs, e, r⟩ => ⟨z, vs, by rw [upd_ne hn]; exact e, HasPs.delF h _ _ r⟩
  | .dct _, ⟨z, vs, e, r⟩ => ⟨z, vs, by rw [upd_ne hn]; exact e, r.delF h⟩
  | .ins _, ⟨dx, vs, e, r⟩ => ⟨dx, vs, by rw [upd_ne hn]; exact e, r.delF h⟩
  | .dctL _, ⟨z, o2, vs, f, e, r⟩ => ⟨z, o2, vs, by rw [delF_ne hn]; exact f, by rw [upd_ne hn]; exact e, r.delF h⟩
  | .dg _, ⟨z, e, n, r⟩ => ⟨z, by rw [upd_ne hn]; exact e, n, r.delF h hd⟩
  | .gone, e => by show upd H d u' a ≠ none; rw [upd_ne hn]; exact e
theorem Stt.noU {F H : Hp} {ρ : Rho} {s : Sto} (st : Stt F H ρ s) {a : Addr} (h : a ∈ ρ.t ++ ρ.m) : ρ.u.o a = none := by
  cases q : ρ.u.o a with
  | none => rfl
  | some x => exact absurd h (st.uo a (by rw [q]; exact fun z => nomatch z)).2.1
theorem l_lock {i : Nat} {fl : Sl → Sto → R (List P)} (hl : PE X a (tL X.K xc W fl)) : PE X a (tL X.K xc W (lockL i fl)) := by
  refine PE.imp (L2.pe_lock hl) fun σ H Q ⟨F, ρ, τ, s, st, sl, h⟩ => ?_
  unfold lockL at h
  split at h
  · rename_i n hn
    split at h
    · rename_i kvs hk
      obtain ⟨v, hv, hd⟩ := sl.at_ i _ hn
      cases hd with | @tmp d _ hr =>
      obtain ⟨z, ws, hH, hkv⟩ := st.ot n _ d hk hr
      have hm : d ∈ ρ.t ++ ρ.m := List.mem_append_left _ (List.mem_of_getElem? hr)
      have hF : F d = none := st.free hm hH (fun _ _ z => nomatch z)
      refine ⟨d, .dK ws, hH, trivial, fun od => ?_⟩
      have sF : Sub F (upd F d (.frz od (.dK ws))) := sub_upd hF
      have ndt := (List.nodup_append.mp st.nd)
      have st2 : Stt (upd F d (.frz od (.dK ws))) (upd H d (.frz od (.dK ws))) ρ (s.setT n (.dctL kvs)) := by
        refine ⟨fun a o e => ?_, by simp [Sto.setT, st.tl], by simp [Sto.setT, st.ml], st.nd, fun a ha => ?_, fun j o a e1 e2 => ?_, fun j o a e1 e2 => ?_, fun b hb => ⟨by rw [upd_ne (fun z => by rw [z, st.noU hm] at hb; exact hb rfl)]; exact (st.uo b hb).1, (st.uo b hb).2.1, st.uNew b hb⟩, st.uwS (fun xs z => by rw [hH] at z; cases z)⟩
        · by_cases ha : a = d
          · subst ha; rw [upd_same] at e ⊢; exact e
          · rw [upd_ne ha] at e ⊢; exact st.sub a o e
        · by_cases ha' : a = d
          · subst ha'; exact .inr ⟨od, _, upd_same⟩
          · rw [upd_ne ha']; exact st.out a ha
        · rcases get_set e1 with ⟨h1, h2⟩ | ⟨h1, h2⟩
          · subst h1; subst h2
            rw [hr] at e2; cases e2
            exact ⟨z, od, ws, upd_same, upd_same, hkv.mono sF⟩
          · exact (st.ot j o a h2 e2).mono sF (st.same (.inr hm) fun z => h1 (nodup_ix ndt.1 e2 (z ▸ hr)))
        · exact (st.om j o a e1 e2).mono sF (st.same (.inr hm) fun z => ndt.2.2 d (List.mem_of_getElem? hr) a (List.mem_of_getElem? e2) z.symm)
      have hasF : ∀ (v : V) (e : D), HasD X.K F ρ v e → HasD X.K (upd F d (.frz od (.dK ws))) ρ v e := fun v e he =>
        HasD.mono (F := F) (H := fun _ => none) (F' := upd F d (.frz od (.dK ws))) (H' := fun _ => none) (ρ := ρ) (ρ' := ρ) ⟨sF, ⟨[], by simp⟩, ⟨[], by simp⟩, fun _ _ z => (nomatch z), fun _ _ => .inr rfl, fun _ _ _ => .inr (.inl rfl), fun _ z => absurd rfl z, rfl, fun _ z => .inl z, fun _ _ _ z => .inl z⟩ e v he
      have sl2 : SlOk X.K (upd F d (.frz od (.dK ws))) ρ σ τ := ⟨sl.c, sl.len, fun j e g => let ⟨w, h1, h2⟩ := sl.at_ j e g; ⟨w, h1, hasF w e h2⟩⟩
      refine ⟨_, ρ, τ, s.setT n (.dctL kvs), st2, sl2, ?_⟩
      cases hf : fl τ (s.setT n (.dctL kvs)) with
      | bad => rw [hf] at h; exact h.elim
      | exc c s2 => rw [hf] at h; exact h.elim
      | ok xs s2 =>
        rw [hf] at h
        simp only at h
        split at h
        · rename_i kvs2 hk2
          intro F3 H3 ρ3 e3 st3 p vs hp zl hr3
          have f3 : F3 d = some (.frz od (.dK ws)) := e3.f _ _ upd_same
          have h3 : H3 d = some (.frz od (.dK ws)) := st3.sub _ _ f3
          have hpd : p ≠ d := fun z => by rw [z, h3] at hp; cases hp
          refine ⟨by rw [upd_ne (Ne.symm hpd)]; exact h3, ?_⟩
          have comm : upd (upd H3 p (.lst vs)) d (.dK ws) = upd (upd H3 d (.dK ws)) p (.lst vs) := by
            funext a
            by_cases h1 : a = d
            · subst h1; rw [upd_same, upd_ne (Ne.symm hpd), upd_same]
            · rw [upd_ne h1]
              by_cases h2 : a = p
              · subst h2; rw [upd_same, upd_same]
              · rw [upd_ne h2, upd_ne h2, upd_ne h1]
          rw [comm]
          obtain ⟨rt, ht⟩ := e3.t
          have hr3' : ρ3.t[n]? = some d := by rw [ht]; exact get_pre hr
          have nd3 := (List.nodup_append.mp st3.nd)
          have e4 : Ext F H ρ (delF F3 d) (upd H3 d (.dK ws)) ρ3 := by
            refine ⟨fun a o e => ?_, e3.t, e3.m, fun a o e hn hq => ?_, fun a ha => ?_, fun a o e => ?_, fun a e => ?_, e3.c, fun a ha => ?_, fun b q kk hb => ?_⟩
            · have ha : a ≠ d := fun z => by rw [z, hF] at e; cases e
              rw [delF_ne ha]; exact e3.f a o (by rw [upd_ne ha]; exact e)
            · have ha : a ≠ d := fun z => hn (by rw [z]; exact hm)
              rw [upd_ne ha]; exact e3.k a o (by rw [upd_ne ha]; exact e) hn hq
            · rcases e3.n a ha with z | z
              · exact .inl z
              · refine .inr ?_
                have ha : a ≠ d := fun y => by rw [y, upd_same] at z; cases z
                rw [upd_ne ha] at z; exact z
            · have ha : a ≠ d := fun z => by rw [z, delF_same] at e; cases e
              rw [delF_ne ha] at e
              rcases e3.g a o e with z | z | z
              · rw [upd_ne ha] at z; exact .inl z
              · rw [upd_ne ha] at z; exact .inr (.inl z)
              · exact .inr (.inr z)
            · by_cases ha : a = d
              · subst ha; rw [upd_same]; exact fun z => nomatch z
              · rw [upd_ne ha]; exact e3.w a (by rw [upd_ne ha]; exact e)
            · rcases e3.nu a ha with z | z
              · exact .inl z
              · refine .inr ?_
                have ha : a ≠ d := fun y => by rw [y, upd_same] at z; cases z
                rw [upd_ne ha] at z; exact z
            · rcases e3.um b q kk hb with z | z
              · exact .inl z
              · refine .inr ?_
                have hqd : q ≠ d := fun y => by
                  obtain ⟨g1, _⟩ := st.uw b q kk hb
                  rw [y, hH] at g1; cases g1
                rw [delF_ne hqd]; exact z
          have hm3 : d ∈ ρ3.t ++ ρ3.m := List.mem_append_left _ (List.mem_of_getElem? hr3')
          have st4 : Stt (delF F3 d) (upd H3 d (.dK ws)) ρ3 (s2.setT n (.dct kvs)) := by
            refine ⟨fun a o e => ?_, by simp [Sto.setT, st3.tl], by simp [Sto.setT, st3.ml], st3.nd, fun a ha => ?_, fun j o a e1 e2 => ?_, fun j o a e1 e2 => ?_, fun b hb => ⟨by rw [delF_ne (fun z => by rw [z, st3.noU hm3] at hb; exact hb rfl)]; exact (st3.uo b hb).1, (st3.uo b hb).2.1, st3.uNew b hb⟩, st3.uwS (fun xs z => by rw [h3] at z; cases z)⟩
            · have ha : a ≠ d := fun z => by rw [z, delF_same] at e; cases e
              rw [delF_ne ha] at e
              rw [upd_ne ha]; exact st3.sub a o e
            · by_cases ha' : a = d
              · subst ha'; exact .inl delF_same
              · rw [delF_ne ha']; exact st3.out a ha
            · rcases get_set e1 with ⟨h1, h2⟩ | ⟨h1, h2⟩
              · subst h1; subst h2
                rw [hr3'] at e2; cases e2
                exact ⟨z, ws, upd_same, (hkv.mono e4.f)⟩
              · exact (st3.ot j o a h2 e2).delF f3 (st3.noU hm3) (fun z => h1 (nodup_ix nd3.1 e2 (by rw [z]; exact hr3')))
            · exact (st3.om j o a e1 e2).delF f3 (st3.noU hm3) (fun z => nd3.2.2 d (List.mem_of_getElem? hr3') a (List.mem_of_getElem? e2) z.symm)
          exact h _ _ _ e4 st4 p vs (by rw [upd_ne hpd]; exact hp) zl (HasPs.delF f3 _ _ hr3)
        · exact h.elim
    · exact h.elim
  · exact h.elim
/-! ### a table of functions -/
def tFns (as : List V) : L2.TA := fun _ H Q => Q as H
theorem pa_fns (hX : XE T G k c W X) {n : Nat} : ∀ (fs : List Nat) (ns : List Expr), ckFns T c n fs ns = true → ∃ as : List V, PA X ns (tFns as) ∧ as.length = ns.length ∧
    ∀ (i : Nat) (f : Nat), fs[i]? = some f → ∃ (x : Str) (fe : FE), T.fns[f]? = some fe ∧ fe.at_ = (x, none) ∧ fe.ps.length = n ∧ as[i]? = some (.ref (He.fAd X.K fe.at_))
  | [], [], _ => ⟨[], L2.pa_nil, rfl, fun i f h => by simp at h⟩
  | f :: fs, e :: ns, h => by
    unfold ckFns at h
    split at h
    all_goals first | (cases h; done) | (rename_i hz _; cases hz; done) | skip
    rename_i f2 fs2 x p ns2 hz hy
    cases hz; cases hy
    obtain ⟨h1, h2⟩ := ba h
    obtain ⟨h2, h3⟩ := ba h2
    obtain ⟨h3, h4⟩ := ba h3
    obtain ⟨as, ha, hl, hr⟩ := pa_fns hX fs ns h4
    unfold Tabs.fnAt at h1
    split at h1
    · rename_i fe hfe
      obtain ⟨h1, hn⟩ := ba h1
      have e := of_decide_eq_true h1
      have hn := of_decide_eq_true hn
      obtain ⟨fd, F, hb, hm, hk⟩ := hX.fns f fe hfe (by rw [e])
      rw [show fe.at_.1 = x by rw [e]] at hm
      refine ⟨.ref (He.fAd X.K fe.at_) :: as, L2.pa_cons (L2.pe_glob (v := V.ref (He.fAd X.K fe.at_)) (hX.gl h2) hm rfl (okn1 h3).1) ha, by simp [hl], fun i f' hf => ?_⟩
      cases i with
      | zero => simp at hf; subst hf; exact ⟨x, fe, hfe, e, hn, rfl⟩
      | succ i => simpa using hr i f' (by simpa using hf)
    · cases h1
  | [], _ :: _, h => by simp [ckFns] at h
  | _ :: _, [], h => by simp [ckFns] at h
theorem ckFns_len {n : Nat} : ∀ {fs : List Nat} {ns : List Expr}, ckFns T c n fs ns = true → ns.length = fs.length
  | [], [], _ => rfl
  | f :: fs, e :: ns, h => by
    unfold ckFns at h
    split at h
    all_goals first | (cases h; done) | (rename_i hz _; cases hz; done) | skip
    rename_i f2 fs2 x p ns2 hz hy
    cases hz; cases hy
    obtain ⟨h1, h2⟩ := ba h
    obtain ⟨h2, h3⟩ := ba h2
    obtain ⟨h3, h4⟩ := ba h3
    simp [ckFns_len h4]
  | [], _ :: _, h => by simp [ckFns] at h
  | _ :: _, [], h => by simp [ckFns] at h
theorem atI_get {α β : Type} {xs : List α} {ys : List β} (hl : ys.length = xs.length) {j : Int} {a : α} (h : L2.atI xs j = some a) : ∃ i : Nat, xs[i]? = some a ∧ L2.atI ys j = ys[i]? := by
  unfold L2.atI at h ⊢
  rw [hl]
  cases e : L2.ixN xs.length j with
  | none => rw [e] at h; cases h
  | some i => rw [e] at h; exact ⟨i, h, rfl⟩
theorem s_ftab (hX : XE T G k c W X) {fs : List Nat} {ns : List Expr} {es : Es} {p1 p2 : Pos} (h1 : ckFns T c (a :: as).length fs ns = true) (hz : ns.length ≤ 1000) (hb : PE X b (tE X.K (xcOf T X.K) W fb)) (hp : L2.PlainIx b) (hck : ckEs T c es (a :: as) = true) (hs : PA X (a :: as) (tA X.K (xcOf T X.K) W (evs G es))) :
    PE X (.Call (.Subscript (.List ns p1) b p2) (a :: as) [] pos) (tE X.K (xcOf T X.K) W fun σ s => (fb σ s).bind fun d s => (tabF fs d s).bind fun f s => (evs G es σ s).bind fun ds s => G f ds s) := by
  have h1' := h1
  obtain ⟨vs, hv, hl, hr⟩ := pa_fns hX fs ns h1
  have hf : PE X (.Subscript (.List ns p1) b p2) _ := L2.pe_ix L2.ix_list (L2.pe_lst hv) hb hp
  have hpl := ckEs_plain hck
  rw [List.all_cons] at hpl
  obtain ⟨hp1, hp2⟩ := ba hpl
  refine ⟨fun pins s σ H Q I h => ?_⟩
  obtain ⟨F, ρ, τ, st0, st, sl, h⟩ := h
  refine PyProof.Rows.Call_ (thn (hf.run pins s σ H (fun v H1 => ∃ (f : Nat) (fe : FE) (x : Str), T.fns[f]? = some fe ∧ fe.at_ = (x, none) ∧ fe.ps.length = (a :: as).length ∧ v = .ref (He.fAd X.K fe.at_) ∧ ∃ F ρ s, Stt F H1 ρ s ∧ SlOk X.K F ρ σ τ ∧ RP (xcOf T X.K) W σ F H1 ρ ((evs G es τ s).bind fun ds s => G f ds s) (CV X.K Q)) I ?_) fun u s1 ⟨v, H1, I1, r1, q1⟩ => ?_)
  · refine ⟨by rw [hl]; exact Nat.le_trans hz (by decide), fun p hp => ?_⟩
    refine ⟨_, ρ, τ, st0, st.new hp, sl.mono (st.xnew hp), (h.mono (st.xnew hp)).bind.imp fun d s1 F1 H1 ρ1 e1 st1 h1 x hx => ?_⟩
    cases d with
    | p q =>
      cases q with
      | int j =>
        cases hx.int
        obtain ⟨f, e2, h2⟩ := h1.bind.of
        have h3 := h2.now st1
        obtain ⟨i, g1, g2⟩ := atI_get (ys := vs) (by rw [hl]; exact ckFns_len h1') e2
        obtain ⟨x, fe, b1, b2, b3, b4⟩ := hr i f g1
        exact ⟨p, vs, j, _, rfl, rfl, SqL.of (st1.sub _ _ (e1.f _ _ upd_same)), by rw [g2, b4], f, fe, x, b1, b2, b3, rfl, F1, ρ1, s1, st1, (sl.mono (st.xnew hp)).mono e1, h3⟩
      | _ => exact h1.elim
    | _ => exact h1.elim
  · obtain ⟨f, fe, x, hfe, e, hn, rfl, F1, ρ1, s2, st1, sl1, h1⟩ := q1
    cases r1
    obtain ⟨fd, FF, hb, hm, hk⟩ := hX.fns f fe hfe (by rw [e])
    refine PySem.W.callWith_K (h₀ := X.base) I1.ok.mod.kin hk (thn (hs.run pos pins s1 σ H1 _ I1 ⟨F1, ρ1, τ, s2, st1, sl1, h1.bind.impE fun ds s3 F2 H2 ρ2 g e2 st2 h2 xs hxs => ?_⟩) fun us s3 ⟨ws, H2, I2, r, q⟩ => ⟨I2.kIn, L2.run_fnS FF hX.room hb (L2N.passAt hX.tk σ) I2 r q⟩) (star1 hp1) (star_all hp2)
    exact ⟨by rw [hxs.length, evs_len hck g, hn], F2, ρ2, s3, ds, (e2.c.trans sl1.c), st2, hxs, h2⟩
theorem s_b1k (hX : XE T G k c W X) {f : B1} {i : Nat} {fl : Sl → Sto → R (List P)} {x : Str} {p : Pos} (hx : x = b1N f) (hf : T.free c x = true) (hl : PE X a (tL X.K xc W fl)) (hp : plainE a = true) :
    PE X (.Call (.Name x p) [a] [] pos) (tE X.K xc W fun σ s => (lockL i fl σ s).bind fun xs s => b1D f (.p (.lst xs)) s) := by
  have h := s_b1 (pos := pos) (p := p) hX hx hf (s_fz (l_lock (i := i) hl)) hp
  have e : (fun (σ : Sl) (s : Sto) => ((lockL i fl σ s).bind fun xs s => R.ok (D.p (.lst xs)) s).bind fun d s => b1D f d s) = fun σ s => (lockL i fl σ s).bind fun xs s => b1D f (.p (.lst xs)) s := by
    funext σ s
    cases lockL i fl σ s <;> rfl
  rw [e] at h
  exact h
end
end G7

namespace G7
open PySem PySem.Spec
open L2 (V Hp HO St WX TE TS R2 OpR CallR MtR MtM SlR IxR Inv RelV Vals ObjOk Mut upd upd_same upd_ne ne_of_none SqL SqT Cx Room EP VK PE PT PA PI PG PGs PO PS PSs Sp XK It TI TG TGs FnOk thn)
variable [WW]
/-! ### entries that change -/
def stR (k : NestedKey) (b : Addr) (v : Value) : List Ent → List Ent
  | [] => [(k, b, v)]
  | x :: xs => if x.1 = k then (x.1, x.2.1, v) :: xs else x :: stR k b v xs
theorem putAt_id {k : NestedKey} {v : Value} : ∀ {xs : List Ent}, k ∉ xs.map (·.1) → xs.map (putAt k v) = xs
  | [], _ => rfl
  | x :: xs, h => by
    simp only [List.map_cons, List.mem_cons, not_or] at h
    rw [List.map_cons, putAt_id h.2]
    have : putAt k v x = x := by unfold putAt; rw [if_neg (Ne.symm h.1)]
    rw [this]
theorem stored_stR {k : NestedKey} {b : Addr} {v : Value} : ∀ {xs : List Ent}, (xs.map (·.1)).Nodup → storedH xs k b v = stR k b v xs
  | [], _ => rfl
  | x :: xs, h => by
    simp only [List.map_cons, List.nodup_cons] at h
    have ih := stored_stR (k := k) (b := b) (v := v) h.2
    unfold storedH stR
    rw [atKey_cons]
    by_cases e : x.1 = k
    · subst e
      simp only [if_true, Option.isSome_some, List.map_cons]
      rw [putAt_id h.1]
      simp [putAt]
    · simp only [if_neg e]
      unfold storedH at ih
      split
      · rename_i q
        rw [if_pos q] at ih
        rw [← ih, List.map_cons]
        simp [putAt, e]
      · rename_i q
        rw [if_neg q] at ih
        rw [← ih, List.cons_append]
theorem stR_keys {k : NestedKey} {b : Addr} {v : Value} : ∀ {xs : List Ent} {z : NestedKey}, z ∈ (stR k b v xs).map (·.1) → z ∈ xs.map (·.1) ∨ z = k
  | [], z, h => .inr (by simpa [stR] using h)
  | x :: xs, z, h => by
    unfold stR at h
    split at h
    · exact .inl (by simpa using h)
    · simp only [List.map_cons, List.mem_cons] at h ⊢
      rcases h with h | h
      · exact .inl (.inl h)
      · rcases stR_keys h with h | h
        · exact .inl (.inr h)
        · exact .inr h
theorem stR_nd {k : NestedKey} {b : Addr} {v : Value} : ∀ {xs : List Ent}, (xs.map (·.1)).Nodup → ((stR k b v xs).map (·.1)).Nodup
  | [], _ => by simp [stR]
  | x :: xs, h => by
    simp only [List.map_cons, List.nodup_cons] at h
    unfold stR
    split
    · simpa using h
    · rename_i e
      simp only [List.map_cons, List.nodup_cons]
      refine ⟨fun z => ?_, stR_nd h.2⟩
      rcases stR_keys z with z | z
      · exact h.1 z
      · exact e z
theorem putK_len {α : Type} (k : P) (v : α) : ∀ kvs : List (P × α), (putK k v kvs).length ≤ kvs.length + 1
  | [] => by simp [putK]
  | (j, w) :: r => by
    unfold putK
    split
    · simp
    · have := putK_len k v r
      simp only [List.length_cons]; omega
section
variable {u u' : UU} {F F' H H' : Hp} {a : Addr} {k : P}
theorem HasG.rest (hu : ∀ k' y iv, k' ≠ k.nk → IVOk u F H a k' y iv → IVOk u' F' H' a k' y iv) (sub : Sub F F') {xs : List Ent} {kvs : List (P × IV)} (hn : k.nk ∉ xs.map (·.1)) (h : HasG u F H a xs kvs) : HasG u' F' H' a xs kvs := by
  induction h with
  | nil => exact .nil
  | cons h1 h2 h3 h4 h5 ih =>
    simp only [List.map_cons, List.mem_cons, not_or] at hn
    exact .cons (HasP.mono sub _ _ h1) h2 h3 (hu _ _ _ (fun e => hn.1 e.symm) h4) (ih hn.2)
theorem HasG.put (hk : k.key = true) (hu : ∀ k' y iv, k' ≠ k.nk → IVOk u F H a k' y iv → IVOk u' F' H' a k' y iv) (sub : Sub F F') {b : Addr} {v : Value} {y : V} {iv : IV} (hb : HasP F' (.ref b) k) (hv : RelV y v) (new : IVOk u' F' H' a k.nk y iv)
    {xs : List Ent} {kvs : List (P × IV)} (nd : (xs.map (·.1)).Nodup) (h : HasG u F H a xs kvs) : HasG u' F' H' a (stR k.nk b v xs) (putK k iv kvs) := by
  induction h with
  | nil => exact .cons hb hk hv new .nil
  | @cons b' v' y' xs' x iv' kvs' h1 h2 h3 h4 h5 ih =>
    simp only [List.map_cons, List.nodup_cons] at nd
    have e := key_eqv h2 hk
    unfold stR putK
    by_cases h : x.nk = k.nk
    · rw [if_pos h, if_pos (by rw [e]; exact decide_eq_true h)]
      exact .cons (HasP.mono sub _ _ h1) h2 hv (by rw [h]; exact new) (HasG.rest hu sub (by rw [← h]; exact nd.1) h5)
    · rw [if_neg h, if_neg (by rw [e, decide_eq_false h]; exact Bool.false_ne_true)]
      exact .cons (HasP.mono sub _ _ h1) h2 h3 (hu _ _ _ h h4) (ih nd.2)
theorem HasG.mod (hk : k.key = true) (hu : ∀ k' y iv, k' ≠ k.nk → IVOk u F H a k' y iv → IVOk u' F' H' a k' y iv) (sub : Sub F F') {old iv : IV} (new : ∀ y, IVOk u F H a k.nk y old → IVOk u' F' H' a k.nk y iv)
    {xs : List Ent} {kvs : List (P × IV)} (hf : findK k kvs = some old) (nd : (xs.map (·.1)).Nodup) (h : HasG u F H a xs kvs) : HasG u' F' H' a xs (putK k iv kvs) := by
  induction h with
  | nil => simp [findK] at hf
  | @cons b' v' y' xs' x iw kvs' h1 h2 h3 h4 h5 ih =>
    simp only [List.map_cons, List.nodup_cons] at nd
    have e := key_eqv h2 hk
    unfold putK
    by_cases h : x.nk = k.nk
    · have e' : x.eqv k = true := by rw [e]; exact decide_eq_true h
      rw [if_pos e']
      have : iw = old := by simpa [findK, e'] using hf
      subst this
      exact .cons (HasP.mono sub _ _ h1) h2 h3 (by rw [h] at h4 ⊢; exact new _ h4) (HasG.rest hu sub (by rw [← h]; exact nd.1) h5)
    · have e' : x.eqv k = false := by rw [e]; exact decide_eq_false h
      rw [if_neg (by rw [e']; exact Bool.false_ne_true)]
      exact .cons (HasP.mono sub _ _ h1) h2 h3 (hu _ _ _ h h4) (ih (by simpa [findK, e'] using hf) nd.2)
end
theorem atKey_stR {k j : NestedKey} {b : Addr} {v : Value} : ∀ {xs : List Ent}, j ≠ k → atKey (stR k b v xs) j = atKey xs j
  | [], h => by
    unfold stR
    rw [atKey_cons, if_neg (Ne.symm h)]
  | x :: xs, h => by
    unfold stR
    split
    · rename_i e
      rw [atKey_cons, atKey_cons]
      have : ¬ x.1 = j := fun z => h (z.symm.trans e)
      rw [if_neg this, if_neg this]
    · rw [atKey_cons, atKey_cons, atKey_stR h]
theorem atKey_stR_same {k : NestedKey} {b : Addr} {v : Value} : ∀ {xs : List Ent}, ∃ c, atKey (stR k b v xs) k = some (c, v)
  | [] => ⟨b, by unfold stR; rw [atKey_cons, if_pos rfl]⟩
  | x :: xs => by
    unfold stR
    split
    · rename_i e
      exact ⟨x.2.1, by rw [atKey_cons, if_pos e]⟩
    · rename_i e
      rw [atKey_cons, if_neg e]
      exact atKey_stR_same
theorem noFrz {a : Addr} {xs : List Ent} : ∀ od u, gO a xs ≠ HO.frz od u := fun _ _ z => nomatch z
/-- other entries of a dict -/
def UU.set (u : UU) (q : Addr) (xs : List Ent) : UU := ⟨u.o, fun a => if a = q then xs else u.e a⟩
theorem UU.set_same {u : UU} {q : Addr} {xs : List Ent} : (u.set q xs).e q = xs := if_pos rfl
theorem UU.set_ne {u : UU} {q a : Addr} {xs : List Ent} (h : a ≠ q) : (u.set q xs).e a = u.e a := if_neg h
theorem OOk.monoE {m : List Addr} {C : Addr} {u u' : UU} {F H H' : Hp} {a : Addr} {o : O} (h : OOk m C u F H a o) (hu : ∀ b k, u.o b = some (a, k) → u'.o b = some (a, k)) (he : u'.e a = u.e a) (sa : SameAt u H H' a) : OOk m C u' F H' a o := OOk.mono2 ⟨[], (List.append_nil m).symm⟩ ⟨hu, he⟩ (Sub.refl F) sa h
/-- a dict of the frame gets other entries -/
theorem Stt.setE {F H : Hp} {ρ : Rho} {s : Sto} (st : Stt F H ρ s) {n : Nat} {q : Addr} {xs : List Ent} {ob : O} (hq : ρ.t[n]? = some q) (hF : F q = none)
    (hw : ∀ b k, ρ.u.o b = some (q, k) → ∃ c, atKey xs k = some (c, Value.ref b)) (ok : OOk ρ.m ρ.C (ρ.u.set q xs) F (upd H q (gO q xs)) q ob) : Stt F (upd H q (gO q xs)) ⟨ρ.t, ρ.m, ρ.C, ρ.u.set q xs⟩ (s.setT n ob) := by
  have hm : q ∈ ρ.t ++ ρ.m := List.mem_append_left _ (List.mem_of_getElem? hq)
  have ndt := List.nodup_append.mp st.nd
  refine ⟨st.sub.updR hF, by simp [Sto.setT, st.tl], by simp [Sto.setT, st.ml], st.nd, st.out, fun i o a e1 e2 => ?_, fun i o a e1 e2 => ?_, fun b hb => ⟨(st.uo b hb).1, (st.uo b hb).2.1, st.uNew b hb⟩, fun b q' k hb => ?_⟩
  · rcases get_set e1 with ⟨h1, h2⟩ | ⟨h1, h2⟩
    · subst h1; subst h2
      rw [show ρ.t[i]? = some a from e2] at hq; cases hq
      exact ok
    · have ne : a ≠ q := fun z => h1 (nodup_ix ndt.1 e2 (z ▸ hq))
      exact OOk.monoE (u := ρ.u) (u' := ρ.u.set q xs) (st.ot i o a h2 e2) (fun _ _ z => z) (UU.set_ne ne) (st.same (.inr hm) ne)
  · have ne : a ≠ q := fun z => ndt.2.2 q (List.mem_of_getElem? hq) a (List.mem_of_getElem? e2) z.symm
    exact OOk.monoE (u := ρ.u) (u' := ρ.u.set q xs) (st.om i o a e1 e2) (fun _ _ z => z) (UU.set_ne ne) (st.same (.inr hm) ne)
  · by_cases e : q' = q
    · subst e
      obtain ⟨c, h⟩ := hw b k hb
      exact ⟨by rw [upd_same, UU.set_same], c, by rw [UU.set_same]; exact h⟩
    · obtain ⟨h1, h2⟩ := st.uw b q' k hb
      exact ⟨by rw [upd_ne e, UU.set_ne e]; exact h1, by rw [UU.set_ne e]; exact h2⟩
theorem Stt.xsetE {F H : Hp} {ρ : Rho} {q : Addr} {o : HO} {xs : List Ent} (hq : q ∈ ρ.t ++ ρ.m) : Ext F H ρ F (upd H q o) ⟨ρ.t, ρ.m, ρ.C, ρ.u.set q xs⟩ :=
  ⟨Sub.refl F, ⟨[], by simp⟩, ⟨[], by simp⟩, fun a o' h hn _ => by rw [upd_ne (show a ≠ q from fun z => hn (by rw [z]; exact hq))]; exact h, fun a h => .inl h, fun a o' h => .inl h, fun a h => upd_keeps a h, rfl, fun _ h => .inl h, fun _ _ _ h => .inl h⟩
/-- data are put under a key where no list or dict stands -/
theorem Stt.gput {F H : Hp} {ρ : Rho} {s : Sto} (st : Stt F H ρ s) {n : Nat} {q : Addr} {kvs : List (P × IV)} {k x : P} {kb : Addr} {y : V} {v : Value} (hq : ρ.t[n]? = some q) (hH : H q = some (gO q (ρ.u.e q))) (nd : ((ρ.u.e q).map (·.1)).Nodup) (hg : HasG ρ.u F H q (ρ.u.e q) kvs)
    (hno : ∀ iv, findK k kvs = some iv → ∃ w, iv = .p w) (hk : k.key = true) (hkb : HasP F (.ref kb) k) (rv : RelV y v) (hx : HasP F y x) (hl : kvs.length < sizeLine) :
    Stt F (upd H q (gO q (storedH (ρ.u.e q) k.nk kb v))) ⟨ρ.t, ρ.m, ρ.C, ρ.u.set q (storedH (ρ.u.e q) k.nk kb v)⟩ (s.setT n (.dg (putK k (.p x) kvs))) := by
  have hm : q ∈ ρ.t ++ ρ.m := List.mem_append_left _ (List.mem_of_getElem? hq)
  refine st.setE hq (st.free hm hH noFrz) (fun b kk hb => ?_) ⟨Nat.le_trans (putK_len _ _ _) hl, by rw [upd_same, UU.set_same], ?_, ?_⟩
  · obtain ⟨_, c, h2⟩ := st.uw b q kk hb
    by_cases e : kk = k.nk
    · subst e
      exfalso
      rcases hg.find hk with ⟨_, g2⟩ | ⟨iv, b', v', y', g1, g2, g3, g4⟩
      · rw [g2] at h2; cases h2
      · obtain ⟨w, rfl⟩ := hno iv g1
        rw [g2] at h2
        have e1 := (Prod.mk.inj (Option.some.inj h2)).2
        subst e1
        have fb := (st.uo b (by rw [hb]; exact fun z => nomatch z)).1
        have g4 : HasP F y' w := g4
        cases g4 with
        | tup h _ _ =>
          cases (show Value.ref b = Value.ref _ from g3)
          rw [fb] at h; cases h
        | lst h _ _ =>
          cases (show Value.ref b = Value.ref _ from g3)
          rw [fb] at h; cases h
        | non => cases (show Value.ref b = Value.none from g3)
        | bl _ => cases (show Value.ref b = Value.bool _ from g3)
        | int _ => obtain ⟨_, z⟩ := (show ∃ t, Value.ref b = Value.int _ t from g3); cases z
        | str _ => obtain ⟨_, z⟩ := (show ∃ t, Value.ref b = Value.str _ t from g3); cases z
    · exact ⟨c, by rw [stored_stR nd, atKey_stR e]; exact h2⟩
  · rw [UU.set_same, stored_stR nd]; exact stR_nd nd
  · rw [UU.set_same, stored_stR nd]
    refine HasG.put (u := ρ.u) (u' := ρ.u.set q (stR k.nk kb v (ρ.u.e q))) (F := F) (H := H) hk (fun k' y iv _ h => h.mono (Sub.refl F) (fun _ _ z => z) fun b e => ?_) (Sub.refl F) hkb rv (iv := .p x) hx nd hg
    exact upd_ne fun z => by
      have := st.noU hm
      rw [← z, e] at this; cases this
section
variable {T : Tabs} {G : Fns} {k : Nat} {c : Ct} {W : WX} {X : Cx} {xc : Nat → Value} {a b d : Expr} {as : List Expr} {fa fb fc : Sl → Sto → R D} {pos : Pos}
/-! ### {} -/
theorem Stt.gnew {F H : Hp} {ρ : Rho} {s : Sto} (st : Stt F H ρ s) {p : Addr} (hp : H p = none) : Stt F (upd H p (gO p [])) ⟨ρ.t ++ [p], ρ.m, ρ.C, ρ.u.set p []⟩ (s.pushT (.dg [])) := by
  have ne : ∀ a ∈ ρ.t ++ ρ.m, a ≠ p := fun a ha z => st.inH ha (by rw [z]; exact hp)
  have st1 : Stt F H ⟨ρ.t, ρ.m, ρ.C, ρ.u.set p []⟩ s := by
    refine ⟨st.sub, st.tl, st.ml, st.nd, st.out, fun i o a e1 e2 => ?_, fun i o a e1 e2 => ?_, st.uo, fun b q k hb => ?_⟩
    · exact OOk.monoE (u := ρ.u) (u' := ρ.u.set p []) (st.ot i o a e1 e2) (fun _ _ z => z) (UU.set_ne (ne a (List.mem_append_left _ (List.mem_of_getElem? e2)))) SameAt.refl
    · exact OOk.monoE (u := ρ.u) (u' := ρ.u.set p []) (st.om i o a e1 e2) (fun _ _ z => z) (UU.set_ne (ne a (List.mem_append_right _ (List.mem_of_getElem? e2)))) SameAt.refl
    · obtain ⟨h1, h2⟩ := st.uw b q k hb
      have nq : q ≠ p := fun z => by rw [z, hp] at h1; cases h1
      exact ⟨by rw [UU.set_ne nq]; exact h1, by rw [UU.set_ne nq]; exact h2⟩
  exact st1.pushO hp ⟨by simp, by rw [upd_same, UU.set_same], by rw [UU.set_same]; simp, by rw [UU.set_same]; exact .nil⟩
theorem Stt.xgnew {F H : Hp} {ρ : Rho} {s : Sto} (st : Stt F H ρ s) {p : Addr} {o : HO} (hp : H p = none) : Ext F H ρ F (upd H p o) ⟨ρ.t ++ [p], ρ.m, ρ.C, ρ.u.set p []⟩ := by
  have e := st.xpush (o := o) hp
  exact ⟨e.f, e.t, e.m, e.k, e.n, e.g, e.w, e.c, e.nu, e.um⟩
theorem pe_gnew (hw : WW.w = X.w) : PE X (.Dict [] [] pos) (fun _ H Q => ∀ p, H p = none → Q (.ref p) (upd H p (gO p []))) := ⟨fun pins s σ H Q I h =>
  wpAny_Dict_empty ⟨.ref s.heap.objs.size, _, I.laid (a := s.heap.objs.size) (o := gO s.heap.objs.size []) (t' := s.toks) (fun _ _ q => Heap.get?_push_of_some _ q) (Nat.le_refl _)
    (gO_new hw (beq_eq_false_iff_ne.mpr (Ne.symm (Nat.ne_of_lt I.big))) (Heap.DictOfH.new s.heap)), rfl, h _ (I.hok.fresh (Nat.le_refl _))⟩⟩
theorem s_gnew (hw : WW.w = X.w) : PE X (.Dict [] [] pos) (tE X.K xc W fun _ s => .ok (.tmp s.t.length) (s.pushT (.dg []))) := by
  refine PE.imp (pe_gnew hw) fun σ H Q ⟨F, ρ, τ, s, st, sl, h⟩ p hp => ?_
  exact h _ _ _ (st.xgnew hp) (st.gnew hp) _ (.tmp (by rw [← st.tl]; simp))
/-! ### a[::-1] -/
theorem HasPs.rev {F : Hp} : ∀ {vs : List V} {xs : List P}, HasPs F vs xs → HasPs F vs.reverse xs.reverse
  | _, _, .nil => .nil
  | _, _, .cons h t => by
    rw [List.reverse_cons, List.reverse_cons]
    exact (HasPs.rev t).append (.cons h .nil)
theorem l_rev {kk : Nat} {p1 p2 p3 : Pos} (ha : PE X a (tE X.K xc W fa)) : PE X (.Subscript a (.Slice none none (some (.UnaryOp .USub (.Constant (.int 1) kk p1) p2)) p3) pos) (tL X.K xc W fun σ s => (fa σ s).bind fun d s => revD d s) := by
  refine PE.imp (L2.pe_revL ha) fun σ H Q ⟨F, ρ, τ, s, st, sl, h⟩ => ⟨F, ρ, τ, s, st, sl, h.bind.imp fun d s1 F1 H1 ρ1 e1 st1 h1 x hx => ?_⟩
  unfold revD at h1
  split at h1
  · rename_i xs hs
    obtain ⟨q, vs, rfl, h2, r, z⟩ := (get_sees st1 hx hs).lst st1.sub
    exact ⟨q, vs, rfl, SqL.of h2, fun p hp => h1.now st1 p _ hp (by rw [List.length_reverse]; exact z) r.rev⟩
  · exact h1.elim
/-! ### methods of dicts -/
def tyD (x : V) (H : Hp) : Prop := (∃ q xs, x = .ref q ∧ GD H q xs) ∨ ∃ q kvs, x = .ref q ∧ L2.Rd H q (.dK kvs)
theorem tyD_is (hw : WW.w = X.w) {pins : List (Addr × Obj)} {σ : St} {H : Hp} {s : Shared} {x : V} {v : Value} (I : Inv X pins σ H s) (r : RelV x v) (h : tyD x H) : s.TypeIs v "dict" ∧ ∀ a, v = .ref a → ∃ ob, s.heap.get? a = some ob ∧ ob.dict = none := by
  rcases h with ⟨q, xs, rfl, g⟩ | ⟨q, kvs, rfl, e⟩
  · cases r
    obtain ⟨_, dd⟩ := g.dict hw I
    refine ⟨dd.typeIs, fun a e => ?_⟩
    cases e
    obtain ⟨o, _, _, ho, hx, _⟩ := dd
    exact ⟨o, ho, hx.2.1⟩
  · cases r
    obtain ⟨_, _, vs, _, dd⟩ := L2.dk_rd I.hok e
    refine ⟨dd.typeIs, fun a e => ?_⟩
    cases e
    obtain ⟨o, _, _, ho, hx, _⟩ := dd
    exact ⟨o, ho, hx.2.1⟩
theorem few {es : List Expr} {cpos : Pos} {env : Env} (h : es.all plainE = true) (hl : es.length < 20) : ((backTo cpos (starEach es env)).all (fun x => !x.1) && (backToKw cpos (keywordEach [] env)).all (fun x => x.1.isSome)
      && decide (es.length + ([] : List Keyword).length + (if ([] : List Keyword).isEmpty then 0 else 1) < 30)) = true := by
  have h1 := star_all (pos := cpos) (env := env) h
  rw [List.any_eq_false] at h1
  have h2 : (backTo cpos (starEach es env)).all (fun x => !x.1) = true := List.all_eq_true.mpr fun x hx => by
    have := h1 x hx
    simpa using this
  rw [h2]
  simp [keywordEach, backToKw]
  omega
theorem pe_bmD {e : Expr} {es : List Expr} {to : TE} {t : L2.TA} {name : Str} {apos : Pos} {id : String} {r : V → List V → Hp → VK → Prop} (hw : WW.w = X.w) (slot : Slot "dict" name id) (hty : typeOf (.builtin id) = pure (.type "method_descriptor")) (hm : MtR X id r) (ho : PE X a to) (ha : PA X (e :: es) t)
    (hp : plainE a = true) (hpa : (e :: es).all plainE = true) (hl : (e :: es).length < 20) (hline : (apos.endLine == pos.line) = true) :
    PE X (.Call (.Attribute a name apos) (e :: es) [] pos) (fun σ H Q => to σ H fun x H1 => tyD x H1 ∧ t σ H1 fun xs H2 => r x xs H2 Q) := by
  have hpa' := hpa
  rw [List.all_cons] at hpa'
  obtain ⟨hp1, hp2⟩ := ba hpa'
  refine ⟨fun pins s σ H Q I h => ?_⟩
  refine wpAny_Call_method_late (base1 hp) (few hpa hl) hline rfl (thn (ho.run pins s σ H _ I h) fun v s1 ⟨x, H1, I1, r1, ty, q1⟩ => ?_)
  obtain ⟨h1, h2⟩ := tyD_is hw I1 r1 ty
  refine ⟨"dict", id, PySem.F.plainAttrs_dict, slot, hty, h1, h2, ?_⟩
  have hA := ha.run pos pins s1 σ H1 _ I1 q1
  rw [star1 hp1] at hA ⊢
  refine Calls.callWith_builtin (by show (false || (backTo pos (starEach es X.env)).any (·.1)) = false; rw [star_all hp2]; rfl) (Calls.evalArgs_plain ?_)
  exact thn hA fun us s2 ⟨vs, H2, I2, r2, q2⟩ => hm pins s2 σ H2 x vs v us Q I2 r1 r2 q2
theorem dct_ty {K : PySem.W.Frag} {F H : Hp} {ρ : Rho} {s : Sto} {v : V} {d : D} (st : Stt F H ρ s) (hd : HasD K F ρ v d) (h : isDct s d = true) : tyD v H := by
  unfold isDct at h
  split at h
  · obtain ⟨q, od, xs, ws, rfl, hF, g, _⟩ := fd_sees st hd
    exact .inl ⟨q, xs, rfl, g⟩
  · rcases Bool.or_eq_true_iff.mp h with h | h
    · cases e : s.dg d with
      | none => rw [e] at h; cases h
      | some kvs =>
        obtain ⟨n, q, xs, rfl, rfl, _, _, hH, g, _⟩ := dg_sees st hd e
        exact .inl ⟨q, xs, rfl, g⟩
    · cases e : s.dctU d with
      | none => rw [e] at h; cases h
      | some kvs =>
        obtain ⟨q, ws, rfl, hH, _⟩ := dctU_sees st hd e
        exact .inr ⟨q, ws, rfl, .inl hH⟩
end
end G7

namespace G7
open PySem PySem.Spec
open L2 (V Hp HO St WX TE TS R2 OpR CallR MtR MtM SlR IxR Inv RelV Vals ObjOk Mut upd upd_same upd_ne ne_of_none SqL SqT Cx Room EP VK PE PT PA PI PG PGs PO PS PSs Sp XK It TI TG TGs FnOk thn)
variable [WW]
/-! ### what stands within a dict -/
def UU.own (u : UU) (p q : Addr) (k : NestedKey) (xs : List Ent) : UU := ⟨fun b => if b = p then some (q, k) else u.o b, fun a => if a = q then xs else u.e a⟩
section
variable {u : UU} {p q a b : Addr} {k : NestedKey} {xs : List Ent}
theorem own_same : (u.own p q k xs).o p = some (q, k) := if_pos rfl
theorem own_ne (h : b ≠ p) : (u.own p q k xs).o b = u.o b := if_neg h
theorem own_e : (u.own p q k xs).e q = xs := if_pos rfl
theorem own_en (h : a ≠ q) : (u.own p q k xs).e a = u.e a := if_neg h
end
section
variable {F H : Hp} {ρ : Rho} {s : Sto}
theorem Stt.notU (st : Stt F H ρ s) {p : Addr} (hp : H p = none) : ρ.u.o p = none := by
  cases e : ρ.u.o p with
  | none => rfl
  | some x => exact absurd hp (st.uo p (by rw [e]; exact fun z => nomatch z)).2.2
/-- what stands within the dict of the frame is written -/
theorem Stt.setU (st : Stt F H ρ s) {n : Nat} {q b : Addr} {kk : NestedKey} {ho : HO} {ob : O} (hq : ρ.t[n]? = some q) (hb : ρ.u.o b = some (q, kk)) (hg : ∀ xs, H b ≠ some (gO b xs)) (ok : OOk ρ.m ρ.C ρ.u F (upd H b ho) q ob) : Stt F (upd H b ho) ρ (s.setT n ob) := by
  obtain ⟨u1, u2, u3⟩ := st.uo b (by rw [hb]; exact fun z => nomatch z)
  have ndt := List.nodup_append.mp st.nd
  have sa : ∀ a, a ∈ ρ.t ++ ρ.m → a ≠ q → SameAt ρ.u H (upd H b ho) a := fun a ha hne => ⟨upd_ne fun z => u2 (by rw [← z]; exact ha), fun c k hc => upd_ne fun z => by
    rw [z, hb] at hc; cases hc; exact hne rfl⟩
  refine ⟨st.sub.updR u1, by simp [Sto.setT, st.tl], by simp [Sto.setT, st.ml], st.nd, st.out, fun i o a e1 e2 => ?_, fun i o a e1 e2 => ?_, fun c hc => ⟨(st.uo c hc).1, (st.uo c hc).2.1, st.uNew c hc⟩, st.uwS hg⟩
  · rcases get_set e1 with ⟨h1, h2⟩ | ⟨h1, h2⟩
    · subst h1; subst h2
      rw [hq] at e2; cases e2
      exact ok
    · exact (st.ot i o a h2 e2).mono (Sub.refl F) (sa a (List.mem_append_left _ (List.mem_of_getElem? e2)) fun z => h1 (nodup_ix ndt.1 e2 (z ▸ hq)))
  · exact (st.om i o a e1 e2).mono (Sub.refl F) (sa a (List.mem_append_right _ (List.mem_of_getElem? e2)) fun z => ndt.2.2 q (List.mem_of_getElem? hq) a (List.mem_of_getElem? e2) z.symm)
theorem Stt.xsetU {b : Addr} {x : Addr × NestedKey} {ho : HO} (hb : ρ.u.o b = some x) : Ext F H ρ F (upd H b ho) ρ :=
  ⟨Sub.refl F, ⟨[], by simp⟩, ⟨[], by simp⟩, fun a o' h _ hu => by rw [upd_ne (show a ≠ b from fun z => by rw [z, hb] at hu; cases hu)]; exact h, fun a h => .inl h, fun a o' h => .inl h, fun a h => upd_keeps a h, rfl, fun _ h => .inl h, fun _ _ _ h => .inl h⟩
/-- d.setdefault(k, new) where nothing stands -/
theorem Stt.sdef (st : Stt F H ρ s) {n : Nat} {q p : Addr} {kvs : List (P × IV)} {k : P} {kb : Addr} {iv : IV} {ho : HO} (hq : ρ.t[n]? = some q) (hH : H q = some (gO q (ρ.u.e q))) (nd : ((ρ.u.e q).map (·.1)).Nodup) (hg : HasG ρ.u F H q (ρ.u.e q) kvs)
    (hk : k.key = true) (hnone : atKey (ρ.u.e q) k.nk = none) (hkb : HasP F (.ref kb) k) (hp : H p = none) (hl : kvs.length < sizeLine) (new : ∀ u H', u.o p = some (q, k.nk) → H' p = some ho → IVOk u F H' q k.nk (.ref p) iv) :
    Stt F (upd (upd H p ho) q (gO q (storedH (ρ.u.e q) k.nk kb (.ref p)))) ⟨ρ.t, ρ.m, ρ.C, ρ.u.own p q k.nk (storedH (ρ.u.e q) k.nk kb (.ref p))⟩ (s.setT n (.dg (putK k iv kvs))) ∧
    Ext F H ρ F (upd (upd H p ho) q (gO q (storedH (ρ.u.e q) k.nk kb (.ref p)))) ⟨ρ.t, ρ.m, ρ.C, ρ.u.own p q k.nk (storedH (ρ.u.e q) k.nk kb (.ref p))⟩ := by
  have hm : q ∈ ρ.t ++ ρ.m := List.mem_append_left _ (List.mem_of_getElem? hq)
  have ndt := List.nodup_append.mp st.nd
  have qp : q ≠ p := fun z => by rw [z, hp] at hH; cases hH
  have fp : F p = none := st.sub.none hp
  have fq : F q = none := st.free hm hH noFrz
  have np : p ∉ ρ.t ++ ρ.m := fun z => st.inH z hp
  have up := st.notU hp
  generalize hxs : storedH (ρ.u.e q) k.nk kb (.ref p) = xs
  have hxs' : stR k.nk kb (.ref p) (ρ.u.e q) = xs := by rw [← stored_stR nd]; exact hxs
  have hu : ∀ a b k', ρ.u.o b = some (a, k') → (ρ.u.own p q k.nk xs).o b = some (a, k') := fun a b k' h => by
    rw [own_ne fun z => by rw [z, up] at h; cases h]; exact h
  have nu : ∀ b, ρ.u.o b ≠ none → b ≠ q ∧ b ≠ p := fun b hb => ⟨fun z => (st.uo b hb).2.1 (by rw [z]; exact hm), fun z => hb (by rw [z]; exact up)⟩
  have sa : ∀ a, a ∈ ρ.t ++ ρ.m → a ≠ q → SameAt ρ.u H (upd (upd H p ho) q (gO q xs)) a := fun a ha hne => ⟨by rw [upd_ne hne, upd_ne fun z => np (by rw [← z]; exact ha)], fun c k hc => by
    obtain ⟨c1, c2⟩ := nu c (by rw [hc]; exact fun z => nomatch z)
    rw [upd_ne c1, upd_ne c2]⟩
  refine ⟨⟨(st.sub.updR fp).updR fq, by simp [Sto.setT, st.tl], by simp [Sto.setT, st.ml], st.nd, st.out, fun i o a e1 e2 => ?_, fun i o a e1 e2 => ?_, fun b hb => ?_, fun b q' kk hb => ?_⟩, ?_⟩
  · rcases get_set e1 with ⟨h1, h2⟩ | ⟨h1, h2⟩
    · subst h1; subst h2
      rw [show ρ.t[i]? = some a from e2] at hq; cases hq
      refine ⟨Nat.le_trans (putK_len _ _ _) hl, by rw [upd_same]; exact congrArg (fun z => some (gO q z)) own_e.symm, ?_, ?_⟩
      · show (((ρ.u.own p q k.nk xs).e q).map (·.1)).Nodup
        rw [own_e, ← hxs']; exact stR_nd nd
      · show HasG (ρ.u.own p q k.nk xs) F (upd (upd H p ho) q (gO q xs)) q ((ρ.u.own p q k.nk xs).e q) (putK k iv kvs)
        rw [own_e]
        conv => arg 5; rw [← hxs']
        refine HasG.put (u := ρ.u) (F := F) (H := H) hk (fun k' y iv _ h => h.mono (Sub.refl F) (fun b k h => hu q b k h) fun b e => ?_) (Sub.refl F) hkb (y := .ref p) rfl (new _ _ own_same (by rw [upd_ne (Ne.symm qp), upd_same])) nd hg
        obtain ⟨c1, c2⟩ := nu b (by rw [e]; exact fun z => nomatch z)
        rw [upd_ne c1, upd_ne c2]
    · have ne : a ≠ q := fun z => h1 (nodup_ix ndt.1 e2 (z ▸ hq))
      exact OOk.monoE (u := ρ.u) (u' := ρ.u.own p q k.nk xs) (st.ot i o a h2 e2) (fun b k h => hu a b k h) (own_en ne) (sa a (List.mem_append_left _ (List.mem_of_getElem? e2)) ne)
  · have ne : a ≠ q := fun z => ndt.2.2 q (List.mem_of_getElem? hq) a (List.mem_of_getElem? e2) z.symm
    exact OOk.monoE (u := ρ.u) (u' := ρ.u.own p q k.nk xs) (st.om i o a e1 e2) (fun b k h => hu a b k h) (own_en ne) (sa a (List.mem_append_right _ (List.mem_of_getElem? e2)) ne)
  · by_cases e : b = p
    · subst e
      exact ⟨fp, np, upd_keeps b (by rw [upd_same]; exact fun z => nomatch z)⟩
    · have hb : (ρ.u.own p q k.nk xs).o b ≠ none := hb
      rw [own_ne e] at hb
      exact ⟨(st.uo b hb).1, (st.uo b hb).2.1, upd_keeps b (upd_keeps b (st.uo b hb).2.2)⟩
  · have hb : (ρ.u.own p q k.nk xs).o b = some (q', kk) := hb
    show upd (upd H p ho) q (gO q xs) q' = some (gO q' ((ρ.u.own p q k.nk xs).e q')) ∧ ∃ c, atKey ((ρ.u.own p q k.nk xs).e q') kk = some (c, Value.ref b)
    by_cases e : b = p
    · subst e
      rw [own_same] at hb
      cases hb
      rw [own_e, upd_same]
      refine ⟨rfl, ?_⟩
      rw [← hxs']
      exact atKey_stR_same
    · rw [own_ne e] at hb
      obtain ⟨h1, c, h2⟩ := st.uw b q' kk hb
      by_cases eq : q' = q
      · subst eq
        rw [own_e, upd_same]
        refine ⟨rfl, c, ?_⟩
        rw [← hxs', atKey_stR (fun z => by rw [z, hnone] at h2; cases h2)]
        exact h2
      · rw [own_en eq, upd_ne eq, upd_ne (fun z => by rw [z, hp] at h1; cases h1)]
        exact ⟨h1, c, h2⟩
  · refine ⟨Sub.refl F, ⟨[], by simp⟩, ⟨[], by simp⟩, fun a o' h hn _ => ?_, fun a h => .inl h, fun a o' h => .inl h, fun a h => upd_keeps a (upd_keeps a h), rfl, fun a h => ?_, fun b q' kk hb => .inl (hu q' b kk hb)⟩
    · rw [upd_ne (fun z => hn (by rw [z]; exact hm)), upd_ne (ne_of_none h hp)]; exact h
    · by_cases e : a = p
      · exact .inr (by rw [e]; exact hp)
      · have h : (ρ.u.own p q k.nk xs).o a ≠ none := h
        rw [own_ne e] at h
        exact .inl h
end
section
variable {T : Tabs} {G : Fns} {k : Nat} {c : Ct} {W : WX} {X : Cx} {xc : Nat → Value} {a b d : Expr} {as : List Expr} {fa fb fc : Sl → Sto → R D} {pos : Pos}
/-! ### d.get(k, x) -/
def rGet (x : V) (xs : List V) (H : Hp) (Q : VK) : Prop := ∃ y z, xs = [y, z] ∧ ((∃ q o, x = .ref q ∧ L2.DGet H q y o ∧ Q (o.getD z) H) ∨
  ∃ q es b k, x = .ref q ∧ GD H q es ∧ GK H y b k ∧ ((atKey es k = none ∧ Q z H) ∨ ∃ c val v, atKey es k = some (c, val) ∧ RelV v val ∧ Q v H))
theorem mt_gget (hw : WW.w = X.w) (hu : X.A.units + 64 < cLine) : MtR X "dict.get" rGet := by
  intro pins s σ H x xs v us Q I rx rxs h
  obtain ⟨y, z, rfl, h⟩ := h
  obtain ⟨uy, uz, rfl, ry, rz⟩ := rxs.two
  rcases h with ⟨q, o, rfl, g, h⟩ | ⟨q, es, kb, k, rfl, g, gk, h⟩
  · cases rx
    exact L2.d_get2 (by omega) I g ry rz fun w' s' I' r' => ⟨_, H, I', r', h⟩
  · cases rx
    cases gk.e
    cases (show uy = Value.ref kb from ry)
    refine g_getOr hw hu I g gk fun s' I' => ?_
    rcases h with ⟨e, h⟩ | ⟨c, val, v, e, rv, h⟩
    · rw [e]; exact ⟨z, H, I', rz, h⟩
    · rw [e]; exact ⟨v, H, I', rv, h⟩
theorem s_gget (hX : XE T G k c W X) {p : Pos} (hline : (p.endLine == pos.line) = true) (ha : PE X a (tE X.K xc W fa)) (hp : plainE a = true) (hb : PE X b (tE X.K xc W fb)) (hq : plainE b = true) (hd : PE X d (tE X.K xc W fc)) (hr : plainE d = true) :
    PE X (.Call (.Attribute a "get" p) [b, d] [] pos) (tE X.K xc W fun σ s => (fa σ s).bind fun d s => if isDct s d = true then (fb σ s).bind fun k s => (fc σ s).bind fun x s => ggetD d k x s else .bad) := by
  have hs2 := star1 (xs := []) (env := X.env) hr
  have hs1 := star1 (xs := [d]) (env := X.env) hq
  refine PE.imp (pe_bmD hX.ww PySem.F.slot_dict_get PySem.F.type_dict_get (mt_gget hX.ww hX.units) ha (L2.pa_cons hb (L2.pa_cons hd L2.pa_nil hs2) hs1) hp (by simp [hq, hr]) (by simp) hline) fun σ H Q ⟨F, ρ, τ, s, st, sl, h⟩ => ⟨F, ρ, τ, s, st, sl, h.bind.imp fun d s1 F1 H1 ρ1 e1 st1 h1 x hx => ?_⟩
  split at h1
  · rename_i hdc
    refine ⟨dct_ty st1 hx hdc, F1, ρ1, τ, s1, st1, sl.mono e1, h1.bind.imp fun kk s2 F2 H2 ρ2 e2 st2 h2 y hy => ⟨F2, ρ2, τ, s2, st2, (sl.mono e1).mono e2, h2.bind.imp fun xx s3 F3 H3 ρ3 e3 st3 h3 z hz => ?_⟩⟩
    have hx3 := HasD.mono e3 _ _ (HasD.mono e2 _ _ hx)
    have hy3 := HasD.mono e3 _ _ hy
    refine ⟨y, z, rfl, ?_⟩
    unfold ggetD at h3
    split at h3
    · rename_i kp
      cases hy3 with | p hy3 =>
      cases hn : s3.dct d with
      | some kvs =>
        obtain ⟨ad, ws, rfl, hH, hkv, _⟩ := dct_sees st3 hx3 hn
        have hdg : s3.dg d = none := by
          cases hx3 with
          | tmp _ =>
            simp only [Sto.dct, Sto.dg] at hn ⊢
            split at hn
            · rename_i e; rw [e]
            · rename_i e; rw [e]
            · cases hn
          | _ => rfl
        have hf : dFind s3 d kp = (match keyP kp with
          | some kk => some ((valP kvs kk).map D.p)
          | none => none) := by
          unfold dFind
          cases hx3 with
          | dct _ _ _ _ _ _ => cases hn
          | _ => simp only [hdg, hn] <;> cases keyP kp <;> rfl
        rw [hf] at h3
        cases hk : keyP kp with
        | none => rw [hk] at h3; exact h3.elim
        | some kk =>
          rw [hk] at h3
          dsimp only at h3
          have ey := get_key (s := s3) (K := X.K) (ρ := ρ3) (.p hy3) rfl hk
          subst ey
          refine .inl ⟨ad, _, rfl, .inl ⟨ws, kk, hH, rfl, rfl⟩, ?_⟩
          cases hv : valP kvs kk with
          | none =>
            rw [hv] at h3
            have e := (hkv.val kk).2
            rw [hv] at e
            cases hl : L2.valV ws kk with
            | some _ => rw [hl] at e; cases e
            | none => exact h3.now st3 _ hz
          | some w =>
            rw [hv] at h3
            obtain ⟨v, hv2, hh⟩ := (hkv.val kk).1 w hv
            rw [hv2]
            exact h3.now st3 _ (.p hh)
      | none =>
        cases hf : dFind s3 d kp with
        | none => rw [hf] at h3; exact h3.elim
        | some o =>
          rw [hf] at h3
          obtain ⟨ad, es, rfl, g, hk, h4⟩ := dFind_sees st3 hx3 hn hf
          obtain ⟨kb, gk, _⟩ := gk_of st3.sub hy3 hk
          refine .inr ⟨ad, es, kb, _, rfl, g, gk, ?_⟩
          rcases h4 with ⟨rfl, h4⟩ | ⟨e, b', val, y', rfl, h4, h5, h6⟩
          · exact .inl ⟨h4, h3.now st3 _ hz⟩
          · exact .inr ⟨b', val, y', h4, h5, h3.now st3 _ h6⟩
    · exact h3.elim
  · exact h1.elim
/-! ### d.setdefault(k, x) -/
def rSet (x : V) (xs : List V) (H : Hp) (Q : VK) : Prop := ∃ y z q es b k, xs = [y, z] ∧ x = .ref q ∧ GD H q es ∧ H q = some (gO q es) ∧ GK H y b k ∧
  ((∃ c val v, atKey es k = some (c, val) ∧ RelV v val ∧ Q v H) ∨ (atKey es k = none ∧ ∀ u, RelV z u → Q z (upd H q (gO q (storedH es k b u)))))
theorem mt_gset (hw : WW.w = X.w) (hu : X.A.units + 64 < cLine) : MtR X "dict.setdefault" rSet := by
  intro pins s σ H x xs v us Q I rx rxs h
  obtain ⟨y, z, q, es, kb, k, rfl, rfl, g, hm, gk, h⟩ := h
  obtain ⟨uy, uz, rfl, ry, rz⟩ := rxs.two
  cases rx
  cases gk.e
  cases (show uy = Value.ref kb from ry)
  rcases h with ⟨c, val, v, e, rv, h⟩ | ⟨e, h⟩
  · exact g_setdef hw hu I g hm gk (fun c' x' e' s' I' => by rw [e] at e'; cases e'; exact ⟨v, H, I', rv, h⟩) fun e' => by rw [e] at e'; cases e'
  · exact g_setdef hw hu I g hm gk (fun c' x' e' => by rw [e] at e'; cases e') fun _ s' I' => ⟨z, _, I', rz, h uz rz⟩
theorem s_gset (hX : XE T G k c W X) {p : Pos} (hline : (p.endLine == pos.line) = true) (ha : PE X a (tE X.K xc W fa)) (hp : plainE a = true) (hb : PE X b (tE X.K xc W fb)) (hq : plainE b = true) (hd : PE X d (tE X.K xc W fc)) (hr : plainE d = true) :
    PE X (.Call (.Attribute a "setdefault" p) [b, d] [] pos) (tE X.K xc W fun σ s => (fa σ s).bind fun d s => if isDct s d = true then (fb σ s).bind fun k s => (fc σ s).bind fun x s => gsetD d k x s else .bad) := by
  have hs2 := star1 (xs := []) (env := X.env) hr
  have hs1 := star1 (xs := [d]) (env := X.env) hq
  refine PE.imp (pe_bmD hX.ww PySem.F.slot_dict_setdefault PySem.F.type_dict_setdefault (mt_gset hX.ww hX.units) ha (L2.pa_cons hb (L2.pa_cons hd L2.pa_nil hs2) hs1) hp (by simp [hq, hr]) (by simp) hline) fun σ H Q ⟨F, ρ, τ, s, st, sl, h⟩ => ⟨F, ρ, τ, s, st, sl, h.bind.imp fun d s1 F1 H1 ρ1 e1 st1 h1 x hx => ?_⟩
  split at h1
  · rename_i hdc
    refine ⟨dct_ty st1 hx hdc, F1, ρ1, τ, s1, st1, sl.mono e1, h1.bind.imp fun kk s2 F2 H2 ρ2 e2 st2 h2 y hy => ⟨F2, ρ2, τ, s2, st2, (sl.mono e1).mono e2, h2.bind.imp fun xx s3 F3 H3 ρ3 e3 st3 h3 z hz => ?_⟩⟩
    have hx3 := HasD.mono e3 _ _ (HasD.mono e2 _ _ hx)
    have hy3 := HasD.mono e3 _ _ hy
    unfold gsetD at h3
    split at h3
    · rename_i n kvs kp xp hg
      split at h3
      · rename_i hk
        obtain ⟨n', q, es, en, rfl, hm, _, hH, g, hh, hl, hes⟩ := dg_sees st3 hx3 hg
        cases en
        subst hes
        cases hy3 with | p hy3 =>
        cases hz with | p hz =>
        obtain ⟨kb, gk, hkb⟩ := gk_of st3.sub hy3 hk.1
        have nd := g.nd
        refine ⟨y, z, q, _, kb, _, rfl, rfl, g, hH, gk, ?_⟩
        rcases hh.find hk.1 with ⟨g1, g2⟩ | ⟨iv, b', v', y', g1, g2, g3, g4⟩
        · rw [g1] at h3
          refine .inr ⟨g2, fun u ru => ?_⟩
          exact h3 _ _ _ (Stt.xsetE (List.mem_append_left _ (List.mem_of_getElem? hm))) (st3.gput hm hH nd hh (fun iv e => by rw [g1] at e; cases e) hk.1 hkb ru hz hk.2) _ (.p hz)
        · rw [g1] at h3
          cases iv with
          | p w => exact .inl ⟨b', v', y', g2, g3, h3.now st3 _ (.p g4)⟩
          | l _ => exact h3.elim
          | d _ => exact h3.elim
      · exact h3.elim
    · exact h3.elim
  · exact h1.elim
end
end G7

namespace G7
open PySem PySem.Spec
open L2 (V Hp HO St WX TE TS R2 OpR CallR MtR MtM SlR IxR Inv RelV Vals ObjOk Mut upd upd_same upd_ne ne_of_none SqL SqT Cx Room EP VK PE PT PA PI PG PGs PO PS PSs Sp XK It TI TG TGs FnOk thn)
variable [WW]
section
variable {T : Tabs} {G : Fns} {k : Nat} {c : Ct} {W : WX} {X : Cx} {xc : Nat → Value} {a b d : Expr} {as : List Expr} {fa fb fc : Sl → Sto → R D} {pos : Pos}
/-! ### d.setdefault(k, []).append(x) -/
theorem sapp_rest {K : PySem.W.Frag} {σ : St} {τ : Sl} {F H : Hp} {ρ : Rho} {s : Sto} {Q : VK} {n : Nat} {q b : Addr} {kp : P} {vs : List V} (hk : kp.key = true) (sl : SlOk K F ρ σ τ) (st : Stt F H ρ s) (hq : ρ.t[n]? = some q) (hb : ρ.u.o b = some (q, kp.nk)) (hl : H b = some (.lst vs))
    (h : RP xc W σ F H ρ ((fc τ s).bind fun x s => sappD (.tmp n) (.p kp) x s) (CV K Q)) : L2.tyV K "list" (.ref b) H ∧ L2.tCons (tE K xc W fc) L2.tNil σ H fun xs H5 => L2.rAppend (.ref b) xs H5 Q := by
  refine ⟨.inl ⟨rfl, vs, SqL.of hl⟩, F, ρ, τ, s, st, sl, h.bind.imp fun xx s5 F5 H5 ρ5 e5 st5 h5 z hz => ?_⟩
  have hq5 : ρ5.t[n]? = some q := by
    obtain ⟨r, e⟩ := e5.t
    rw [e]; exact get_pre hq
  have hm5 : q ∈ ρ5.t ++ ρ5.m := List.mem_append_left _ (List.mem_of_getElem? hq5)
  unfold sappD at h5
  split at h5
  · rename_i n' kvs5 kp' xp hdn hg hkk
    cases hdn; cases hkk
    split at h5
    · rename_i ys hf
      split at h5
      · rename_i hz5
        obtain ⟨n2, q2, es, en, ev, hm, ht, hH, g, hh, hlen, hes⟩ := dg_sees (K := K) st5 (.tmp hq5) hg
        cases en; cases ev
        subst hes
        have hu5 : ρ5.u.o b = some (q, kp.nk) := by
          rcases e5.um b q kp.nk hb with z | z
          · exact z
          · exact absurd (st5.free hm5 hH noFrz) z
        rcases hh.find hk with ⟨g1, _⟩ | ⟨iv, c', v', y', g1, g2, g3, g4⟩
        · rw [g1] at hf; cases hf
        · rw [hf] at g1; cases g1
          obtain ⟨b5, vs5, rfl, u5, hb5, hz', hr⟩ := g4
          have eb : b5 = b := by
            obtain ⟨_, c1, w1⟩ := st5.uw b q kp.nk hu5
            obtain ⟨_, c2, w2⟩ := st5.uw b5 q kp.nk u5
            rw [w1] at w2
            have := (Prod.mk.inj (Option.some.inj w2)).2
            injection this with this
            exact this.symm
          subst eb
          cases hz with | p hz =>
          refine ⟨b5, vs5, z, rfl, rfl, hb5, by rw [hr.length]; exact hz5, ?_⟩
          have qb : q ≠ b5 := fun z => by rw [z, hb5] at hH; cases hH
          refine h5 _ _ _ (Stt.xsetU hu5) (st5.setU hq5 hu5 (fun _ z => by rw [hb5] at z; cases z) ⟨Nat.le_trans ?_ hlen, by rw [upd_ne qb]; exact hH, g.nd, ?_⟩) _ (.p .non)
          · have : ∀ l : List (P × IV), ∀ w, findK kp l = some w → (putK kp (.l (ys ++ [xp])) l).length ≤ l.length := fun l => by
              induction l with
              | nil => intro w e; simp [findK] at e
              | cons x l ih =>
                intro w e
                unfold putK
                split
                · simp
                · rename_i ne
                  have := ih w (by simpa [findK, ne] using e)
                  simp only [List.length_cons]; omega
            exact this kvs5 _ hf
          · refine HasG.mod (u := ρ5.u) (u' := ρ5.u) (F := F5) (H := H5) hk (fun k' y iv hne hiv => hiv.mono (Sub.refl F5) (fun _ _ z => z) fun c hc => ?_) (Sub.refl F5) (fun y hy => ?_) hf g.nd hh
            · exact upd_ne fun z => by
                rw [z, u5] at hc
                cases hc
                exact hne rfl
            · obtain ⟨b6, vs6, rfl, u6, hb6, hz6, hr6⟩ := hy
              have eb : b6 = b5 := by
                obtain ⟨_, c1, w1⟩ := st5.uw b5 q kp.nk hu5
                obtain ⟨_, c2, w2⟩ := st5.uw b6 q kp.nk u6
                rw [w1] at w2
                have := (Prod.mk.inj (Option.some.inj w2)).2
                injection this with this
                exact this.symm
              subst eb
              rw [hb5] at hb6; cases hb6
              exact ⟨b6, vs5 ++ [z], rfl, u6, upd_same, by rw [List.length_append]; simp; omega, hr6.append (.cons hz .nil)⟩
      · exact h5.elim
    · exact h5.elim
  · exact h5.elim
theorem s_sapp (hX : XE T G k c W X) {p p2 q2 pl : Pos} (hline2 : (p2.endLine == q2.line) = true) (hline : (p.endLine == pos.line) = true) (ha : PE X a (tE X.K xc W fa)) (hp : plainE a = true) (hb : PE X b (tE X.K xc W fb)) (hq : plainE b = true) (hd : PE X d (tE X.K xc W fc)) (hr : plainE d = true) :
    PE X (.Call (.Attribute (.Call (.Attribute a "setdefault" p2) [b, .List [] pl] [] q2) "append" p) [d] [] pos) (tE X.K xc W fun σ s => (fa σ s).bind fun d s => if isDct s d = true then (fb σ s).bind fun k s => (sdefD (.l []) d k s).bind fun _ s => (fc σ s).bind fun x s => sappD d k x s else .bad) := by
  have hs2 := star1 (xs := []) (env := X.env) (x := .List [] pl) rfl
  have hs1 := star1 (xs := [.List [] pl]) (env := X.env) hq
  have hsd := star1 (xs := []) (env := X.env) hr
  have hall : ([b, .List [] pl] : List Expr).all plainE = true := by rw [List.all_cons, hq]; rfl
  have inner := pe_bmD (pos := q2) (apos := p2) hX.ww PySem.F.slot_dict_setdefault PySem.F.type_dict_setdefault (mt_gset hX.ww hX.units) ha (L2.pa_cons hb (L2.pa_cons (L2.pe_lst (pos := pl) L2.pa_nil) L2.pa_nil hs2) hs1) hp hall (by simp) hline2
  refine PE.imp (L2.pe_bm PySem.F.plainAttrs_list PySem.F.slot_list_append PySem.F.type_list_append L2.mt_append inner (L2.pa_cons hd L2.pa_nil hsd) (base1 rfl) (few1 hr) hline hsd rfl) fun σ H Q ⟨F, ρ, τ, s, st, sl, h⟩ => ⟨F, ρ, τ, s, st, sl, h.bind.imp fun d s1 F1 H1 ρ1 e1 st1 h1 x hx => ?_⟩
  split at h1
  · rename_i hdc
    refine ⟨dct_ty st1 hx hdc, F1, ρ1, τ, s1, st1, sl.mono e1, h1.bind.imp fun kk s2 F2 H2 ρ2 e2 st2 h2 y hy => ⟨by simp, fun pn hpn => ?_⟩⟩
    have hx2 := HasD.mono e2 _ _ hx
    have sl2 := (sl.mono e1).mono e2
    have h2' := h2
    unfold sdefD at h2
    split at h2
    · rename_i n kvs kp hg
      split at h2
      · rename_i hk
        obtain ⟨n', q, es, en, rfl, hm, ht, hH, g, hh, hl, hes⟩ := dg_sees st2 hx2 hg
        cases en
        subst hes
        cases hy with | p hy =>
        obtain ⟨kb, gk, hkb⟩ := gk_of st2.sub hy hk.1
        have nd := g.nd
        have qp : q ≠ pn := fun z => by rw [z, hpn] at hH; cases hH
        have hH' : upd H2 pn (.lst []) q = some (gO q (ρ2.u.e q)) := by rw [upd_ne qp]; exact hH
        have tn : ∀ a vs, H2 a = some (.tup vs) → upd H2 pn (.lst []) a = some (.tup vs) := fun a vs e => by rw [upd_ne (ne_of_none e hpn)]; exact e
        have g' : GD (upd H2 pn (.lst [])) q (ρ2.u.e q) := ⟨.inl hH', fun x hx => ⟨NK.mono tn _ _ (g.ks x hx).1, (g.ks x hx).2⟩, g.nd, g.sz⟩
        have gk' : GK (upd H2 pn (.lst [])) y kb kp.nk := ⟨gk.e, NK.mono tn _ _ gk.nk, gk.d⟩
        refine ⟨y, .ref pn, q, _, kb, _, rfl, rfl, g', hH', gk', ?_⟩
        rcases hh.find hk.1 with ⟨g1, g2⟩ | ⟨iv, b', v', y', g1, g2, g3, g4⟩
        · rw [g1] at h2
          refine .inr ⟨g2, fun u ru => ?_⟩
          cases (show u = Value.ref pn from ru)
          obtain ⟨st3, e3⟩ := st2.sdef (iv := .l []) (ho := .lst []) hm hH nd hh hk.1 g2 hkb hpn hk.2 (fun u H' h1 h2 => ⟨pn, [], rfl, h1, h2, by simp, .nil⟩)
          exact sapp_rest hk.1 (sl2.mono e3) st3 hm own_same (by rw [upd_ne (Ne.symm qp), upd_same]) (RP.mono (show RP xc W σ F2 H2 ρ2 _ _ from h2) e3)
        · rw [g1] at h2
          cases iv with
          | p w => exact h2.elim
          | d w => exact h2.elim
          | l ys =>
            obtain ⟨b4, vs4, rfl, u4, hb4, _, _⟩ := g4
            refine .inl ⟨b', v', .ref b4, g2, g3, ?_⟩
            have e3 := st2.xskip (o := .lst []) hpn
            exact sapp_rest hk.1 (sl2.mono e3) (st2.skip hpn) hm u4 (by rw [upd_ne (ne_of_none hb4 hpn)]; exact hb4) (RP.mono (show RP xc W σ F2 H2 ρ2 _ _ from h2) e3)
      · exact h2.elim
    · exact h2.elim
  · exact h1.elim
end
end G7

namespace G7
open PySem PySem.Spec
open L2 (V Hp HO St WX TE TS R2 OpR CallR MtR MtM SlR IxR Inv RelV Vals ObjOk Mut upd upd_same upd_ne ne_of_none SqL SqT Cx Room EP VK PE PT PA PI PG PGs PO PS PSs Sp XK It TI TG TGs FnOk thn)
variable [WW]
section
variable {X : Cx}
/-! ### list.count, list.index -/
def rCount (K : PySem.W.Frag) : V → List V → Hp → VK → Prop := fun x xs H Q => ∃ (y : V) (d : PyData) (ds : List PyData), xs = [y] ∧ L2.Dp K H x (.list ds) ∧ L2.Dp K H y d ∧ PyData.plainAll ds = true ∧ d.plain = true ∧ d.depth ≤ 20 ∧ Q (.int (ds.countP fun z => PyData.eqv z d : Nat)) H
theorem mt_count (hu : X.A.units + 64 < cLine) : MtR X "list.count" (rCount X.K) := by
  intro pins s σ H x xs v us Q I rx rxs h
  obtain ⟨y, d, ds, rfl, hl, hy, sl, sd, hdep, q⟩ := h
  cases rxs with
  | cons ry rt =>
    rename_i uy ut
    cases rt
    obtain ⟨bs, r1⟩ := L2.Dp.reads I d y uy hy ry
    have hroom : X.A.units + 1 + min (PyData.depthAll ds) d.depth < cLine := by omega
    cases hl with
    | lst hs ha =>
      cases rx
      obtain ⟨its, rv, ⟨⟨cls, dd, data, sls⟩, n, ho, hc, hdn, hdt⟩, hlen⟩ := I.list hs
      simp only at hc hdt
      subst hc hdt
      obtain ⟨as, h4⟩ := L2.Dp.readsAll I ds _ its ha rv
      have hmap : its.map (SeqAt.readOf s.heap) = ds := SeqAt.readsAll_map_plain ds its as sl h4
      refine call_meets PySem.F.slot_list_count ⟨_, ho, rfl⟩ PySem.F.entry_list_count (PySem.F.args_list_count_2 _ _)
        (SeqAt.list_countAt _ its.toArray n dd sls uy (fun u => PyData.eqv (SeqAt.readOf s.heap u) d)) ⟨ho, SeqAt.items_plain (vs := its.toArray) (show ReadsAll s.heap its.toArray.toList ds as from h4) r1 sl sd hroom, ?_⟩
      refine ⟨.int _, H, I.tok _, ⟨_, rfl⟩, ?_⟩
      have e : its.toArray.toList.countP (fun u => PyData.eqv (SeqAt.readOf s.heap u) d) = ds.countP fun z => PyData.eqv z d := by
        rw [← hmap, List.countP_map]
        rfl
      rw [e]
      exact q
def rIndex (K : PySem.W.Frag) : V → List V → Hp → VK → Prop := fun x xs H Q => ∃ (y : V) (d : PyData) (ds : List PyData) (j : Nat) (z : PyData), xs = [y] ∧ L2.Dp K H x (.list ds) ∧ L2.Dp K H y d ∧ PyData.plainAll ds = true ∧ d.plain = true ∧ d.depth ≤ 20 ∧
  ds[j]? = some z ∧ PyData.eqv z d = true ∧ (∀ (m : Nat) (z' : PyData), m < j → ds[m]? = some z' → PyData.eqv z' d = false) ∧ Q (.int (j : Nat)) H
theorem mt_index (hu : X.A.units + 64 < cLine) : MtR X "list.index" (rIndex X.K) := by
  intro pins s σ H x xs v us Q I rx rxs h
  obtain ⟨y, d, ds, j, z, rfl, hl, hy, sl, sd, hdep, hz, hzj, hno, q⟩ := h
  cases rxs with
  | cons ry rt =>
    rename_i uy ut
    cases rt
    obtain ⟨bs, r1⟩ := L2.Dp.reads I d y uy hy ry
    have hroom : X.A.units + 1 + min (PyData.depthAll ds) d.depth < cLine := by omega
    cases hl with
    | lst hs ha =>
      cases rx
      obtain ⟨its, rv, ⟨⟨cls, dd, data, sls⟩, n, ho, hc, hdn, hdt⟩, hlen⟩ := I.list hs
      simp only at hc hdt
      subst hc hdt
      obtain ⟨as, h4⟩ := L2.Dp.readsAll I ds _ its ha rv
      have hn : its.length = ds.length := SeqAt.ReadsAll.length ds its as h4
      have hmap : its.map (SeqAt.readOf s.heap) = ds := SeqAt.readsAll_map_plain ds its as sl h4
      have hvl := rv.length
      have hsl := sizeLine_eq
      obtain ⟨hjd, _⟩ := List.getElem?_eq_some_iff.mp hz
      have hj : j < its.toArray.size := by rw [List.size_toArray]; omega
      have at_ : ∀ (m : Nat) (hm : m < its.toArray.size) (z' : PyData), ds[m]? = some z' → SeqAt.readOf s.heap its.toArray[m] = z' := by
        intro m hm z' hz'
        have hml : m < its.length := by simpa using hm
        rw [← hmap, List.getElem?_map, List.getElem?_eq_getElem hml] at hz'
        have e1 : SeqAt.readOf s.heap its[m] = z' := Option.some.inj (show some (SeqAt.readOf s.heap its[m]) = some z' from hz')
        simpa using e1
      refine call_meets PySem.F.slot_list_index ⟨_, ho, rfl⟩ PySem.F.entry_list_index (PySem.F.args_list_index_2 _ _)
        (SeqAt.list_indexAt _ its.toArray n dd sls uy (fun u => PyData.eqv (SeqAt.readOf s.heap u) d) j hj (by omega) ?_ ?_) ⟨ho, SeqAt.items_plain (vs := its.toArray) (show ReadsAll s.heap its.toArray.toList ds as from h4) r1 sl sd hroom, ?_⟩
      · show PyData.eqv (SeqAt.readOf s.heap its.toArray[j]) d = true
        rw [at_ j hj z hz]
        exact hzj
      · intro m hm hmj
        have hmd : m < ds.length := by omega
        have hz' : ds[m]? = some ds[m] := List.getElem?_eq_getElem hmd
        show PyData.eqv (SeqAt.readOf s.heap its.toArray[m]) d = false
        rw [at_ m hm _ hz']
        exact hno m _ hmj hz'
      · exact ⟨.int (j : Nat), H, I.tok _, ⟨_, rfl⟩, q⟩
end
theorem get_get' {s : Sto} {d : D} {a : P} (h : s.get d = some a) : s.get' d = some a := by
  cases d <;> first | exact h | cases h
theorem pys_countP (a : P) : ∀ ys : List P, (P.pys ys).countP (fun z => PyData.eqv z a.py) = ys.countP fun y => y.eqv a
  | [] => rfl
  | y :: ys => by
    show (y.py :: P.pys ys).countP _ = _
    rw [List.countP_cons, List.countP_cons, pys_countP a ys, py_eqv]
theorem pys_get : ∀ (ys : List P) (j : Nat), (P.pys ys)[j]? = ys[j]?.map P.py
  | [], j => by simp [P.pys]
  | y :: ys, 0 => by simp [P.pys]
  | y :: ys, j + 1 => by simpa [P.pys] using pys_get ys j
section
variable {T : Tabs} {G : Fns} {k : Nat} {c : Ct} {W : WX} {X : Cx} {xc : Nat → Value} {a b : Expr} {fa fb : Sl → Sto → R D} {pos : Pos}
theorem m2_ok {f : M2} {d e : D} {s : Sto} {K : PySem.W.Frag} {σ : St} {F H : Hp} {ρ : Rho} {Q : VK} (h : RP xc W σ F H ρ (m2D f d e s) (CV K Q)) : ∃ ys x r, s.get d = some (.lst ys) ∧ s.get e = some x ∧ m2P f ys x = some r ∧ Fut K Q F H ρ (.p r) s := by
  unfold m2D at h
  split at h
  · rename_i ys x g1 g2
    obtain ⟨r, e3, h⟩ := h.of
    obtain ⟨z, hz, rfl⟩ := Option.map_eq_some_iff.mp e3
    exact ⟨ys, x, z, g1, g2, hz, h.fut⟩
  · exact h.elim
theorem s_m2 (hu : X.A.units + 64 < cLine) {f : M2} {m : Str} {p : Pos} (hm : m = m2N f) (hline : (p.endLine == pos.line) = true) (ha : PE X a (tE X.K xc W fa)) (hp : plainE a = true) (hb : PE X b (tE X.K xc W fb)) (hq : plainE b = true) :
    PE X (.Call (.Attribute a m p) [b] [] pos) (tE X.K xc W fun σ s => (fa σ s).bind fun d s => (match s.get d with
    | some (.lst _) => (fb σ s).bind fun e s => m2D f d e s
    | _ => .bad)) := by
  have hs := star1 (xs := []) (env := X.env) hq
  subst hm
  cases f with
  | count =>
    refine PE.imp (L2.pe_bm PySem.F.plainAttrs_list PySem.F.slot_list_count PySem.F.type_list_count (mt_count hu) ha (L2.pa_cons hb L2.pa_nil hs) (base1 hp) (few1 hq) hline hs rfl) fun σ H Q q => t_bm q fun x y d e F H ρ s st hx hy h => ?_
    obtain ⟨ys, w, r, g1, g2, g3, h1⟩ := m2_ok h
    simp only [m2P] at g3
    split at g3
    · rename_i hl
      cases g3
      refine ⟨y, w.py, P.pys ys, rfl, get_dp st hx (get_get' g1), get_dp st hy (get_get' g2), pys_plain _, py_plain _, lim_depth _ 20 hl, ?_⟩
      rw [pys_countP]
      exact h1.now st (.p (.int _))
    · cases g3
  | index =>
    refine PE.imp (L2.pe_bm PySem.F.plainAttrs_list PySem.F.slot_list_index PySem.F.type_list_index (mt_index hu) ha (L2.pa_cons hb L2.pa_nil hs) (base1 hp) (few1 hq) hline hs rfl) fun σ H Q q => t_bm q fun x y d e F H ρ s st hx hy h => ?_
    obtain ⟨ys, w, r, g1, g2, g3, h1⟩ := m2_ok h
    simp only [m2P] at g3
    split at g3
    · rename_i hl
      obtain ⟨j, hj, rfl⟩ := Option.map_eq_some_iff.mp g3
      obtain ⟨hlt, hyes, hno⟩ := List.findIdx?_eq_some_iff_getElem.mp hj
      refine ⟨y, w.py, P.pys ys, j, ys[j].py, rfl, get_dp st hx (get_get' g1), get_dp st hy (get_get' g2), pys_plain _, py_plain _, lim_depth _ 20 hl, by rw [pys_get, List.getElem?_eq_getElem hlt]; rfl, by rw [py_eqv]; exact hyes, fun m z' hm hz' => ?_, h1.now st (.p (.int _))⟩
      have hml : m < ys.length := by omega
      rw [pys_get, List.getElem?_eq_getElem hml] at hz'
      cases hz'
      rw [py_eqv]
      simpa using hno m hm
    · cases g3
end
end G7

/-! a dict under nested keys, not changed any more: its keys, items, values -/
namespace L2
open PySem PySem.Spec PyProof.Rows G7
variable [WW]
section
variable {X : Cx} {pins : List (Addr × Obj)} {σ : St} {H : Hp} {s : Shared} {d : Addr} {o : Obj} {xs : List Ent}
theorem Inv.frzG (I : Inv X pins σ H s) (h : H d = some (.frz o (gO d xs))) :
    (d == sysModules) = false ∧ s.heap.get? d = some o ∧ o.ExactDict ∧ ∃ (es : Array DictEntry) (ep : Nat), o.data = .dict es ep ∧ es.toList = xs.map entN := by
  obtain ⟨hd, ⟨hs, o', es, ep, ho, hx, hdt, he⟩, _, _⟩ := I.hok d _ h
  rw [hd] at ho
  cases ho
  exact ⟨hs, hd, hx, es, ep, hdt, he⟩
theorem ent_size {es : Array DictEntry} (he : es.toList = xs.map entN) : es.size = xs.length := by
  rw [← Array.length_toList, he, List.length_map]
theorem ent_at {es : Array DictEntry} (he : es.toList = xs.map entN) {i : Nat} (hi : i < es.size) {x : Ent} (hx : xs[i]? = some x) : es[i].key = .ref x.2.1 ∧ es[i].val = x.2.2 := by
  have e : es.toList[i]? = (xs.map entN)[i]? := by rw [he]
  rw [Array.getElem?_toList, Array.getElem?_eq_getElem hi, List.getElem?_map, hx] at e
  have e := Option.some.inj e
  rw [e]
  exact ⟨rfl, rfl⟩
end
theorem vals_get : ∀ {ws : List V} {us : List Value} {i : Nat} {y : V}, Vals ws us → ws[i]? = some y → ∃ u, us[i]? = some u ∧ RelV y u
  | _, _, _, _, .nil, e => by simp at e
  | _, _, 0, _, .cons r _, e => by simp at e; subst e; exact ⟨_, rfl, r⟩
  | _, _, i + 1, y, .cons _ t, e => by
    obtain ⟨u, h1, h2⟩ := vals_get (i := i) (y := y) t (by simpa using e)
    exact ⟨u, by simpa using h1, h2⟩
/-- its keys -/
def ItkG (d : Addr) (o : Obj) (xs : List Ent) : It :=
  ⟨fun i H => H d = some (.frz o (gO d xs)) ∧ i < xs.length, fun i H v H' => H' = H ∧ ∃ x, xs[i]? = some x ∧ v = .ref x.2.1, fun i H => H d = some (.frz o (gO d xs)) ∧ xs.length ≤ i⟩
/-- its pairs, each a new tuple -/
def ItiG (d : Addr) (o : Obj) (xs : List Ent) (ws : List V) : It :=
  ⟨fun i H => H d = some (.frz o (gO d xs)) ∧ i < xs.length, fun i H v H' => ∃ T x y, xs[i]? = some x ∧ ws[i]? = some y ∧ v = .ref T ∧ H T = none ∧ H' = upd H T (.tup [.ref x.2.1, y]), fun i H => H d = some (.frz o (gO d xs)) ∧ xs.length ≤ i⟩
section
variable {P : Program} {w : World} {K : PySem.W.Frag} {tg : Expr} {d : Addr} {o : Obj} {es : Array DictEntry} {ep : Nat} {xs : List Ent} {ws : List V}
theorem turn_keysG (it : Addr) (hod : o.data = .dict es ep) : Turn P w K tg (ItkG d o xs) [it] it (fun i h => h.IsKeyIter it d i xs.length ep) where
  mem := by simp
  obj := fun i h st b hb => by
    have e : b = it := by simpa using hb
    subst e
    obtain ⟨oi, e, c, dd⟩ := st
    exact ⟨oi, e, fun v z => by rw [dd] at z; cases z⟩
  keep := fun i h h' st k => st.at fun oi e => k it (by simp) oi e
  item := by
    intro X hP hw hK hc i pins s σ H E I hf st hg
    subst hP hw hK
    obtain ⟨hd, hi⟩ := hg
    obtain ⟨f0, f1, f2, f3, f4, f5⟩ := hf it (by simp)
    obtain ⟨hs, hgd, hx, es', ep', hdt, he⟩ := I.frzG hd
    obtain ⟨rfl, rfl⟩ := dict_ep hod hdt
    have hsz := ent_size he
    have hi2 : i < es'.size := by omega
    obtain ⟨x, hx1⟩ : ∃ x, xs[i]? = some x := ⟨xs[i], List.getElem?_eq_getElem hi⟩
    obtain ⟨ek, evl⟩ := ent_at he hi2 hx1
    rw [← hsz] at st
    refine wpAny_pyNext_keys_item_raw st ⟨o, hgd, hx, hdt⟩ hi2 fun h' st' sb => ?_
    have I1 : Inv X pins σ H { s with heap := h' } := I.turned (t' := s.toks) (fun b ob hb e => (sb.2 b hb).trans e) f0 f1 f3 f4 f5
    obtain ⟨oi, e, c, dd⟩ := id st'
    rw [ek]
    refine ⟨.ref x.2.1, rfl, go_of (s := { s with heap := h' }) e c dd (by decide) ⟨.ref x.2.1, H, I1, rfl, ⟨rfl, x, hx1, rfl⟩, ?_, fun b hb => (hf b hb).1⟩⟩
    show h'.IsKeyIter it d (i + 1) xs.length _
    rw [← hsz]
    exact st'
  done := by
    intro X hP hw hK hc i pins s σ H E I hf st hg
    subst hP hw hK
    obtain ⟨hd, hi⟩ := hg
    obtain ⟨f0, f1, f2, f3, f4, f5⟩ := hf it (by simp)
    obtain ⟨hs, hgd, hx, es', ep', hdt, he⟩ := I.frzG hd
    obtain ⟨rfl, rfl⟩ := dict_ep hod hdt
    have hsz := ent_size he
    rw [← hsz] at st
    exact wpAny_pyNext_keys_end_raw (I.ok.hd hc) st ⟨o, hgd, hx, hdt⟩ (by omega) fun h' eb => ⟨rfl, I.turned (t' := s.toks) (fun b ob hb e => eb b ob hb e) f0 f1 f3 f4 f5⟩
  self := fun A i s Q E st h => wpAny_pyIter_keyiter st h
theorem turn_itemsG {elts : List Expr} {kk : Nat} {tpos : Pos} (it : Addr) (hod : o.data = .dict es ep) (hw : Vals ws (xs.map (·.2.2))) :
    Turn P w K (.Tuple elts kk tpos) (ItiG d o xs ws) [it] it (fun i h => ∃ ok ov, IsItemIter h it d i xs.length ep ok ov) where
  mem := by simp
  obj := fun i h st b hb => by
    have e : b = it := by simpa using hb
    subst e
    obtain ⟨ok, ov, e⟩ := st
    exact ⟨_, e, fun v z => nomatch z⟩
  keep := fun i h h' st k => let ⟨ok, ov, e⟩ := st; ⟨ok, ov, k it (by simp) _ e⟩
  item := by
    intro X hP hw' hK hc i pins s σ H E I hf st hg
    subst hP hw' hK
    obtain ⟨hd, hi⟩ := hg
    obtain ⟨hs, hgd, hx, es', ep', hdt, he⟩ := I.frzG hd
    obtain ⟨rfl, rfl⟩ := dict_ep hod hdt
    have hsz := ent_size he
    have hi2 : i < es'.size := by omega
    obtain ⟨x, hx1⟩ : ∃ x, xs[i]? = some x := ⟨xs[i], List.getElem?_eq_getElem hi⟩
    obtain ⟨ek, evl⟩ := ent_at he hi2 hx1
    have hwl : ws.length = xs.length := by rw [hw.length, List.length_map]
    obtain ⟨y, hy⟩ : ∃ y, ws[i]? = some y := ⟨ws[i], List.getElem?_eq_getElem (by omega)⟩
    obtain ⟨u, hu, ru⟩ := vals_get hw hy
    rw [List.getElem?_map, hx1] at hu
    have hu : x.2.2 = u := Option.some.inj hu
    subst hu
    obtain ⟨ok, ov, hit⟩ := st
    rw [← hsz] at hit
    have hlt : it < s.heap.objs.size := Heap.lt_size hit
    refine wpAny_pyNext_items_item_raw hit ⟨o, hgd, hx, hdt⟩ hi2 fun h' ho hT hz hk => ?_
    rw [ek, evl] at ho hT
    refine ⟨_, rfl, wpAny_letOwnedTupleGo_items (s := { s with heap := h' }) ho fun h'' he' sb => ?_⟩
    have hT2 : h''.get? s.heap.objs.size = some { cls := .type "tuple", data := .seq #[.ref x.2.1, x.2.2] } := (sb.2 _ (Nat.ne_of_gt hlt)).trans hT
    have new : ObjOk X.prog X.w (upd H s.heap.objs.size (.tup [.ref x.2.1, y])) h'' s.heap.objs.size (.tup [.ref x.2.1, y]) :=
      ⟨by show 2 ≤ sizeLine; decide, [.ref x.2.1, x.2.2], .cons rfl (.cons ru .nil), ⟨_, hT2, rfl, _, rfl⟩⟩
    have I1 : Inv X pins σ (upd H s.heap.objs.size (.tup [.ref x.2.1, y])) { s with heap := h'' } :=
      I.turnedNew (t' := s.toks) (ch := [it]) (fun b ob hb e => (sb.2 b (by simpa using hb)).trans (hk b ob (by simpa using hb) e)) hf (Nat.le_refl _) new
    refine ⟨.ref s.heap.objs.size, _, I1, rfl, ⟨_, x, y, hx1, hy, rfl, I.hok.fresh (Nat.le_refl _), rfl⟩, ⟨.ref x.2.1, x.2.2, by rw [← hsz]; exact he'⟩, fun b hb => ?_⟩
    · have e : b = it := by simpa using hb
      rw [e, upd_ne (Nat.ne_of_lt hlt)]
      exact (hf it (by simp)).1
  done := by
    intro X hP hw' hK hc i pins s σ H E I hf st hg
    subst hP hw' hK
    obtain ⟨hd, hi⟩ := hg
    obtain ⟨f0, f1, f2, f3, f4, f5⟩ := hf it (by simp)
    obtain ⟨hs, hgd, hx, es', ep', hdt, he⟩ := I.frzG hd
    obtain ⟨rfl, rfl⟩ := dict_ep hod hdt
    have hsz := ent_size he
    obtain ⟨ok, ov, hit⟩ := st
    rw [← hsz] at hit
    exact wpAny_pyNext_items_end_raw (I.ok.hd hc) hit ⟨o, hgd, hx, hdt⟩ (by omega) fun h' eb => ⟨rfl, I.turned (t' := s.toks) (fun b ob hb e => eb b ob hb e) f0 f1 f3 f4 f5⟩
  self := fun A i s Q E st h => let ⟨_, _, e⟩ := st; PySem.W.kcp_self e h
end
def iKeysG (td : TE) : TI := fun σ H R => td σ H fun x H1 => ∃ d o xs, x = .ref d ∧ H1 d = some (.frz o (gO d xs)) ∧ R (ItkG d o xs) H1
def iItemsG (td : TE) : TI := fun σ H R => td σ H fun x H1 => ∃ d o xs ws, x = .ref d ∧ H1 d = some (.frz o (gO d xs)) ∧ Vals ws (xs.map (·.2.2)) ∧ R (ItiG d o xs ws) H1
section
variable {X : Cx} {tg e : Expr} {td : TE} {apos cpos : Pos}
theorem raw_ty {s : Shared} {d : Addr} {o : Obj} {es : Array DictEntry} {ep : Nat} (h : s.heap.get? d = some o) (hx : o.ExactDict) (hdt : o.data = .dict es ep) : s.TypeIs (.ref d) "dict" ∧ ∀ a, Value.ref d = .ref a → ∃ ob, s.heap.get? a = some ob ∧ ob.dict = none :=
  ⟨⟨o, h, hx.1⟩, fun a e => by cases e; exact ⟨o, h, hx.2.1⟩⟩
theorem pi_keysG (he : PE X e td) (hbase : attributeBase e "keys" X.env (eval e X.env) = eval e X.env := by rfl) (hline : (apos.endLine == cpos.line) = true := by rfl) : PI X tg (.Call (.Attribute e "keys" apos) [] [] cpos) (iKeysG td) := by
  refine ⟨fun pins s σ H R I h => ?_⟩
  refine wpAny_Call_method (T := "dict") (id := "dict.keys") hbase rfl hline F.plainAttrs_dict F.slot_dict_keys F.type_dict_keys (thn (he.run pins s σ H _ I h) fun u s1 ⟨x, H1, I1, rx, d, o, xs, ex, hd, q⟩ => ?_)
  subst ex
  obtain rfl : u = Value.ref d := rx
  obtain ⟨hs, hgd, hx, es, ep, hdt, hen⟩ := I1.frzG hd
  have hsz := ent_size hen
  obtain ⟨t1, t2⟩ := raw_ty hgd hx hdt
  refine ⟨t1, t2, ?_⟩
  have I2 : Inv X pins σ H1 { s1 with heap := s1.heap.push { cls := .type "dict_keys", data := .fields #[.ref d] } } := I1.kept (t' := s1.toks) fun b ob q => Heap.get?_push_of_some _ q
  have fin : wpAny (model X.prog X.w) X.A (pyIter (.ref s1.heap.objs.size)) (PIE X pins σ tg R) X.xe { s1 with heap := s1.heap.push { cls := .type "dict_keys", data := .fields #[.ref d] } } := by
    refine wpAny_pyIter_keys_raw (d := d) ⟨_, Heap.get?_push_size _ rfl, rfl, rfl⟩ ⟨o, Heap.get?_push_of_some _ hgd, hx, hdt⟩ (pi_one (tk := s1.toks) I2 _ (turn_keysG _ hdt) ⟨_, Heap.get?_push_size _ rfl, rfl, ?_⟩ q)
    rw [hsz] <;> rfl
  show wpAny _ _ (callWith cpos (.builtin "dict.keys") [.ref d] [] []) _ X.xe s1
  exact method_meetsIn F.slot_dict_keys F.entry_dict_keys rfl (PySem.evalArgs_none ⟨rfl, t1, F.args_dict_keys_1 _, _, meets_dict_keys_raw d hs, ⟨es, ep, o, hgd, hx, hdt⟩, fin⟩)
theorem pi_itemsG {elts : List Expr} {kk : Nat} {tpos : Pos} (he : PE X e td) (hbase : attributeBase e "items" X.env (eval e X.env) = eval e X.env := by rfl) (hline : (apos.endLine == cpos.line) = true := by rfl) :
    PI X (.Tuple elts kk tpos) (.Call (.Attribute e "items" apos) [] [] cpos) (iItemsG td) := by
  refine ⟨fun pins s σ H R I h => ?_⟩
  refine wpAny_Call_method (T := "dict") (id := "dict.items") hbase rfl hline F.plainAttrs_dict F.slot_dict_items F.type_dict_items (thn (he.run pins s σ H _ I h) fun u s1 ⟨x, H1, I1, rx, d, o, xs, ws, ex, hd, hw, q⟩ => ?_)
  subst ex
  obtain rfl : u = Value.ref d := rx
  obtain ⟨hs, hgd, hx, es, ep, hdt, hen⟩ := I1.frzG hd
  have hsz := ent_size hen
  obtain ⟨t1, t2⟩ := raw_ty hgd hx hdt
  refine ⟨t1, t2, ?_⟩
  have I2 : Inv X pins σ H1 { s1 with heap := s1.heap.push { cls := .type "dict_items", data := .fields #[.ref d] } } := I1.kept (t' := s1.toks) fun b ob q => Heap.get?_push_of_some _ q
  have fin : wpAny (model X.prog X.w) X.A (pyIter (.ref s1.heap.objs.size)) (PIE X pins σ (.Tuple elts kk tpos) R) X.xe { s1 with heap := s1.heap.push { cls := .type "dict_items", data := .fields #[.ref d] } } := by
    refine wpAny_pyIter_items_raw (d := d) ⟨_, Heap.get?_push_size _ rfl, rfl, rfl⟩ ⟨o, Heap.get?_push_of_some _ hgd, hx, hdt⟩ (pi_one (tk := s1.toks) I2 _ (turn_itemsG _ hdt hw) ⟨.none, .none, ?_⟩ q)
    rw [hsz]
    exact Heap.get?_push_size _ rfl
  show wpAny _ _ (callWith cpos (.builtin "dict.items") [.ref d] [] []) _ X.xe s1
  exact method_meetsIn F.slot_dict_items F.entry_dict_items rfl (PySem.evalArgs_none ⟨rfl, t1, F.args_dict_items_1 _, _, meets_dict_items_raw d hs, ⟨es, ep, o, hgd, hx, hdt⟩, fin⟩)
end
end L2
namespace G7
open PySem PySem.Spec
open L2 (V Hp HO St WX TE TS R2 OpR CallR MtR MtM SlR IxR Inv RelV Vals ObjOk Mut upd upd_same upd_ne ne_of_none SqL SqT Cx Room EP VK PE PT PA PI PG PGs PO PS PSs Sp XK It TI TG TGs FnOk thn)
variable [WW]
theorem HasKs.get {F : Hp} : ∀ {xs : List Ent} {ks : List P} {i : Nat} {x : Ent}, HasKs F xs ks → xs[i]? = some x → ∃ k, ks[i]? = some k ∧ HasP F (.ref x.2.1) k
  | _, _, _, _, .nil, e => by simp at e
  | _, _, 0, _, .cons h1 h2 _, e => by simp at e; subst e; exact ⟨_, rfl, h1⟩
  | _, _, i + 1, x, .cons _ _ t, e => by
    obtain ⟨k, h1, h2⟩ := HasKs.get (i := i) (x := x) t (by simpa using e)
    exact ⟨k, by simpa using h1, h2⟩
theorem itemsL_get : ∀ (ks : List P) (vs : List D) (i : Nat), (itemsL ks vs)[i]? = (ks[i]?).bind fun k => (vs[i]?).map fun v => mkTup [.p k, v]
  | [], vs, i => by simp [itemsL]
  | k :: ks, [], i => by
    simp only [itemsL, List.getElem?_nil, Option.map_none]
    cases (k :: ks)[i]? <;> rfl
  | k :: ks, v :: vs, 0 => by simp [itemsL]
  | k :: ks, v :: vs, i + 1 => by simpa [itemsL] using itemsL_get ks vs i
section
variable {K : PySem.W.Frag} {F0 H0 : Hp} {ρ0 : Rho}
theorem runs_dks {q : Addr} {od : Obj} {xs : List Ent} {ks : List P} (h : F0 q = some (.frz od (gO q xs))) (z : ks.length ≤ sizeLine) (r : HasKs F0 xs ks) : Runs K (.fix (ks.map .p)) (L2.ItkG q od xs) F0 H0 ρ0 := by
  intro i F H ρ s e st
  have hH : H q = some (.frz od (gO q xs)) := st.sub _ _ (e.f _ _ h)
  have hl := r.length
  refine ⟨fun g => ?_, fun d g => ?_⟩
  · have g : (ks.map D.p)[i]? = none := Option.some.inj g
    rw [List.getElem?_eq_none_iff, List.length_map] at g
    exact ⟨hH, by omega⟩
  · have g : (ks.map D.p)[i]? = some d := Option.some.inj g
    have hi : i < ks.length := by
      have := (List.getElem?_eq_some_iff.mp g).1
      simpa using this
    refine ⟨Nat.lt_of_lt_of_le hi z, ⟨hH, by omega⟩, fun x H' y => ?_⟩
    obtain ⟨rfl, x, hx, rfl⟩ := y
    obtain ⟨k, hk, hp⟩ := r.get hx
    rw [List.getElem?_map, hk] at g
    cases g
    exact ⟨F, Ext.refl F H' ρ, st, .p (HasP.mono e.f _ _ hp)⟩
theorem runs_dit {q : Addr} {od : Obj} {xs : List Ent} {ks : List P} {ws : List V} {ds : List D} (h : F0 q = some (.frz od (gO q xs))) (z : ks.length ≤ sizeLine) (r : HasKs F0 xs ks) (w : Vals ws (xs.map (·.2.2))) (hs : HasDs K F0 ρ0 ws ds) :
    Runs K (.fix (itemsL ks ds)) (L2.ItiG q od xs ws) F0 H0 ρ0 := by
  intro i F H ρ s e st
  have hH : H q = some (.frz od (gO q xs)) := st.sub _ _ (e.f _ _ h)
  have hl := r.length
  have hl2 : ws.length = xs.length := by rw [w.length, List.length_map]
  have hl3 := hs.length
  refine ⟨fun g => ?_, fun d g => ?_⟩
  · have g : (itemsL ks ds)[i]? = none := Option.some.inj g
    rw [itemsL_get] at g
    refine ⟨hH, Classical.byContradiction fun hn => ?_⟩
    rw [List.getElem?_eq_getElem (show i < ks.length by omega), List.getElem?_eq_getElem (show i < ds.length by omega)] at g
    cases g
  · have g : (itemsL ks ds)[i]? = some d := Option.some.inj g
    rw [itemsL_get] at g
    have hi : i < ks.length := Classical.byContradiction fun hn => by
      rw [List.getElem?_eq_none (by omega)] at g
      cases g
    refine ⟨Nat.lt_of_lt_of_le hi z, ⟨hH, by omega⟩, fun x H' y => ?_⟩
    obtain ⟨T, x, v, hx, hv, rfl, hT, rfl⟩ := y
    obtain ⟨k, hk, hp⟩ := r.get hx
    obtain ⟨dv, hdv, hd⟩ := hs.getV hv
    rw [hk, hdv] at g
    cases g
    refine ⟨upd F T (.tup [.ref x.2.1, v]), st.xnew hT, st.new hT, ?_⟩
    have ex := st.xnew (o := HO.tup [.ref x.2.1, v]) hT
    exact HasD.mkTup upd_same (by show 2 ≤ sizeLine; decide) (.cons (.p (HasP.mono (e.f.trans ex.f) _ _ hp)) (.cons (HasD.mono (e.trans ex) _ _ hd) .nil))
end
section
variable {T : Tabs} {G : Fns} {k : Nat} {c : Ct} {W : WX} {X : Cx} {xc : Nat → Value} {a b d : Expr} {fa fb fc : Sl → Sto → R D} {pos : Pos}
theorem dct_frz {K : PySem.W.Frag} {F : Hp} {ρ : Rho} {v : V} {ks : List P} {ds : List D} (hd : HasD K F ρ v (.dct ks ds)) :
    ∃ q od xs ws, v = .ref q ∧ F q = some (.frz od (gO q xs)) ∧ HasKs F xs ks ∧ Vals ws (xs.map (·.2.2)) ∧ HasDs K F ρ ws ds ∧ ks.length ≤ sizeLine := by
  cases hd with
  | @dct a od xs ws _ _ h n z r w q => exact ⟨a, od, xs, ws, rfl, h, r, w, q, z⟩
theorem s_dks {tg : Expr} {p : Pos} (hline : (p.endLine == pos.line) = true) (ha : PE X a (tE X.K xc W fa)) (hp : plainE a = true) : PI X tg (.Call (.Attribute a "keys" p) [] [] pos) (tI X.K xc W fun σ s => (fa σ s).bind fun d s => (match d with
    | .dct ks _ => .ok (.fix (ks.map .p)) s
    | _ => .bad)) := by
  refine PI.imp (L2.pi_keysG ha (base1 hp) hline) fun σ H R ⟨F, ρ, τ, s, st, sl, h⟩ => ⟨F, ρ, τ, s, st, sl, h.bind.imp fun d s1 F1 H1 ρ1 e1 st1 h1 x hx => ?_⟩
  split at h1
  · obtain ⟨q, od, xs, ws, rfl, hF, r, w, hs, z⟩ := dct_frz hx
    exact ⟨q, od, xs, rfl, st1.sub _ _ hF, h1.now st1 _ (runs_dks hF z r)⟩
  · exact h1.elim
theorem s_dit {tg : Expr} {p : Pos} (ht : isTupE tg = true) (hline : (p.endLine == pos.line) = true) (ha : PE X a (tE X.K xc W fa)) (hp : plainE a = true) : PI X tg (.Call (.Attribute a "items" p) [] [] pos) (tI X.K xc W fun σ s => (fa σ s).bind fun d s => (match d with
    | .dct ks vs => .ok (.fix (itemsL ks vs)) s
    | _ => .bad)) := by
  cases tg with
  | Tuple elts kk tpos =>
    refine PI.imp (L2.pi_itemsG ha (base1 hp) hline) fun σ H R ⟨F, ρ, τ, s, st, sl, h⟩ => ⟨F, ρ, τ, s, st, sl, h.bind.imp fun d s1 F1 H1 ρ1 e1 st1 h1 x hx => ?_⟩
    split at h1
    · obtain ⟨q, od, xs, ws, rfl, hF, r, w, hs, z⟩ := dct_frz hx
      exact ⟨q, od, xs, ws, rfl, st1.sub _ _ hF, w, h1.now st1 _ (runs_dit hF z r w hs)⟩
    · exact h1.elim
  | _ => cases ht
end
end G7

/-! a table of the module: .get; list(d.values()) -/
namespace G7
open PySem PySem.Spec
open L2 (V Hp HO St WX TE TS R2 OpR CallR MtR MtM SlR IxR Inv RelV Vals ObjOk Mut upd upd_same upd_ne ne_of_none SqL SqT Cx Room EP VK PE PT PA PI PG PGs PO PS PSs Sp XK It TI TG TGs FnOk thn)
variable [WW]
section
variable {T : Tabs} {G : Fns} {k : Nat} {c : Ct} {W : WX} {X : Cx} {xc : Nat → Value} {a b d : Expr} {fa fb fc : Sl → Sto → R D} {pos : Pos}
theorem mt_kget {dd : Addr} {es : Array DictEntry} {n : Nat} (D : L2.KDict X.K X.w dd es n) : MtR X "dict.get" (fun x xs H Q => ∃ (z : Str) (y : V) (r : Option Value), x = .ref dd ∧ xs = [.str z, y] ∧ PySem.W.nsIn X.K dd z = some r ∧ ((r = none ∧ Q y H) ∨ ∃ u v, r = some u ∧ RelV v u ∧ Q v H)) := by
  intro pins s σ H x xs v us Q I rx rxs h
  obtain ⟨z, y, r, rfl, rfl, e, q⟩ := h
  obtain ⟨uy, uz, rfl, ry, rz⟩ := rxs.two
  cases rx
  obtain ⟨t, rfl⟩ := ry
  have dm := PySem.W.mapOf_K (prog := X.prog) (w := X.w) I.kIn D.at_ D.lit
  refine call_meetsIn PySem.F.slot_dict_get dm.typeIs PySem.F.entry_dict_get (PySem.F.args_dict_get_3 _ _ _) (meets_dict_get_default (strKind X.prog X.w) dd (PySem.strKind_is X.prog X.w z t) D.low uz) ⟨_, dm, ?_⟩
  rw [PySem.W.find_K D.at_ e]
  rcases q with ⟨rfl, q⟩ | ⟨u, w, rfl, rw_, q⟩
  · exact ⟨y, H, I.tok _, rz, q⟩
  · exact ⟨w, H, I.tok _, rw_, q⟩
theorem XE.tabAt (hX : XE T G k c W X) {x y : Str} {kvs : List (Str × Int)} (h1 : x = y) (h2 : T.dts.any (fun z => decide (z = (x, kvs))) = true) :
    ∃ dd es n, X.mg y = some (.ref dd) ∧ L2.KDict X.K X.w dd es n ∧ ∀ z, match kvs.lookup z with | some i => ∃ t, PySem.W.nsIn X.K dd z = some (some (.int i t)) | none => PySem.W.nsIn X.K dd z = some none := by
  obtain ⟨q, hq, e⟩ := List.any_eq_true.mp h2
  have e := of_decide_eq_true e
  subst e; subst h1
  obtain ⟨dd, es, n, h1, h2, h3⟩ := hX.tab _ hq
  rw [hX.ww] at h2
  exact ⟨dd, es, n, h1, h2, h3⟩
theorem s_tget (hX : XE T G k c W X) {x y : Str} {kvs : List (Str × Int)} {p1 p : Pos} (hxy : x = y) (hg : isGl c.sc y = true) (ho : okn y = true) (ht : T.dts.any (fun z => decide (z = (x, kvs))) = true) (hline : (p.endLine == pos.line) = true)
    (ha : PE X a (tE X.K xc W fa)) (hp : plainE a = true) (hb : PE X b (tE X.K xc W fb)) (hq : plainE b = true) :
    PE X (.Call (.Attribute (.Name y p1) "get" p) [a, b] [] pos) (tE X.K xc W fun σ s => (fa σ s).bind fun d s => (fb σ s).bind fun e s => tgetD kvs d e s) := by
  obtain ⟨dd, es, n, hm, D, hv⟩ := hX.tabAt hxy ht
  have hs2 := star1 (xs := []) (env := X.env) hq
  have hs1 := star1 (xs := [b]) (env := X.env) hp
  have hA := L2.pa_cons ha (L2.pa_cons hb L2.pa_nil hs2) hs1
  have hpa : ([a, b] : List Expr).all plainE = true := by simp [hp, hq]
  have hN : PE X (.Name y p1) (fun σ H Q => Q (.ref dd) H) := PE.imp (L2.pe_glob (v := .ref dd) (hX.gl hg) hm rfl (okn1 ho).1) fun σ H Q q => q
  refine ⟨fun pins s σ H Q I h => ?_⟩
  have h' : (tE X.K xc W fa) σ H fun x H1 => (tE X.K xc W fb) σ H1 fun y H2 => ∃ (z : Str) (r : Option Value), x = .str z ∧ PySem.W.nsIn X.K dd z = some r ∧ ((r = none ∧ Q y H2) ∨ ∃ u v, r = some u ∧ RelV v u ∧ Q v H2) := by
    refine t_two (r := fun x y H2 Q => ∃ (z : Str) (r : Option Value), x = .str z ∧ PySem.W.nsIn X.K dd z = some r ∧ ((r = none ∧ Q y H2) ∨ ∃ u v, r = some u ∧ RelV v u ∧ Q v H2)) h fun x y d e F H ρ s st hx hy h => ?_
    unfold tgetD at h
    split at h
    · rename_i z
      cases hx with | p hx =>
      cases hx
      have hz := hv z
      cases hl : kvs.lookup z with
      | some i =>
        rw [hl] at h hz
        obtain ⟨t, ht⟩ := hz
        exact ⟨z, _, rfl, ht, .inr ⟨_, .int i, rfl, ⟨t, rfl⟩, h.now st _ (.p (.int i))⟩⟩
      | none =>
        rw [hl] at h hz
        exact ⟨z, _, rfl, hz, .inl ⟨rfl, h.now st _ hy⟩⟩
    · exact h.elim
  refine wpAny_Call_method_late (base1 (o := .Name y p1) rfl) (few hpa (by simp)) hline rfl (thn (hN.run pins s σ H (fun v H1 => v = .ref dd ∧ H1 = H) I ⟨rfl, rfl⟩) fun v s1 ⟨x, H1, I1, r1, e1, e2⟩ => ?_)
  subst e1; subst e2
  cases r1
  refine ⟨"dict", "dict.get", PySem.F.plainAttrs_dict, PySem.F.slot_dict_get, PySem.F.type_dict_get, L2.kd_type D I1, fun q e => ?_, ?_⟩
  · cases e
    exact ⟨_, I1.kIn _ _ D.at_, rfl⟩
  · have hA2 := hA.run pos pins s1 σ H1 (fun xs H2 => ∃ (z : Str) (y : V) (r : Option Value), V.ref dd = .ref dd ∧ xs = [.str z, y] ∧ PySem.W.nsIn X.K dd z = some r ∧ ((r = none ∧ Q y H2) ∨ ∃ u v, r = some u ∧ RelV v u ∧ Q v H2)) I1 ?_
    · rw [star1 hp] at hA2 ⊢
      refine Calls.callWith_builtin (by show (false || (backTo pos (starEach [b] X.env)).any (·.1)) = false; rw [star_all (by simp [hq])]; rfl) (Calls.evalArgs_plain ?_)
      exact thn hA2 fun us s2 ⟨vs, H2, I2, r2, q2⟩ => mt_kget D pins s2 σ H2 (.ref dd) vs _ us Q I2 rfl r2 q2
    · obtain ⟨F, ρ, τ, s, st, sl, h'⟩ := h'
      refine ⟨F, ρ, τ, s, st, sl, h'.imp fun d s1 F1 H1 ρ1 e1 st1 h1 x hx => ?_⟩
      obtain ⟨F2, ρ2, τ2, s2, st2, sl2, h2⟩ := h1 x hx
      refine ⟨F2, ρ2, τ2, s2, st2, sl2, h2.imp fun d s3 F3 H3 ρ3 e3 st3 h3 y hy => ?_⟩
      obtain ⟨z, r, e1, e2, e3⟩ := h3 y hy
      exact ⟨z, y, r, rfl, by rw [e1], e2, e3⟩
/-! ### list(d.values()) -/
def vO (v d : Addr) : HO := .ext fun h => h.IsValuesView v d
theorem pe_values (hw : WW.w = X.w) {e : Expr} {td : TE} {apos cpos : Pos} (he : PE X e td) (hbase : attributeBase e "values" X.env (eval e X.env) = eval e X.env) (hline : (apos.endLine == cpos.line) = true) :
    PE X (.Call (.Attribute e "values" apos) [] [] cpos) (fun σ H Q => td σ H fun x H1 => ∃ d xs, x = .ref d ∧ GD H1 d xs ∧ ∀ v, H1 v = none → Q (.ref v) (upd H1 v (vO v d))) := by
  refine ⟨fun pins s σ H Q I h => ?_⟩
  refine wpAny_Call_method (T := "dict") (id := "dict.values") hbase rfl hline PySem.F.plainAttrs_dict PySem.F.slot_dict_values PySem.F.type_dict_values (thn (he.run pins s σ H _ I h) fun u s1 ⟨x, H1, I1, rx, d, xs, ex, g, q⟩ => ?_)
  subst ex
  obtain rfl : u = Value.ref d := rx
  obtain ⟨hs, o, es, ep, hgd, hx, hdt, he', _, _⟩ := g.dict hw I1
  obtain ⟨t1, t2⟩ := L2.raw_ty hgd hx hdt
  refine ⟨t1, t2, ?_⟩
  show wpAny _ _ (callWith cpos (.builtin "dict.values") [.ref d] [] []) _ X.xe s1
  refine method_meetsIn PySem.F.slot_dict_values PySem.F.entry_dict_values rfl (PySem.evalArgs_none ⟨rfl, t1, PySem.F.args_dict_values_1 _, _, meets_dict_values_raw d hs, ⟨es, ep, o, hgd, hx, hdt⟩, ?_⟩)
  have hv : (s1.heap.push { cls := .type "dict_values", data := .fields #[.ref d] }).IsValuesView s1.heap.objs.size d := ⟨_, Heap.get?_push_size _ rfl, rfl, rfl⟩
  have new : ObjOk X.prog X.w (upd H1 s1.heap.objs.size (vO s1.heap.objs.size d)) (s1.heap.push { cls := .type "dict_values", data := .fields #[.ref d] }) s1.heap.objs.size (vO s1.heap.objs.size d) :=
    ⟨hv, let ⟨o, ho, _⟩ := hv; ⟨o, ho⟩, fun h1 h2 ⟨o, ho, r⟩ kp => ⟨o, kp o ho, r⟩⟩
  exact ⟨.ref s1.heap.objs.size, _, I1.laid (t' := s1.toks) (fun _ _ q => Heap.get?_push_of_some _ q) (Nat.le_refl _) new, rfl, q _ (I1.hok.fresh (Nat.le_refl _))⟩
theorem cr_listV (hw : WW.w = X.w) (hc : X.calm = true) : CallR X (.type "list") (fun vs H Q => ∃ v d xs ws, vs = [.ref v] ∧ H v = some (vO v d) ∧ GD H d xs ∧ Vals ws (xs.map (·.2.2)) ∧ ∀ p, H p = none → Q (.ref p) (upd H p (.lst ws))) := by
  intro pins s σ H vs us Q I r h
  obtain ⟨v, d, xs, ws, rfl, hv, g, hws, q⟩ := h
  obtain ⟨u, rfl, rx⟩ := r.one
  cases rx
  obtain ⟨hs, o, es, ep, ho, hx, hdt, he, _, _⟩ := g.dict hw I
  obtain ⟨hvv, _, _⟩ := I.hok v _ hv
  have l1 : es.size = xs.length := by rw [← Array.length_toList, he, List.length_map]
  have hz := g.sz
  have hl := hws.length
  rw [List.length_map] at hl
  refine PySem.W.kdl_call (KdlSrc.rawValues (r := v) (d := d) (es := es) (ep := ep)) (I.ok.hd hc) ⟨hvv, o, ho, hx, hdt⟩ (by omega) fun h' tk acc' c' kp e it => ?_
  have ea : acc'.toList = xs.map (·.2.2) := by
    have hl : acc'.toList.length = xs.length := by rw [Array.length_toList, it.1]; exact l1
    refine List.ext_getElem (by rw [List.length_map]; exact hl) fun j h1 h2 => ?_
    have hj : j < xs.length := by omega
    obtain ⟨hi, hvj⟩ := it.2 j acc'.toList[j] (by rw [← Array.getElem?_toList, List.getElem?_eq_getElem h1])
    have qe := entry_at he j
    rw [Array.getElem?_eq_getElem hi, List.getElem?_eq_getElem hj] at qe
    have qe := Option.some.inj qe
    rw [hvj, qe, List.getElem_map]
    rfl
  refine ⟨.ref s.heap.objs.size, _, I.laid (t' := tk) (o := .lst ws) kp (Nat.le_refl _) ?_, rfl, q _ (I.hok.fresh (Nat.le_refl _))⟩
  exact ⟨by omega, acc'.toList, c', by rw [ea]; exact hws, by rw [Array.toArray_toList]; exact e⟩
theorem l_dvl (hX : XE T G k c W X) {x : Str} {p p1 q1 : Pos} (hx : x = "list") (hf : T.free c x = true) (hline : (p1.endLine == q1.line) = true) (ha : PE X a (tE X.K xc W fa)) (hp : plainE a = true) :
    PE X (.Call (.Name x p) [.Call (.Attribute a "values" p1) [] [] q1] [] pos) (tL X.K xc W fun σ s => (fa σ s).bind fun d s => dvlD d s) := by
  obtain ⟨hg, hm, hd, hn⟩ := hX.isFree hf
  subst hx
  have hs := star1 (xs := []) (env := X.env) (x := .Call (.Attribute a "values" p1) [] [] q1) rfl
  refine PE.imp (L2.pe_callTy (cr_listV hX.ww hX.calm) hg hm (by decide +kernel) (L2.pa_cons (pe_values hX.ww ha (base1 hp) hline) L2.pa_nil hs) hn hd hs rfl) fun σ H Q ⟨F, ρ, τ, s, st, sl, h⟩ => ?_
  refine ⟨F, ρ, τ, s, st, sl, h.bind.imp fun d s1 F1 H1 ρ1 e1 st1 h1 x hx => ?_⟩
  unfold dvlD at h1
  split at h1
  · rename_i ks ds
    obtain ⟨ps, hps, h1⟩ := h1.of
    obtain ⟨q, od, xs, ws, rfl, hF, g, r, w, hs, z⟩ := fd_sees st1 hx
    refine ⟨q, xs, rfl, g, fun v hv => ?_⟩
    have tn : ∀ a vs, H1 a = some (.tup vs) → upd H1 v (vO v q) a = some (.tup vs) := fun a vs e => by rw [upd_ne (ne_of_none e hv)]; exact e
    have hqv : q ≠ v := fun e => by rw [e] at hF; rw [st1.sub _ _ hF] at hv; cases hv
    have g' : GD (upd H1 v (vO v q)) q xs := ⟨by
      rcases g.o with h | ⟨od, h⟩
      · exact .inl (by rw [upd_ne hqv]; exact h)
      · exact .inr ⟨od, by rw [upd_ne hqv]; exact h⟩, fun x hx => ⟨NK.mono tn _ _ (g.ks x hx).1, (g.ks x hx).2⟩, g.nd, g.sz⟩
    refine ⟨v, q, xs, ws, rfl, upd_same, g', w, fun p hp => ?_⟩
    have hl := allP_len hps
    have hl2 := hs.length
    have hl3 := w.length
    have hl4 := r.length
    rw [List.length_map] at hl3
    exact h1 _ _ _ (st1.xskip hv) (st1.skip hv) p ws hp (by omega) (allP_has hps hs)
  · exact h1.elim
end
end G7

/-! sets whose members are nested tuples: the table is searched -/
namespace G7N
open PySem PySem.Spec PyProof.Rows
open L2 (TabOk way nth runAt adv MaskOk)
/-- at b stands the tuple that k tells -/
abbrev KI (h : Heap) (k : NestedKey) (b : Addr) : Prop := NestedIs h k (.ref b) ∧ k.depth ≤ 8
theorem KI.ty {st : Shared} {k : NestedKey} {b : Addr} (x : KI st.heap k b) : st.TypeIs (.ref b) "tuple" := by
  obtain ⟨x, _⟩ := x
  cases x with
  | tup g c _ _ => exact ⟨_, g, c⟩
theorem KI.at {h h' : Heap} {k : NestedKey} {b : Addr} (x : KI h k b) (q : ∀ c o vs n, h.get? c = some o → o.data = .seq vs n → h'.get? c = some o) : KI h' k b := ⟨NestedIs.at q k _ x.1, x.2⟩
theorem KI.inj {h : Heap} {k k' : NestedKey} {b : Addr} (x : KI h k b) (y : KI h k' b) : k = k' := NestedIs.inj _ _ _ x.1 y.1
section
variable {Pg : Program} {v : World}
/-! ### what the search asks of tuples -/
def NoCls (Pg : Program) (v : World) (st : Shared) (n : Nat) (u : Value) : Prop := ∀ (Z : Around) (Ex : Value → Shared → Prop) (R : Bool → Shared → Prop), R false st → wpAny (model Pg v) Z (ofAClassStatement n u) R Ex st
def ByVal (Pg : Program) (v : World) (st : Shared) (n : Nat) (u : Value) : Prop := ∀ (Z : Around) (Ex : Value → Shared → Prop) (R : Bool → Shared → Prop), (∀ b, R b st) → wpAny (model Pg v) Z (hashByValue n u) R Ex st
theorem noCls_tup {st : Shared} {n m : Nat} {b : Addr} {o : Obj} {us : Array Value} (g : st.heap.get? b = some o) (c : o.cls = .type "tuple") (d : o.data = .seq us m) (all : ∀ u ∈ us.toList, NoCls Pg v st n u) : NoCls Pg v st (n + 1) (.ref b) := fun Z Ex R r => by
  have ty : st.TypeIs (.ref b) "tuple" := ⟨o, g, c⟩
  have tt : (("tuple" : String) == "tuple") = true := by decide
  unfold ofAClassStatement
  refine wpAny_bind (wpAny_typeOf ty ?_)
  dsimp only
  simp only [tt, if_true, Bool.not_true, Bool.false_eq_true, if_false]
  try refine wpAny_bind (wpAny_pure ?_)
  try simp only [Bool.not_true, Bool.false_eq_true, if_false]
  show wpAny _ _ (seqItems? (Value.ref b) >>= _) _ _ st
  refine wpAny_bind (wpAny_seqItems g d ?_)
  dsimp only
  refine wpAny_bind (show wpAny _ _ (forIn us _ _) _ _ st from ?_)
  rw [← Array.forIn_toList]
  refine wpAny_forIn_list _ (fun left acc st1 => acc.1 = none ∧ st1 = st ∧ ∀ u ∈ left, NoCls Pg v st n u) _ ?_ ?_ _ _ ⟨rfl, rfl, all⟩
  · rintro u left acc st1 ⟨e, rfl, more⟩
    refine wpAny_bind (more u List.mem_cons_self _ _ _ ?_)
    simp only [Bool.false_eq_true, if_false]
    exact wpAny_pure ⟨rfl, rfl, fun z hz => more z (List.mem_cons_of_mem _ hz)⟩
  · rintro ⟨q1, q2⟩ st1 ⟨e, rfl, _⟩
    simp only at e
    subst e
    exact wpAny_pure r
theorem byVal_tup {st : Shared} {n m : Nat} {b : Addr} {o : Obj} {us : Array Value} (g : st.heap.get? b = some o) (c : o.cls = .type "tuple") (d : o.data = .seq us m) (all : ∀ u ∈ us.toList, ByVal Pg v st n u) : ByVal Pg v st (n + 1) (.ref b) := fun Z Ex R r => by
  have ty : st.TypeIs (.ref b) "tuple" := ⟨o, g, c⟩
  unfold hashByValue
  refine wpAny_bind (wpAny_specialOf ty F.slot_tuple_hash.lookup ?_)
  show wpAny _ _ (seqItems? (Value.ref b) >>= _) _ _ st
  refine wpAny_bind (wpAny_seqItems g d ?_)
  refine wpAny_bind (show wpAny _ _ (forIn us _ _) _ _ st from ?_)
  rw [← Array.forIn_toList]
  refine wpAny_forIn_list _ (fun left acc st1 => acc.1 = none ∧ st1 = st ∧ ∀ u ∈ left, ByVal Pg v st n u) _ ?_ ?_ _ _ ⟨rfl, rfl, all⟩
  · rintro u left acc st1 ⟨e, rfl, more⟩
    refine wpAny_bind (more u List.mem_cons_self _ _ _ fun b => ?_)
    cases b with
    | true =>
      simp only [Bool.not_true, Bool.false_eq_true, if_false]
      exact wpAny_pure ⟨rfl, rfl, fun z hz => more z (List.mem_cons_of_mem _ hz)⟩
    | false =>
      simp only [Bool.not_false, if_true]
      exact wpAny_pure (wpAny_pure (r false))
  · rintro ⟨q1, q2⟩ st1 ⟨e, rfl, _⟩
    simp only at e
    subst e
    exact wpAny_pure (r true)
mutual
theorem noCls_key : ∀ (k : NestedKey) (u : Value) (n : Nat) (st : Shared), NestedIs st.heap k u → k.depth ≤ n → NoCls Pg v st n u
  | .none, _, n, st, x, _ => by cases x; intro Z Ex R r; cases n <;> exact wpAny_pure r
  | .num i, _, n, st, x, _ => by cases x <;> (intro Z Ex R r; cases n <;> exact wpAny_pure r)
  | .text y, _, n, st, x, _ => by cases x; intro Z Ex R r; cases n <;> exact wpAny_pure r
  | .tup ks, _, n, st, x, hn => by
    cases x with
    | tup g c d q =>
      simp only [NestedKey.depth] at hn
      cases n with
      | zero => omega
      | succ n => exact noCls_tup g c d (noCls_keys ks _ n st q (by omega))
theorem noCls_keys : ∀ (ks : List NestedKey) (us : List Value) (n : Nat) (st : Shared), NestedAll st.heap ks us → NestedKey.depthAll ks ≤ n → ∀ u ∈ us, NoCls Pg v st n u
  | [], _, n, st, x, _, u, hu => by cases x; cases hu
  | k :: ks, _, n, st, x, hn, u, hu => by
    cases x with
    | cons x1 x2 =>
      simp only [NestedKey.depthAll] at hn
      rcases List.mem_cons.mp hu with e | hu
      · rw [e]; exact noCls_key k _ n st x1 (by omega)
      · exact noCls_keys ks _ n st x2 (by omega) u hu
end
mutual
theorem byVal_key : ∀ (k : NestedKey) (u : Value) (n : Nat) (st : Shared), NestedIs st.heap k u → ByVal Pg v st n u
  | .none, _, n, st, x => by cases x; intro Z Ex R r; cases n <;> exact wpAny_pure (r _)
  | .num i, _, n, st, x => by cases x <;> (intro Z Ex R r; cases n <;> exact wpAny_pure (r _))
  | .text y, _, n, st, x => by cases x; intro Z Ex R r; cases n <;> exact wpAny_pure (r _)
  | .tup ks, _, n, st, x => by
    cases x with
    | tup g c d q =>
      cases n with
      | zero => intro Z Ex R r; exact wpAny_pure (r _)
      | succ n => exact byVal_tup g c d (byVal_keys ks _ n st q)
theorem byVal_keys : ∀ (ks : List NestedKey) (us : List Value) (n : Nat) (st : Shared), NestedAll st.heap ks us → ∀ u ∈ us, ByVal Pg v st n u
  | [], _, n, st, x, u, hu => by cases x; cases hu
  | k :: ks, _, n, st, x, u, hu => by
    cases x with
    | cons x1 x2 =>
      rcases List.mem_cons.mp hu with e | hu
      · rw [e]; exact byVal_key k _ n st x1
      · exact byVal_keys ks _ n st x2 u hu
end
variable {Z : Around} {Ex : Value → Shared → Prop} {st : Shared}
theorem unseen {k : NestedKey} {b : Addr} {R : Bool → Shared → Prop} (x : KI st.heap k b) {ys : List Value} (all : ∀ y ∈ ys, ∃ k' c, y = Value.ref c ∧ KI st.heap k' c) (r : R false st) : wpAny (model Pg v) Z (searchCouldBeSeen (.ref b) ys) R Ex st := by
  unfold searchCouldBeSeen
  refine wpAny_bind (wpAny_forIn_list _ (fun left acc st1 => acc.1 = none ∧ st1 = st ∧ ∀ y ∈ left, ∃ k' c, y = Value.ref c ∧ KI st.heap k' c) _ ?_ ?_ _ _ ⟨rfl, rfl, all⟩)
  · rintro u left acc st1 ⟨e, rfl, more⟩
    obtain ⟨k', c, rfl, y⟩ := more u List.mem_cons_self
    have on := fun z hz => more z (List.mem_cons_of_mem _ hz)
    dsimp only
    by_cases same : (b == c || (carriedByValue (.ref b) && carriedByValue (.ref c))) = true
    · exact L2.wp_if_pos same (wpAny_pure ⟨rfl, rfl, on⟩)
    · refine L2.wp_if_neg same (wpAny_bind ((nestedKind Pg v).quiet x ?_))
      simp only [Bool.not_true, Bool.false_eq_true, if_false]
      refine wpAny_bind ((nestedKind Pg v).quiet y ?_)
      simp only [Bool.not_true, Bool.false_eq_true, if_false]
      refine wpAny_bind (noCls_key _ _ 8 _ x.1 x.2 _ _ _ ?_)
      simp only [Bool.false_eq_true, if_false]
      refine wpAny_bind (noCls_key _ _ 8 _ y.1 y.2 _ _ _ ?_)
      simp only [Bool.false_eq_true, if_false]
      exact wpAny_pure ⟨rfl, rfl, on⟩
  · rintro ⟨q1, q2⟩ st1 ⟨e, rfl, _⟩
    simp only at e
    subst e
    exact wpAny_pure r

/-! ### the set -/
abbrev En := Addr × NestedKey
def en (v : World) (L : List En) : List (Int × Value) := L.map fun p => (p.2.hash v, Value.ref p.1)
theorem en_len (L : List En) : (en v L).length = L.length := List.length_map ..
/-- at a stands a set of the tuples L, in the table's order -/
structure SN (v : World) (h : Heap) (a : Addr) (L : List En) (es : Array (Int × Value)) (ep : Nat) (t : SetTable) : Prop where
  ob : ∃ o, h.get? a = some o ∧ o.ExactSet ∧ o.data = .set es ep t
  ent : es.toList = en v L
  tab : TabOk t (L.map fun p => p.2.hash v)
  one : (L.map (·.2)).Nodup
  key : ∀ p ∈ L, KI h p.2 p.1
  led : v.params.followText "set-order" = true ∨ t.led = true
  spare : L.length * 5 < t.mask * 3
  few : L.length < 64
variable {a : Addr} {L : List En} {es : Array (Int × Value)} {ep : Nat} {t : SetTable}
theorem SN.sz {h : Heap} (S : SN v h a L es ep t) : es.size = L.length := by
  rw [← Array.length_toList, S.ent, en_len]
theorem SN.fit {h : Heap} (S : SN v h a L es ep t) : t.fits es.size = true := by
  have q1 := S.tab.sz
  have q2 := S.spare
  rw [List.length_map] at q1
  unfold SetTable.fits SetTable.fill
  rw [S.tab.dm, Bool.and_eq_true, beq_iff_eq, decide_eq_true_eq, S.sz]
  exact ⟨q1, show t.place.size + 0 ≤ t.mask by omega⟩
theorem SN.nth {h : Heap} (S : SN v h a L es ep t) {i : Nat} {p : En} (e : L[i]? = some p) : es[i]? = some (p.2.hash v, Value.ref p.1) := by
  rw [← Array.getElem?_toList, S.ent, en, List.getElem?_map, e]; rfl
theorem SN.whole {h : Heap} (S : SN v h a L es ep t) : ¬ t.gaveWay = true := by
  unfold SetTable.gaveWay
  rw [L2.mask_odd S.tab.mok]
  decide
theorem nth_nd (m : Nat) : ∀ (n : Nat) (p : SetTable.Probe), p.dummy = none → (nth m p n).dummy = none
  | 0, _, h => h
  | n + 1, p, h => nth_nd m n (adv m p) (by unfold adv; split <;> exact h)
/-- where the way of a hash begins -/
abbrev beg (m : Nat) (e : Int) : SetTable.Probe := runAt m (SetTable.bits e % (m + 1)) (SetTable.bits e)
theorem hunt (S : SN v st.heap a L es ep t) {x : Addr} {k : NestedKey} (kx : KI st.heap k x) (hu : Z.units + 8 < cLine) {e : Int} (he : e = k.hash v) {T : Nat} (hT : T < 10 * SetTable.turns t.mask)
    (free : way t.mask e T ∉ t.place.toList) (taken : ∀ c, c < T → way t.mask e c ∈ t.place.toList) {R : SetFound → Shared → Prop}
    (yes : k ∈ L.map (·.2) → R (.there none) st) (no : k ∉ L.map (·.2) → R (.free (way t.mask e T) false) st) :
    ∀ (f c : Nat) (at? : Option SetTable.Probe), at?.getD (t.probeStart e) = nth t.mask (beg t.mask e) c → c ≤ T → T - c < f →
      (∀ (i : Nat) p, L[i]? = some p → p.2 = k → ∃ d, c ≤ d ∧ d < T ∧ t.place.toList[i]? = some (way t.mask e d)) →
      wpAny (model Pg v) Z (setSearchFrom a (.ref x) e true f at?) R Ex st
  | 0, _, _, _, _, hf, _ => absurd hf (Nat.not_lt_zero _)
  | f + 1, c, at?, hat, hc, hf, ahead => by
    obtain ⟨o, go, gx, gd⟩ := S.ob
    rw [L2.setSearchFrom_succ]
    refine wpAny_bind (wpAny_setState_of go gd S.fit ?_)
    dsimp only
    refine L2.wp_if_neg S.whole ?_
    try refine wpAny_bind (wpAny_pure ?_)
    have on : ∀ q, nth t.mask (nth t.mask (beg t.mask e) c) q = nth t.mask (beg t.mask e) (c + q) := fun q => (L2.nth_add t.mask c _ q).symm
    have wj : ∀ q, (nth t.mask (nth t.mask (beg t.mask e) c) q).j = way t.mask e (c + q) := fun q => congrArg SetTable.Probe.j (on q)
    have toT : c + (T - c) = T := by omega
    have told := L2.go_spec t S.tab.ris S.tab.dm (fun i => (es[i]?.map (·.1)).getD 0) e (10 * SetTable.turns t.mask) (T - c) _ (nth_nd t.mask c (beg t.mask e) rfl) (by omega)
      (fun q hq => by rw [wj]; exact taken (c + q) (by omega)) (by rw [wj, toT]; exact free)
    have hx : ∀ (i : Nat) p, L[i]? = some p → (fun i => (es[i]?.map (·.1)).getD 0) i = p.2.hash v := fun i p hp => by
      show (es[i]?.map (·.1)).getD 0 = _
      rw [S.nth hp]; rfl
    rcases told with ⟨q, i, hq, hi, _, before, pr⟩ | ⟨before, pr⟩
    · have pr2 : t.probe (fun i => (es[i]?.map (·.1)).getD 0) e (at?.getD (t.probeStart e)) = some (.candidate (way t.mask e (c + q)) i (nth t.mask (beg t.mask e) (c + (q + 1)))) := by
        rw [hat, ← wj, ← on]; exact pr
      rw [pr2]
      dsimp only
      rw [wj] at hi
      have il : i < L.length := by
        have z1 := (List.getElem?_eq_some_iff.mp hi).1
        have z2 := S.tab.sz
        rw [List.length_map] at z2
        rw [Array.length_toList] at z1
        omega
      obtain ⟨p, hp⟩ : ∃ p, L[i]? = some p := ⟨_, List.getElem?_eq_getElem il⟩
      have pm : p ∈ L := List.mem_of_getElem? hp
      have rest : wpAny (model Pg v) Z (L2.searchRest a (.ref x) e true f es t (way t.mask e (c + q)) i (nth t.mask (beg t.mask e) (c + (q + 1)))) R Ex st := by
        unfold L2.searchRest
        rw [S.nth hp]
        dsimp only
        refine wpAny_bind (wpAny_holding ((nestedKind Pg v).eqBool (show Z.units + 8 < cLine from hu) (S.key p pm) kx ?_))
        refine wpAny_bind (wpAny_setState_of go gd S.fit ?_)
        dsimp only
        by_cases same : p.2 = k
        · exact L2.wp_if_pos (by simp [same]) (wpAny_pure (yes (List.mem_map.mpr ⟨p, pm, same⟩)))
        · refine L2.wp_if_neg (by simp [same]) ?_
          try refine wpAny_bind (wpAny_pure ?_)
          rw [L2.sameMem]
          dsimp only
          have live : t.slot (way t.mask e (c + q)) = .live i := L2.slot_live S.tab.ris hi
          simp only [if_true, live, S.nth hp]
          refine wpAny_bind (wpAny_isSame_ref_self (wpAny_bind (wpAny_pure ?_)))
          simp only [if_true]
          refine L2.wp_if_neg (by simp [same]) (hunt S kx hu he hT free taken yes no f (c + (q + 1)) _ rfl (by omega) (by omega) fun j r hj hr => ?_)
          obtain ⟨d, d1, d2, d3⟩ := ahead j r hj hr
          refine ⟨d, ?_, d2, d3⟩
          by_cases lo : d < c + q
          · exact absurd ((hx j r hj).trans (by rw [hr, he])) (before (d - c) j (by omega) (by rw [wj, show c + (d - c) = d by omega]; exact d3))
          · by_cases hi2 : c + q < d
            · omega
            · have ed : d = c + q := by omega
              rw [ed] at d3
              have z := L2.slot_live S.tab.ris d3
              rw [live] at z
              injection z with z
              rw [← z, hp] at hj
              exact absurd ((congrArg Prod.snd (Option.some.inj hj)).trans hr) same
      by_cases hl : t.led = true
      · refine L2.wp_if_neg (by simp [hl]) ?_
        try refine wpAny_bind (wpAny_pure ?_)
        exact rest
      · refine L2.wp_if_pos (by simp [hl]) (wpAny_bind (unseen kx (fun y hy => ?_) ?_))
        · obtain ⟨u, hu1, hu2⟩ := List.mem_map.mp hy
          have hu3 : u ∈ es.toList := by
            have : u ∈ es ∧ u.1 = e := by simpa using hu1
            simpa using this.1
          rw [S.ent] at hu3
          obtain ⟨r, hr, hr2⟩ := List.mem_map.mp hu3
          exact ⟨r.2, r.1, by rw [← hu2, ← hr2], S.key r hr⟩
        · refine L2.wp_if_neg (by decide) ?_
          try refine wpAny_bind (wpAny_pure ?_)
          exact rest
    · have pr2 : t.probe (fun i => (es[i]?.map (·.1)).getD 0) e (at?.getD (t.probeStart e)) = some (.empty (way t.mask e T) none) := by
        have z : way t.mask e T = (nth t.mask (nth t.mask (beg t.mask e) c) (T - c)).j := by rw [wj, toT]
        rw [hat, z]; exact pr
      rw [pr2]
      dsimp only
      refine wpAny_pure (no fun hm => ?_)
      obtain ⟨r, hr, er⟩ := List.mem_map.mp hm
      obtain ⟨j, hj, ej⟩ := List.getElem_of_mem hr
      have hj2 : L[j]? = some r := by rw [List.getElem?_eq_getElem hj, ej]
      obtain ⟨d, d1, d2, d3⟩ := ahead j r hj2 er
      exact before (d - c) j (by omega) (by rw [wj, show c + (d - c) = d by omega]; exact d3) ((hx j r hj2).trans (by rw [er, he]))
theorem hunt0 (S : SN v st.heap a L es ep t) {x : Addr} {k : NestedKey} (kx : KI st.heap k x) (hu : Z.units + 8 < cLine) {R : SetFound → Shared → Prop}
    (yes : k ∈ L.map (·.2) → R (.there none) st)
    (no : ∀ T, k ∉ L.map (·.2) → way t.mask (k.hash v) T ∉ t.place.toList → (∀ c, c < T → way t.mask (k.hash v) c ∈ t.place.toList) → R (.free (way t.mask (k.hash v) T) false) st) :
    wpAny (model Pg v) Z (setSearch a (.ref x) (k.hash v) true) R Ex st := by
  have sp := S.spare
  obtain ⟨T, hT, free, taken⟩ := S.tab.first (by rw [List.length_map]; omega) (k.hash v)
  have small : T < 100000 := by
    have : 10 * SetTable.turns t.mask ≤ 1420 := by
      unfold SetTable.turns
      rcases S.tab.mok with z | z | z <;> omega
    omega
  unfold setSearch
  refine hunt S kx hu rfl hT free taken yes (fun n => no T n free taken) 100000 0 none rfl (Nat.zero_le _) (by omega) fun i p hp hk => ?_
  have z1 : i < t.place.toList.length := by
    have := (List.getElem?_eq_some_iff.mp hp).1
    have := S.tab.sz
    rw [List.length_map] at this
    rw [Array.length_toList]; omega
  have z2 : (L.map fun p => p.2.hash v)[i]? = some (k.hash v) := by rw [List.getElem?_map, hp, ← hk]; rfl
  have z3 := List.getElem?_eq_getElem z1
  obtain ⟨d, hd, ed⟩ := S.tab.before free z2 z3
  exact ⟨d, Nat.zero_le _, hd, by rw [z3, ed]⟩
end
end G7N

namespace G7N
open PySem PySem.Spec PyProof.Rows
open L2 (TabOk way nth runAt adv MaskOk)
section
variable {Pg : Program} {v : World} {Z : Around} {Ex : Value → Shared → Prop} {st : Shared} {a : Addr} {L : List En} {es : Array (Int × Value)} {ep : Nat} {t : SetTable}
theorem KI.but {h h' : Heap} {k : NestedKey} {b c : Addr} {o : Obj} (x : KI h k b) (go : h.get? c = some o) (gd : o.data = .set es ep t) (sb : Heap.SameBut c h h') : KI h' k b := x.at fun d u us n hu hd => (sb.2 d fun z => by
  subst z
  rw [go] at hu
  cases hu
  rw [gd] at hd
  cases hd).trans hu
theorem pick_en (M : List En) : ∀ (js : List Nat) (es : Array (Int × Value)), es.toList = en v M → (∀ j ∈ js, j < M.length) →
    js.filterMap (fun j => es[j]?) = en v (js.filterMap fun j => M[j]?) ∧ ((js.filterMap fun j => M[j]?).map fun p => p.2.hash v) = js.map fun j => (es.map (·.1)).getD j 0
  | [], _, _, _ => ⟨rfl, rfl⟩
  | j :: js, es, h, hj => by
    have lj := hj j List.mem_cons_self
    obtain ⟨p1, p2⟩ := pick_en M js es h fun i hi => hj i (List.mem_cons_of_mem _ hi)
    have ej : es[j]? = some (M[j].2.hash v, Value.ref M[j].1) := by
      rw [← Array.getElem?_toList, h, en, List.getElem?_map, List.getElem?_eq_getElem lj]; rfl
    have mj : M[j]? = some M[j] := List.getElem?_eq_getElem lj
    have gj : (es.map (·.1)).getD j 0 = M[j].2.hash v := by
      have : (es.map (·.1))[j]? = some (M[j].2.hash v) := by rw [Array.getElem?_map, ej]; rfl
      simp [Array.getD_eq_getD_getElem?, this]
    rw [List.filterMap_cons_some ej, List.filterMap_cons_some mj, p1, List.map_cons, List.map_cons, p2, gj]
    exact ⟨rfl, rfl⟩
theorem pick_all {α : Type} (M : List α) : (List.range M.length).filterMap (fun j => M[j]?) = M := PySem.List.filterMap_getElem?_range_length M
theorem regrow {o : Obj} (go : st.heap.get? a = some o) (gx : o.ExactSet) (gd : o.data = .set es ep t) (ent : es.toList = en v L) (ps : t.place.size = es.size) (dm : t.dummies = #[]) (fl : es.size ≤ t.mask)
    (one : (L.map (·.2)).Nodup) (key : ∀ p ∈ L, KI st.heap p.2 p.1) (led : v.params.followText "set-order" = true ∨ t.led = true) (few : L.length < 64) {wish M : Nat}
    (hw : SetTable.sizeAbove wish - 1 = M) (hM : MaskOk M) (h128 : SetTable.sizeAbove wish ≤ 128) (sp : L.length * 5 < M * 3) {R : Unit → Shared → Prop}
    (next : ∀ h' L' es' ep' t', Heap.SameBut a st.heap h' → SN v h' a L' es' ep' t' → L'.Perm L → R () { st with heap := h' }) : wpAny (model Pg v) Z (setRelay a wish) R Ex st := by
  have zs : es.size = L.length := by rw [← Array.length_toList, ent, en_len]
  have ft : t.fits es.size = true := by
    unfold SetTable.fits SetTable.fill
    rw [dm, Bool.and_eq_true, beq_iff_eq, decide_eq_true_eq]
    exact ⟨ps, show t.place.size + 0 ≤ t.mask by omega⟩
  obtain ⟨t2, ord, e1, e2, e3, e4, e5, e6, e7⟩ := L2.relaid_ok t (hs := es.map (·.1)) (wanted := wish) hw hM (by rw [Array.size_map, zs]; omega)
  rw [Array.size_map, zs] at e2
  obtain ⟨p1, p2⟩ := pick_en (v := v) L ord.toList es ent fun j hj => List.mem_range.mp (e2.mem_iff.mp hj)
  have pm : (ord.toList.filterMap fun j => L[j]?).Perm L := by
    have := e2.filterMap fun j => L[j]?
    rwa [pick_all] at this
  generalize hLL : ord.toList.filterMap (fun j => L[j]?) = LL at p1 p2 pm
  rw [← p2] at e3
  have ent2 : (ord.filterMap (es[·]?)).toList = en v LL := by first | (rw [Array.toList_filterMap]; exact p1) | simpa using p1
  have zs2 : (ord.filterMap (es[·]?)).size = es.size := by rw [← Array.length_toList, ent2, en_len, pm.length_eq, zs]
  rw [L2.setRelay_eq]
  refine wpAny_bind (wpAny_setState_of go gd ft ?_)
  dsimp only
  refine L2.wp_if_neg (by rw [sizeLine_eq]; omega) ?_
  try refine wpAny_bind (wpAny_pure ?_)
  rw [e1]
  dsimp only
  refine wpAny_bind (L2.wp_if_neg (by rw [zs2]; simp) ?_)
  try refine wpAny_bind (wpAny_pure ?_)
  refine wpAny_pure ?_
  dsimp only
  refine wpAny_storeSet_of go gd ?_ (by rw [zs2, zs, sizeLine_eq]; omega)
  have sb : Heap.SameBut a st.heap (st.heap.update a (Obj.putSet (ord.filterMap (es[·]?)) t2)) := Heap.SameBut.update ..
  exact next _ LL _ (ep + 1) t2 sb ⟨⟨_, L2.store_at go gd, ⟨gx.1, gx.2.1, gx.2.2⟩, rfl⟩, ent2, e3, (pm.map (·.2)).nodup_iff.mpr one, fun p hp => (key p (pm.mem_iff.mp hp)).but go gd sb, by rw [e5]; exact led, by rw [pm.length_eq, e4]; exact sp, by rw [pm.length_eq]; exact few⟩ pm
theorem led_off {t : SetTable} (b : Bool) : (if b = true then t else { t with plain := false } : SetTable).led = t.led := by cases b <;> rfl
theorem tab_off {t : SetTable} {hs : List Int} (b : Bool) (T : TabOk t hs) : TabOk (if b = true then t else { t with plain := false }) hs := by
  cases b
  · exact ⟨T.ris, T.dm, T.sz, T.mok, T.bd, T.reach⟩
  · exact T
theorem add_one (S : SN v st.heap a L es ep t) {x : Addr} {k : NestedKey} (kx : KI st.heap k x) (hu : Z.units + 8 < cLine) (room : L.length + 1 < 64) {R : Bool → Shared → Prop}
    (next : ∀ b h' L' es' ep' t', Heap.SameBut a st.heap h' → SN v h' a L' es' ep' t' → (k ∈ L.map (·.2) → L' = L) → (k ∉ L.map (·.2) → L'.Perm ((x, k) :: L)) → R b { st with heap := h' }) :
    wpAny (model Pg v) Z (setAddHashed a (.ref x) (k.hash v)) R Ex st := by
  obtain ⟨o, go, gx, gd⟩ := S.ob
  have zs := S.sz
  have sp := S.spare
  unfold setAddHashed
  refine wpAny_holding ?_
  rw [show (100000 : Nat) = 99999 + 1 from rfl, L2.setAddHashedIn_succ]
  refine wpAny_bind (wpAny_setState_of go gd S.fit ?_)
  dsimp only
  refine L2.wp_if_neg (by simp [byScan, Value.scannable]) ?_
  try refine wpAny_bind (wpAny_pure ?_)
  refine wpAny_bind (hunt0 S kx hu (fun hm => ?_) fun T hm free taken => ?_)
  · exact wpAny_pure (next false st.heap L es ep t (Heap.SameBut.refl a st.heap) S (fun _ => rfl) fun z => absurd hm z)
  · dsimp only
    refine wpAny_bind (wpAny_setState_of go gd S.fit ?_)
    dsimp only
    obtain ⟨c1, c2, c3, c4, c5, c6, c7, c8, c9⟩ := S.tab.put free taken
    generalize htp : t.put (way t.mask (k.hash v) T) = tp at c1 c3 c4 c5 c6 c7 c8 c9 ⊢
    obtain ⟨t1, at1⟩ := tp
    dsimp only at c1 c3 c4 c5 c6 c7 c8 c9 ⊢
    subst c1
    have go2 : ∀ (f : Bool), wpAny (model Pg v) Z (do
        storeSet a (SetTable.insertAt es (SetTable.below t.place (way t.mask (k.hash v) T)) (k.hash v, Value.ref x)) (if f = true then t1 else { t1 with plain := false })
        if (!false && (if f = true then t1 else { t1 with plain := false } : SetTable).tooFull) = true then setRelay a (SetTable.grown (es.size + 1))
        return true) R Ex st := fun f => by
      have ld2 : (if f = true then t1 else { t1 with plain := false } : SetTable).led = t.led := (led_off f).trans c5
      have tb2 := tab_off f c3
      have mk2 : (if f = true then t1 else { t1 with plain := false } : SetTable).mask = t.mask := by cases f <;> exact c4
      have fl2 : (if f = true then t1 else { t1 with plain := false } : SetTable).fill = (L.map fun p => p.2.hash v).length + 1 := by cases f <;> exact c9
      clear c3 c4 c5 c6 c7 c8 c9 htp
      generalize (if f = true then t1 else { t1 with plain := false } : SetTable) = t2 at *
      generalize hj : SetTable.below t.place (way t.mask (k.hash v) T) = j at *
      have ent1 : (SetTable.insertAt es j (k.hash v, Value.ref x)).toList = en v (L.take j ++ (x, k) :: L.drop j) := by
        rw [SetTable.toList_insertAt, S.ent, en, en, List.map_append, List.map_cons, List.map_take, List.map_drop]
      have pm : (L.take j ++ (x, k) :: L.drop j).Perm ((x, k) :: L) := L2.put_perm L j (x, k)
      have hh : (L.map fun p => p.2.hash v).take j ++ k.hash v :: (L.map fun p => p.2.hash v).drop j = (L.take j ++ (x, k) :: L.drop j).map fun p => p.2.hash v := by
        rw [List.map_append, List.map_cons, List.map_take, List.map_drop]
      rw [hh] at tb2
      have ln : (L.take j ++ (x, k) :: L.drop j).length = L.length + 1 := pm.length_eq
      have one1 : ((L.take j ++ (x, k) :: L.drop j).map (·.2)).Nodup := (pm.map (·.2)).nodup_iff.mpr (List.nodup_cons.mpr ⟨hm, S.one⟩)
      have zs1 : (SetTable.insertAt es j (k.hash v, Value.ref x)).size = L.length + 1 := by rw [← Array.length_toList, ent1, en_len, ln]
      generalize SetTable.insertAt es j (k.hash v, Value.ref x) = es1 at *
      generalize L.take j ++ (x, k) :: L.drop j = L1 at *
      refine wpAny_bind (wpAny_storeSet_of go gd ?_ (by rw [zs1, sizeLine_eq]; omega))
      have sb : Heap.SameBut a st.heap (st.heap.update a (Obj.putSet es1 t2)) := Heap.SameBut.update ..
      have go1 := L2.store_at (es' := es1) (t' := t2) go gd
      generalize st.heap.update a (Obj.putSet es1 t2) = h1 at *
      have key1 : ∀ p ∈ L1, KI h1 p.2 p.1 := fun p hp => by
        rcases List.mem_cons.mp (pm.mem_iff.mp hp) with z | z
        · rw [z]; exact kx.but go gd sb
        · exact (S.key p z).but go gd sb
      have led1 : v.params.followText "set-order" = true ∨ t2.led = true := by rw [ld2]; exact S.led
      rw [List.length_map] at fl2
      by_cases full : t2.tooFull = true
      · have hfull : (L.length + 1) * 5 ≥ t.mask * 3 := by
          have z := full
          unfold SetTable.tooFull at z
          rw [decide_eq_true_eq, fl2, mk2] at z
          exact z
        have ps1 : t2.place.size = es1.size := by
          have z := tb2.sz
          rw [List.length_map, ln] at z
          rw [z, zs1]
        have two : (t.mask = 7 ∧ L.length = 4) ∨ (t.mask = 31 ∧ L.length = 18) := by
          rcases S.tab.mok with z | z | z
          · rw [z] at hfull sp; exact .inl ⟨z, by omega⟩
          · rw [z] at hfull sp; exact .inr ⟨z, by omega⟩
          · rw [z] at hfull; omega
        have grow : ∀ M, SetTable.sizeAbove (SetTable.grown (L.length + 1)) - 1 = M → MaskOk M → SetTable.sizeAbove (SetTable.grown (L.length + 1)) ≤ 128 → (L.length + 1) * 5 < M * 3 →
            wpAny (model Pg v) Z (setRelay a (SetTable.grown (es.size + 1))) (fun _ s' => wpAny (model Pg v) Z (pure true) R Ex s') Ex { st with heap := h1 } := fun M q1 q2 q3 q4 => by
          rw [zs]
          refine regrow (st := { st with heap := h1 }) go1 ⟨gx.1, gx.2.1, gx.2.2⟩ rfl ent1 ps1 tb2.dm (by rw [zs1, mk2]; rcases two with ⟨z1, z2⟩ | ⟨z1, z2⟩ <;> omega) one1 key1 led1 (by rw [ln]; exact room) q1 q2 q3 (by rw [ln]; exact q4) ?_
          intro h2 LL es2 ep2 t3 sb2 S2 pm2
          exact wpAny_pure (next true h2 LL es2 ep2 t3 (sb.trans sb2) S2 (fun z => absurd z hm) fun _ => pm2.trans pm)
        have run : wpAny (model Pg v) Z (setRelay a (SetTable.grown (es.size + 1))) (fun _ s' => wpAny (model Pg v) Z (pure true) R Ex s') Ex { st with heap := h1 } := by
          rcases two with ⟨_, z⟩ | ⟨_, z⟩
          · exact grow 31 (by rw [z, L2.size_20]) (.inr (.inl rfl)) (by rw [z, L2.size_20]; decide) (by omega)
          · exact grow 127 (by rw [z, L2.size_76]) (.inr (.inr rfl)) (by rw [z, L2.size_76]; decide) (by omega)
        first
          | exact wpAny_bind (L2.wp_if_pos (by simp [full]) run)
          | exact L2.wp_if_pos (by simp [full]) (wpAny_bind run)
      · have done : R true { st with heap := h1 } := by
          refine next true h1 L1 es1 (ep + 1) t2 sb ⟨⟨_, go1, ⟨gx.1, gx.2.1, gx.2.2⟩, rfl⟩, ent1, tb2, one1, key1, led1, ?_, by rw [ln]; exact room⟩ (fun z => absurd z hm) fun _ => pm
          have z := full
          unfold SetTable.tooFull at z
          rw [decide_eq_true_eq, fl2, mk2] at z
          rw [ln, mk2]
          omega
        first
          | exact L2.wp_if_neg (by simp [full]) (wpAny_pure done)
          | exact wpAny_bind (L2.wp_if_neg (by simp [full]) (wpAny_pure (wpAny_pure done)))
    by_cases pl : t1.plain = true
    · first
        | (refine wpAny_bind (L2.wp_if_pos pl (byVal_key _ _ 8 _ kx.1 _ _ _ fun f => ?_)); exact go2 f)
        | (refine L2.wp_if_pos pl (wpAny_bind (byVal_key _ _ 8 _ kx.1 _ _ _ fun f => ?_)); exact go2 f)
    · first
        | (refine wpAny_bind (L2.wp_if_neg pl (wpAny_pure ?_)); exact go2 true)
        | (refine L2.wp_if_neg pl (wpAny_bind (wpAny_pure ?_)); exact go2 true)
        | (refine L2.wp_if_neg pl ?_; exact go2 true)
end
end G7N

namespace G7N
open PySem PySem.Spec PyProof.Rows
open L2 (TabOk way Ris)
/-- a set without members, laid anew -/
abbrev new0 (v : World) : Obj := { cls := .type "set", dict := none, data := .set #[] 0 (.fresh 0 0 (!v.params.followText "set-order")) }
section
variable {Pg : Program} {v : World} {Z : Around} {Ex : Value → Shared → Prop} {st : Shared}
/-! ### set.update's loop, J what stands in the set behind so many items -/
theorem fill_loop {I : Addr} {fp wr : List Addr} {G : Array GenState → Array GenState → Prop} {n : Nat} {Pv : Nat → Value → Prop} {St : Nat → Shared → Prop} {R : Result → Shared → Prop}
    (W : WalksS Pg v Z.in1 I fp wr G n Pv St) (a : Addr) (ha : a ∉ fp) (J : Nat → Heap → Prop) (jk : ∀ i h h', J i h → (∀ b o, b ∉ wr → h.get? b = some o → h'.get? b = some o) → J i h')
    (step : ∀ (i : Nat) (u : Value) (s1 : Shared) (Q1 : Bool → Shared → Prop) (E1 : Value → Shared → Prop), i < n → Pv i u → J i s1.heap →
      (∀ b h' tk, s1.toks ≤ tk → Heap.SameBut a s1.heap h' → J (i + 1) h' → Q1 b { s1 with heap := h', toks := tk }) → wpAny (model Pg v) Z.in1 (setAdd a u) Q1 E1 s1) :
    ∀ (k i : Nat) (s : Shared), n - i = k → i ≤ n → St i s → J i s.heap → (∀ s', Moved (a :: wr) G s s' → J n s'.heap → R (.ok (.ret .none)) s') →
      codeAny (model Pg v) Z (.builtin "set.update.loop" ⟨[.ref a, .ref I], []⟩) R s := by
  have aw : a ∉ wr := fun h => ha (W.sub _ h)
  have up : ∀ b ∈ wr, b ∈ a :: wr := fun b hb => List.mem_cons_of_mem _ hb
  intro k
  induction k with
  | zero =>
    intro i s z1 z2 hst hj hR
    obtain rfl : i = n := by omega
    refine codeAny_builtin F.entry_set_update_loop ?_
    rw [Around.under_plainId F.plain_set_update_loop _]
    refine show wpAny _ Z.in1 (pyNext (Value.ref I) >>= _) _ _ s from wpAny_bind (W.done s _ _ hst fun s' mv => ?_)
    exact show wpAny _ Z.in1 (ret Value.none) _ _ s' from wpAny_pure (hR s' (mv.mono up) (jk i _ _ hj fun b o hb e => mv.heap b o hb e))
  | succ k ih =>
    intro i s z1 z2 hst hj hR
    have lt : i < n := by omega
    refine codeAny_builtin F.entry_set_update_loop ?_
    rw [Around.under_plainId F.plain_set_update_loop _]
    refine show wpAny _ Z.in1 (pyNext (Value.ref I) >>= _) _ _ s from wpAny_bind (W.item i s _ _ lt hst fun u s1 pu hst1 mv => ?_)
    refine show wpAny _ Z.in1 (holding [u] (setAdd a u) >>= _) _ _ s1 from wpAny_bind (wpAny_holding (step i u s1 _ _ lt pu (jk i _ _ hj fun b o hb e => mv.heap b o hb e) fun b h' tk ht sb hj2 => ?_))
    refine wpAny_pure ⟨plainId_quiet F.plain_set_update_loop _, ih (i + 1) _ (by omega) lt (W.frame _ s1 _ _ hst1 ht fun c hc o e => ?_) hj2 fun s2 mv2 hj3 => ?_⟩
    · rw [sb.2 c (fun z : c = a => ha (by rw [← z]; exact hc))]; exact e
    · refine hR s2 (Moved.trans W.gtrans ((mv.mono up).then_heap ht fun c o hc e => ?_) mv2) hj3
      rw [sb.2 c (fun z : c = a => hc (by rw [z]; exact List.mem_cons_self))]; exact e
/-- set(xs), xs a list or a tuple -/
theorem set_of {q : Addr} {its : Array Value} (tup : Bool) {R : Value → Shared → Prop} (hd : Z.handled = none) (hq : if tup = true then st.heap.IsTuple q its else st.heap.IsList q its) (J : Nat → Heap → Prop)
    (j0 : ∀ h, (∀ b o, st.heap.get? b = some o → h.get? b = some o) → h.get? st.heap.objs.size = some (new0 v) → J 0 h)
    (jk : ∀ i h h', J i h → (∀ b o, b ≠ st.heap.objs.size + 1 → h.get? b = some o → h'.get? b = some o) → J i h')
    (step : ∀ (i : Nat) (u : Value) (Z1 : Around) (s1 : Shared) (Q1 : Bool → Shared → Prop) (E1 : Value → Shared → Prop), Z1.units = Z.units + 3 → its[i]? = some u → J i s1.heap →
      (∀ b h' tk, s1.toks ≤ tk → Heap.SameBut st.heap.objs.size s1.heap h' → J (i + 1) h' → Q1 b { s1 with heap := h', toks := tk }) → wpAny (model Pg v) Z1 (setAdd st.heap.objs.size u) Q1 E1 s1)
    (hR : ∀ (h1 : Heap) (k1 : Nat), J its.size h1 → (∀ b o, st.heap.get? b = some o → h1.get? b = some o) → R (.ref st.heap.objs.size) { st with heap := h1, toks := k1 }) :
    wpAny (model Pg v) Z (call (.type "set") [.ref q]) R Ex st := by
  have ⟨m1, m2, m3⟩ := F.called_set.mro
  have ⟨m4, m5, m6, m7⟩ := And.intro F.called_set.made (And.intro F.called_set.sub (And.intro F.called_set.notType F.called_set.canCreate))
  have m8 := F.typeCall_set_1 (.ref q)
  refine wpAny_call (codeAny_of_tree (show wpAny _ _ (callAny (.type "set") _) _ _ _ from ?_))
  refine wpAny_pure (And.intro (Code.quiet_builtin _ (by decide +kernel)) (codeAny_builtin F.entry_type_call ?_))
  rw [Around.under_plain (weight_type_call_type "set" [Value.ref q] []) rfl]
  repeat (any_goals (first | assumption | wp_step))
  refine codeAny_mono (L2.code_set_led1 (.ref q) (E := Ex) (Q₁ := fun x t => x = .ref st.heap.objs.size ∧ t = { st with heap := st.heap.push (new0 v) }) (And.intro rfl rfl)) fun r1 t1 hr => ?_
  cases r1 with
  | error e => exact hr
  | ok fl => cases fl with
    | ret x =>
      obtain ⟨rfl, rfl⟩ := hr
      have o0 : (st.heap.push (new0 v)).get? st.heap.objs.size = some (new0 v) := Heap.get?_push_size _ rfl
      have o1 : Shared.TypeIs { st with heap := st.heap.push (new0 v) } (.ref st.heap.objs.size) "set" := ⟨_, o0, rfl⟩
      have m9 := F.called_set.init.lookup
      have m10 := F.called_set.init.bind (Value.ref st.heap.objs.size)
      repeat (any_goals (first | assumption | wp_step))
      have z1 : (st.heap.push (new0 v)).objs.size = st.heap.objs.size + 1 := Heap.size_push ..
      have hd3 : Z.in1.in1.in1.handled = none := by simp [hd]
      refine codeAny_mono (codeAny_call_builtin (R := wants (fun r t => r = .none ∧ ∃ h1 k1, t = { st with heap := h1, toks := k1 } ∧ J its.size h1 ∧
        ∀ b o, st.heap.get? b = some o → h1.get? b = some o) Ex) F.called_set.init.plain F.entry_set_init (check_set_init_1 o1 ?_)) fun r2 t2 hr2 => ?_
      · cases tup with
        | false =>
          rw [if_neg (by decide)] at hq
          obtain ⟨⟨c1, c2, c3, c4⟩, g0, g1, n0, g2⟩ := hq
          dsimp only at g1 g2
          subst g1 g2
          have g3 : (st.heap.push (new0 v)).get? q = some { cls := .type "list", dict := c2, data := .seq its n0, slots := c4 } := Heap.get?_push_of_some _ g0
          have ⟨e1, e2⟩ := And.intro F.sub_list_set F.sub_list_frozenset
          have e3 : (Value.type "list" == Value.type "dict") = false := by decide
          have g4 : (st.heap.push (new0 v)).IsList q its := ⟨_, g3, rfl, n0, rfl⟩
          unfold Builtin.«set.__init__» noKeywords Builtin.Frozenset.updateFrom
          generalize hg : pyIter = pI
          wp_walk
          subst hg
          refine wpAny_pyIter_list g4 (wpAny_bind (wpAny_runValue ?_))
          have lt0 : q < st.heap.objs.size := Heap.lt_size g0
          have ne1 : q ≠ (st.heap.push (new0 v)).objs.size := fun e => by rw [z1] at e; exact absurd (e ▸ lt0) (Nat.not_lt.mpr (Nat.le_succ _))
          have ne2 : st.heap.objs.size ∉ [(st.heap.push (new0 v)).objs.size, q] := fun hm => by
            rcases List.mem_cons.mp hm with e | e
            · rw [z1] at e; exact absurd e (Nat.ne_of_lt (Nat.lt_succ_self _))
            · rw [← List.mem_singleton.mp e] at lt0; exact Nat.lt_irrefl _ lt0
          refine fill_loop ((Walks.list hd3 _ q ne1 its).toS) st.heap.objs.size ne2 J (fun i h h' hj kp => jk i h h' hj fun b o hb e => kp b o (fun hm => hb (by rw [List.mem_singleton.mp hm, z1])) e) (fun i u s1 Q1 E1 hi pu hj nx => step i u _ s1 Q1 E1 rfl pu hj nx) (its.size - 0) 0 _ (by omega) (Nat.zero_le _) ⟨⟨_, Heap.get?_push_size _ rfl, rfl, rfl⟩, g4.push _⟩ (j0 _ (fun b o e => Heap.get?_push_of_some _ (Heap.get?_push_of_some _ e)) (Heap.get?_push_of_some _ o0)) fun t3 mv hj => ?_
          obtain ⟨h3, s2, d3, k3, s5⟩ := t3
          have ⟨x1, x2, x3⟩ := And.intro mv.gens (And.intro mv.drawn mv.os)
          dsimp only at x1 x2 x3
          subst x1 x2 x3
          refine wpAny_pure (show wpAny _ _ (ret Value.none) _ _ _ from wpAny_pure ⟨rfl, h3, k3, rfl, hj, fun b o e => ?_⟩)
          have lb : b < st.heap.objs.size := Heap.lt_size e
          refine mv.heap b o (fun hm => ?_) (Heap.get?_push_of_some _ (Heap.get?_push_of_some _ e))
          rcases List.mem_cons.mp hm with z | z
          · exact absurd (z ▸ lb) (Nat.lt_irrefl _)
          · rw [List.mem_singleton.mp z, z1] at lb
            exact absurd lb (Nat.not_lt.mpr (Nat.le_succ _))
        | true =>
          rw [if_pos rfl] at hq
          obtain ⟨⟨c1, c2, c3, c4⟩, g0, g1, n0, g2⟩ := hq
          dsimp only at g1 g2
          subst g1 g2
          have g3 : (st.heap.push (new0 v)).get? q = some { cls := .type "tuple", dict := c2, data := .seq its n0, slots := c4 } := Heap.get?_push_of_some _ g0
          have ⟨e1, e2⟩ := And.intro F.sub_tuple_set F.sub_tuple_frozenset
          have e3 : (Value.type "tuple" == Value.type "dict") = false := by decide
          have g4 : (st.heap.push (new0 v)).IsTuple q its := ⟨_, g3, rfl, n0, rfl⟩
          unfold Builtin.«set.__init__» noKeywords Builtin.Frozenset.updateFrom
          generalize hg : pyIter = pI
          wp_walk
          subst hg
          refine wpAny_pyIter_tuple g4 (wpAny_bind (wpAny_runValue ?_))
          have lt0 : q < st.heap.objs.size := Heap.lt_size g0
          have ne1 : q ≠ (st.heap.push (new0 v)).objs.size := fun e => by rw [z1] at e; exact absurd (e ▸ lt0) (Nat.not_lt.mpr (Nat.le_succ _))
          have ne2 : st.heap.objs.size ∉ [(st.heap.push (new0 v)).objs.size, q] := fun hm => by
            rcases List.mem_cons.mp hm with e | e
            · rw [z1] at e; exact absurd e (Nat.ne_of_lt (Nat.lt_succ_self _))
            · rw [← List.mem_singleton.mp e] at lt0; exact Nat.lt_irrefl _ lt0
          refine fill_loop ((Walks.tuple hd3 _ q ne1 its).toS) st.heap.objs.size ne2 J (fun i h h' hj kp => jk i h h' hj fun b o hb e => kp b o (fun hm => hb (by rw [List.mem_singleton.mp hm, z1])) e) (fun i u s1 Q1 E1 hi pu hj nx => step i u _ s1 Q1 E1 rfl pu hj nx) (its.size - 0) 0 _ (by omega) (Nat.zero_le _) ⟨⟨_, Heap.get?_push_size _ rfl, rfl, rfl⟩, g4.push _⟩ (j0 _ (fun b o e => Heap.get?_push_of_some _ (Heap.get?_push_of_some _ e)) (Heap.get?_push_of_some _ o0)) fun t3 mv hj => ?_
          obtain ⟨h3, s2, d3, k3, s5⟩ := t3
          have ⟨x1, x2, x3⟩ := And.intro mv.gens (And.intro mv.drawn mv.os)
          dsimp only at x1 x2 x3
          subst x1 x2 x3
          refine wpAny_pure (show wpAny _ _ (ret Value.none) _ _ _ from wpAny_pure ⟨rfl, h3, k3, rfl, hj, fun b o e => ?_⟩)
          have lb : b < st.heap.objs.size := Heap.lt_size e
          refine mv.heap b o (fun hm => ?_) (Heap.get?_push_of_some _ (Heap.get?_push_of_some _ e))
          rcases List.mem_cons.mp hm with z | z
          · exact absurd (z ▸ lb) (Nat.lt_irrefl _)
          · rw [List.mem_singleton.mp z, z1] at lb
            exact absurd lb (Nat.not_lt.mpr (Nat.le_succ _))
      · cases r2 with
        | error e => exact hr2
        | ok f2 => cases f2 with
          | ret r =>
            obtain ⟨rfl, h3, k3, rfl, w1, w2⟩ := hr2
            repeat (any_goals (first | assumption | wp_step))
            exact hR h3 k3 w1 w2
          | _ => exact hr2.elim
    | _ => exact hr.elim
end
end G7N

namespace G7N
open PySem PySem.Spec PyProof.Rows
open L2 (TabOk way Ris)
/-- what a set has of the first i things -/
structure Gt {α β : Type} (f : α → β) (ks : List α) (i : Nat) (L : List α) : Prop where
  sub : ∀ p ∈ L, p ∈ ks.take i
  all : ∀ p ∈ ks.take i, f p ∈ L.map f
  len : L.length ≤ i
section
variable {α β : Type} {f : α → β} {ks L M : List α} {i : Nat} {x : α}
theorem Gt.nil : Gt f ks 0 [] := ⟨fun _ h => (by cases h), fun _ h => (by simp at h), Nat.le_refl _⟩
theorem take_more (h : ks[i]? = some x) : ks.take (i + 1) = ks.take i ++ [x] := by rw [List.take_add_one, h]; rfl
theorem Gt.old (g : Gt f ks i L) (h : ks[i]? = some x) (m : f x ∈ L.map f) : Gt f ks (i + 1) L := by
  refine ⟨fun p hp => ?_, fun p hp => ?_, Nat.le_succ_of_le g.len⟩ <;> rw [take_more h] at *
  · exact List.mem_append_left _ (g.sub p hp)
  · rcases List.mem_append.mp hp with z | z
    · exact g.all p z
    · rwa [List.mem_singleton.mp z]
theorem Gt.new (g : Gt f ks i L) (h : ks[i]? = some x) (pm : M.Perm (x :: L)) : Gt f ks (i + 1) M := by
  refine ⟨fun p hp => ?_, fun p hp => ?_, by rw [pm.length_eq]; exact Nat.succ_le_succ g.len⟩ <;> rw [take_more h] at *
  · rcases List.mem_cons.mp (pm.mem_iff.mp hp) with z | z
    · exact List.mem_append_right _ (List.mem_singleton.mpr z)
    · exact List.mem_append_left _ (g.sub p z)
  · rw [(pm.map f).mem_iff, List.map_cons, List.mem_cons]
    rcases List.mem_append.mp hp with z | z
    · exact .inr (g.all p z)
    · exact .inl (by rw [List.mem_singleton.mp z])
end
section
variable {Pg : Program} {v : World} {Z : Around} {Ex : Value → Shared → Prop} {st : Shared} {a : Addr}
/-! ### sets of texts -/
abbrev Tx := Str × Tok
def txe (v : World) (xs : List Tx) : List (Int × Value) := xs.map fun p => (hashStr v p.1, Value.str p.1 p.2)
structure SX (v : World) (h : Heap) (a : Addr) (xs : List Tx) (es : Array (Int × Value)) (ep : Nat) (t : SetTable) : Prop where
  ob : ∃ o, h.get? a = some o ∧ o.ExactSet ∧ o.data = .set es ep t
  ent : es.toList = txe v xs
  one : (xs.map (·.1)).Nodup
  fit : t.fits es.size = true
  ris : Ris t.place.toList
  led : v.params.followText "set-order" = true ∨ t.led = true
  few : xs.length < 64
variable {xs : List Tx} {es : Array (Int × Value)} {ep : Nat} {t : SetTable}
theorem SX.sz {h : Heap} (S : SX v h a xs es ep t) : es.size = xs.length := by rw [← Array.length_toList, S.ent, txe, List.length_map]
theorem is_tx (x y : Str) (k : Tok) : (PySem.strKind Pg v).is x (.str y k) = true ↔ y = x := by
  show Value.isStrOf x (.str y k) = true ↔ _
  simp [Value.isStrOf]
theorem txe_el (xs : List Tx) : ElemsOf (PySem.strKind Pg v) (txe v xs) := fun e he => by
  obtain ⟨p, _, rfl⟩ := List.mem_map.mp he
  exact ⟨⟨p.1, (is_tx _ _ _).mpr rfl, rfl⟩, rfl⟩
theorem perm_txe {ys : List (Int × Value)} {xs : List Tx} (pm : ys.Perm (txe v xs)) : ∃ zs : List Tx, ys = txe v zs ∧ zs.Perm xs := by
  generalize hx : txe v xs = L at pm
  induction pm generalizing xs with
  | nil =>
    cases xs with
    | nil => exact ⟨[], rfl, .nil⟩
    | cons _ _ => cases hx
  | cons x _ ih =>
    cases xs with
    | nil => cases hx
    | cons p ps =>
      injection hx with h1 h2
      obtain ⟨zs, e1, e2⟩ := ih h2
      exact ⟨p :: zs, by rw [e1, ← h1]; rfl, e2.cons p⟩
  | swap x y _ =>
    cases xs with
    | nil => cases hx
    | cons p ps => cases ps with
      | nil => cases hx
      | cons r rs =>
        injection hx with h1 h2
        injection h2 with h2 h3
        exact ⟨r :: p :: rs, by rw [← h1, ← h2, ← h3]; rfl, .swap p r rs⟩
  | trans _ _ i1 i2 =>
    obtain ⟨zs, e1, e2⟩ := i2 hx
    obtain ⟨ws, e3, e4⟩ := i1 e1.symm
    exact ⟨ws, e3, e4.trans e2⟩
theorem layX {g : Bool → Sem Unit} (hg : ∀ (b : Bool) (s1 : Shared) (Q1 : Unit → Shared → Prop), Q1 () s1 → wpAny (model Pg v) Z (g b) Q1 Ex s1)
    {o : Obj} (go : st.heap.get? a = some o) (gx : o.ExactSet) (gd : o.data = .set es ep t) {es1 : Array (Int × Value)} {t2 : SetTable} {ys : List Tx} (ent : es1.toList = txe v ys) (one : (ys.map (·.1)).Nodup)
    (few : ys.length < 64) (ft : t2.fits es1.size = true) (rs : Ris t2.place.toList) (ld : v.params.followText "set-order" = true ∨ t2.led = true) {wd : Bool} {R : Option Bool → Shared → Prop}
    (next : ∀ h' zs es' ep' t', Heap.SameBut a st.heap h' → SX v h' a zs es' ep' t' → zs.Perm ys → R (some true) { st with heap := h' }) :
    wpAny (model Pg v) Z (do
        storeSet a es1 t2
        if (!wd && t2.tooFull) = true then do
            g (relayAll t2 es1 (SetTable.grown es1.size)).2.2
            storeSet a (relayAll t2 es1 (SetTable.grown es1.size)).1 (relayAll t2 es1 (SetTable.grown es1.size)).2.1
            pure (some true)
          else pure (some true)) R Ex st := by
  have z1 : es1.size = ys.length := by rw [← Array.length_toList, ent, txe, List.length_map]
  refine wpAny_bind (wpAny_storeSet_of go gd ?_ (by rw [z1, sizeLine_eq]; omega))
  have go1 := L2.store_at (es' := es1) (t' := t2) go gd
  have sb1 := Heap.SameBut.update st.heap a (Obj.putSet es1 t2)
  split
  · have pm := relayAll_perm t2 es1 (SetTable.grown es1.size)
    have f3 := relayAll_fits t2 es1 (SetTable.grown es1.size)
    have r3 := L2.relayAll_ris t2 es1 (SetTable.grown es1.size)
    have l3 := L2.relayAll_led t2 es1 (SetTable.grown es1.size)
    generalize relayAll t2 es1 (SetTable.grown es1.size) = tr at pm f3 r3 l3 ⊢
    obtain ⟨es2, t3, gv⟩ := tr
    dsimp only at pm f3 r3 l3 ⊢
    rw [ent] at pm
    obtain ⟨zs, e2, pz⟩ := perm_txe pm
    have z2 : es2.size = ys.length := by rw [← Array.length_toList, e2, txe, List.length_map, pz.length_eq]
    refine wpAny_bind (hg _ _ _ (wpAny_bind (wpAny_storeSet_of go1 rfl ?_ (by rw [z2, sizeLine_eq]; omega))))
    exact wpAny_pure (next _ zs es2 _ t3 (sb1.trans (Heap.SameBut.update _ a _)) ⟨⟨_, L2.store_at go1 rfl, gx, rfl⟩, e2, (pz.map (·.1)).nodup_iff.mpr one, f3, r3, ld.imp id fun z => by rw [l3]; exact z, by rw [pz.length_eq]; exact few⟩ pz)
  · exact wpAny_pure (next _ ys es1 _ t2 sb1 ⟨⟨_, go1, gx, rfl⟩, ent, one, ft, rs, ld, few⟩ (.refl _))
theorem addX (S : SX v st.heap a xs es ep t) (x : Str) (k : Tok) (room : xs.length + 1 < 64) {R : Bool → Shared → Prop}
    (next : ∀ b h' ys es' ep' t', Heap.SameBut a st.heap h' → SX v h' a ys es' ep' t' → (x ∈ xs.map (·.1) → ys = xs) → (x ∉ xs.map (·.1) → ys.Perm ((x, k) :: xs)) → R b { st with heap := h' }) :
    wpAny (model Pg v) Z (setAddHashed a (.str x k) ((PySem.strKind Pg v).hash x)) R Ex st := by
  obtain ⟨o, go, gx, gd⟩ := S.ob
  have zs := S.sz
  have el : ElemsOf (PySem.strKind Pg v) es.toList := by rw [S.ent]; exact txe_el xs
  have sc : (Value.str x k).scannable = true := rfl
  unfold setAddHashed setAddHashedIn
  refine wpAny_holding (wpAny_bind (wpAny_setState_of go gd S.fit ?_))
  dsimp only
  have hfew := S.few
  rw [byScan_of sc (by rw [zs]; unfold scanBound; omega) el]
  simp only [↓reduceIte]
  unfold setAddByScan
  refine wpAny_bind (wpAny_bind (wpAny_rule (wpAny_bind (wpAny_setScan_of ((is_tx x x k).mpr rfl) go gd S.fit el ?_))))
  have mem : (∃ e ∈ es.toList, (PySem.strKind Pg v).is x e.2 = true) ↔ x ∈ xs.map (·.1) := by
    rw [S.ent]
    constructor
    · rintro ⟨e, he, q⟩
      obtain ⟨p, hp, rfl⟩ := List.mem_map.mp he
      exact List.mem_map.mpr ⟨p, hp, (is_tx _ _ _).mp q⟩
    · intro h
      obtain ⟨p, hp, e⟩ := List.mem_map.mp h
      exact ⟨_, List.mem_map.mpr ⟨p, hp, rfl⟩, (is_tx _ _ _).mpr e⟩
  cases fi : List.findIdx? (fun e => (PySem.strKind Pg v).is x e.2) es.toList with
  | some j =>
    dsimp only
    obtain ⟨hj, pj, _⟩ := List.findIdx?_eq_some_iff_getElem.mp fi
    have there := mem.mp ⟨_, List.getElem_mem hj, pj⟩
    exact wpAny_pure (wpAny_pure (next false st.heap xs es ep t (Heap.SameBut.refl a st.heap) S (fun _ => rfl) fun z => absurd there z))
  | none =>
    dsimp only
    have nx : x ∉ xs.map (·.1) := fun z => by
      obtain ⟨e, he, q⟩ := mem.mpr z
      have := List.findIdx?_eq_none_iff.mp fi e he
      rw [q] at this; cases this
    have gw : ∀ (b : Bool) (s1 : Shared) (Q1 : Unit → Shared → Prop), Q1 () s1 → wpAny (model Pg v) Z (match b with | true => rule "set.scan.the-table-gave-way" | false => pure ()) Q1 Ex s1 :=
      fun b s1 Q1 q => by cases b <;> first | exact wpAny_pure q | exact wpAny_rule q
    have pm := layNew_perm t es ((PySem.strKind Pg v).hash x) (.str x k)
    have f1 := layNew_fits t es ((PySem.strKind Pg v).hash x) (.str x k)
    have r1 := L2.layNew_ris t es ((PySem.strKind Pg v).hash x) (.str x k) S.ris
    have l1 := L2.layNew_led t es ((PySem.strKind Pg v).hash x) (.str x k)
    generalize layNew t es ((PySem.strKind Pg v).hash x) (.str x k) = tr at pm f1 r1 l1 ⊢
    obtain ⟨es1, t1, wd, gv⟩ := tr
    dsimp only at pm f1 r1 l1 ⊢
    rw [Array.toList_push, S.ent] at pm
    obtain ⟨ys, e1, py⟩ := perm_txe (v := v) (xs := (x, k) :: xs) (pm.trans (List.perm_append_singleton _ _))
    have one1 : (ys.map (·.1)).Nodup := (py.map (·.1)).nodup_iff.mpr (List.nodup_cons.mpr ⟨nx, S.one⟩)
    have few1 : ys.length < 64 := by rw [py.length_eq]; exact room
    have ld : v.params.followText "set-order" = true ∨ t1.led = true := S.led.imp id fun z => by rw [l1]; exact z
    have fin : ∀ h' zs es' ep' t', Heap.SameBut a st.heap h' → SX v h' a zs es' ep' t' → zs.Perm ys → R true { st with heap := h' } := fun h' zs es' ep' t' sb s2 pz => next true h' zs es' ep' t' sb s2 (fun z => absurd z nx) fun _ => pz.trans py
    refine wpAny_bind (gw _ _ _ ?_)
    split
    · refine wpAny_bind ?_
      rw [hashByValue_scannable 8 sc]
      refine wpAny_pure (layX ?_ go gx gd e1 one1 few1 ?_ ?_ ?_ ?_)
      · intro b s1 Q1 q; cases b <;> first | exact wpAny_pure q | exact wpAny_rule q
      · first | (split <;> first | exact f1 | exact SetTable.fits_plain_off f1) | exact f1
      · first | (split <;> exact r1) | exact r1
      · first | (split <;> exact ld) | exact ld
      · intro h' zs es' ep' t' sb s2 pz; dsimp only; exact wpAny_pure (fin h' zs es' ep' t' sb s2 pz)
    · refine wpAny_bind (wpAny_pure ?_)
      simp only [↓reduceIte]
      refine layX ?_ go gx gd e1 one1 few1 f1 r1 ld ?_
      · intro b s1 Q1 q; cases b <;> first | exact wpAny_pure q | exact wpAny_rule q
      · intro h' zs es' ep' t' sb s2 pz; dsimp only; exact wpAny_pure (fin h' zs es' ep' t' sb s2 pz)
/-! ### set(..) -/
/-- at a stands a set that holds the values us, in the table's order -/
def SV (v : World) (h : Heap) (a : Addr) (us : List Value) : Prop := ∃ o es ep t, h.get? a = some o ∧ o.ExactSet ∧ o.data = .set es ep t ∧ es.toList.map (·.2) = us ∧ t.fits es.size = true ∧ Ris t.place.toList ∧ (v.params.followText "set-order" = true ∨ t.led = true) ∧ us.length < 64
theorem SN.sv {h : Heap} {L : List En} (S : SN v h a L es ep t) : SV v h a (L.map fun p => Value.ref p.1) := by
  obtain ⟨o, go, gx, gd⟩ := S.ob
  exact ⟨o, es, ep, t, go, gx, gd, by rw [S.ent, en, List.map_map]; rfl, S.fit, S.tab.ris, S.led, by rw [List.length_map]; exact S.few⟩
theorem SX.sv {h : Heap} (S : SX v h a xs es ep t) : SV v h a (xs.map fun p => Value.str p.1 p.2) := by
  obtain ⟨o, go, gx, gd⟩ := S.ob
  exact ⟨o, es, ep, t, go, gx, gd, by rw [S.ent, txe, List.map_map]; rfl, S.fit, S.ris, S.led, by rw [List.length_map]; exact S.few⟩
theorem SN.new {h : Heap} (go : h.get? a = some (new0 v)) : SN v h a [] #[] 0 (.fresh 0 0 (!v.params.followText "set-order")) :=
  ⟨⟨_, go, ⟨rfl, rfl, rfl⟩, rfl⟩, rfl, ⟨List.Pairwise.nil, rfl, rfl, .inl rfl, fun x hx => (by cases hx), fun i h j hi => (by simp at hi)⟩, List.nodup_nil, fun _ h => (by cases h), by
    show _ ∨ (!v.params.followText "set-order") = true
    cases v.params.followText "set-order"
    · exact .inr rfl
    · exact .inl rfl, show 0 * 5 < 7 * 3 by decide, show 0 < 64 by decide⟩
theorem SX.new {h : Heap} (go : h.get? a = some (new0 v)) : SX v h a [] #[] 0 (.fresh 0 0 (!v.params.followText "set-order")) :=
  ⟨⟨_, go, ⟨rfl, rfl, rfl⟩, rfl⟩, rfl, List.nodup_nil, rfl, List.Pairwise.nil, (SN.new go).led, show 0 < 64 by decide⟩
theorem SN.stay {h h' : Heap} {L : List En} (S : SN v h a L es ep t) (k : ∀ o, h.get? a = some o → h'.get? a = some o) (q : ∀ p ∈ L, KI h' p.2 p.1) : SN v h' a L es ep t := by
  obtain ⟨o, go, r⟩ := S.ob
  exact ⟨⟨o, k o go, r⟩, S.ent, S.tab, S.one, q, S.led, S.spare, S.few⟩
theorem SX.stay {h h' : Heap} (S : SX v h a xs es ep t) (k : ∀ o, h.get? a = some o → h'.get? a = some o) : SX v h' a xs es ep t := by
  obtain ⟨o, go, r⟩ := S.ob
  exact ⟨⟨o, k o go, r⟩, S.ent, S.one, S.fit, S.ris, S.led, S.few⟩
theorem set_keys {q : Addr} {its : Array Value} (tup : Bool) (ks : List En) {R : Value → Shared → Prop} (hd : Z.handled = none) (hq : if tup = true then st.heap.IsTuple q its else st.heap.IsList q its) (hit : its.toList = ks.map fun p => Value.ref p.1)
    (hk : ∀ p ∈ ks, KI st.heap p.2 p.1) (few : ks.length < 64) (hu : Z.units + 16 < cLine)
    (next : ∀ (h' : Heap) (tk : Nat) L, SV v h' st.heap.objs.size (L.map fun p => Value.ref p.1) → (L.map (·.2)).Nodup → Gt (·.2) ks ks.length L → (∀ b o, st.heap.get? b = some o → h'.get? b = some o) → R (.ref st.heap.objs.size) { st with heap := h', toks := tk }) :
    wpAny (model Pg v) Z (call (.type "set") [.ref q]) R Ex st := by
  have zs : its.size = ks.length := by rw [← Array.length_toList, hit, List.length_map]
  have fresh : ∀ b o, st.heap.get? b = some o → b < st.heap.objs.size := fun b o e => Heap.lt_size e
  refine set_of tup hd hq (fun i h => (∀ b o, st.heap.get? b = some o → h.get? b = some o) ∧ ∃ L es ep t, SN v h st.heap.objs.size L es ep t ∧ Gt (·.2) ks i L) (fun h kp go => ⟨kp, [], _, _, _, SN.new go, Gt.nil⟩) ?_ ?_ ?_
  · rintro i h h' ⟨kp, L, es, ep, t, S, g⟩ on
    have kp2 : ∀ b o, st.heap.get? b = some o → h'.get? b = some o := fun b o e => on b o (Nat.ne_of_lt (Nat.lt_succ_of_lt (fresh b o e))) (kp b o e)
    exact ⟨kp2, L, es, ep, t, S.stay (fun o e => on _ o (Nat.ne_of_lt (Nat.lt_succ_self _)) e) (fun p hp => (hk p (List.mem_of_mem_take (g.sub p hp))).at fun c o _ _ e _ => kp2 c o e), g⟩
  · rintro i u Z1 s1 Q1 E1 hz hu1 ⟨kp, L, es, ep, t, S, g⟩ nx
    have hi : (ks.map fun p => Value.ref p.1)[i]? = some u := by rw [← hit, Array.getElem?_toList]; exact hu1
    rw [List.getElem?_map] at hi
    cases hp : ks[i]? with
    | none => rw [hp] at hi; cases hi
    | some p =>
      rw [hp] at hi
      cases hi
      have kx : KI s1.heap p.2 p.1 := (hk p (List.mem_of_getElem? hp)).at fun c o _ _ e _ => kp c o e
      have il : i < ks.length := (List.getElem?_eq_some_iff.mp hp).1
      have gl := g.len
      unfold setAdd
      refine wpAny_holding (wpAny_bind ((nestedKind Pg v).pyHash (show Z1.units + 8 < cLine by omega) kx ?_))
      refine add_one (st := { s1 with toks := s1.toks + p.2.draws }) S kx (by omega) (by omega) fun b h' L' es' ep' t' sb S2 c1 c2 => nx b h' _ (Nat.le_add_right _ _) sb ⟨fun c o e => ?_, L', es', ep', t', S2, ?_⟩
      · exact (sb.2 c (Nat.ne_of_lt (fresh c o e))).trans (kp c o e)
      · by_cases m : p.2 ∈ L.map (·.2)
        · rw [c1 m]; exact g.old hp m
        · exact g.new hp (c2 m)
  · rintro h1 k1 ⟨kp, L, es, ep, t, S, g⟩ _
    rw [zs] at g
    exact next h1 k1 L S.sv S.one g kp
theorem set_texts {q : Addr} {its : Array Value} (tup : Bool) (ks : List Tx) {R : Value → Shared → Prop} (hd : Z.handled = none) (hq : if tup = true then st.heap.IsTuple q its else st.heap.IsList q its) (hit : its.toList = ks.map fun p => Value.str p.1 p.2)
    (few : ks.length < 64)
    (next : ∀ (h' : Heap) (tk : Nat) L, SV v h' st.heap.objs.size (L.map fun p => Value.str p.1 p.2) → (L.map (·.1)).Nodup → Gt (·.1) ks ks.length L → (∀ b o, st.heap.get? b = some o → h'.get? b = some o) → R (.ref st.heap.objs.size) { st with heap := h', toks := tk }) :
    wpAny (model Pg v) Z (call (.type "set") [.ref q]) R Ex st := by
  have zs : its.size = ks.length := by rw [← Array.length_toList, hit, List.length_map]
  have fresh : ∀ b o, st.heap.get? b = some o → b < st.heap.objs.size := fun b o e => Heap.lt_size e
  refine set_of tup hd hq (fun i h => (∀ b o, st.heap.get? b = some o → h.get? b = some o) ∧ ∃ L es ep t, SX v h st.heap.objs.size L es ep t ∧ Gt (·.1) ks i L) (fun h kp go => ⟨kp, [], _, _, _, SX.new go, Gt.nil⟩) ?_ ?_ ?_
  · rintro i h h' ⟨kp, L, es, ep, t, S, g⟩ on
    have kp2 : ∀ b o, st.heap.get? b = some o → h'.get? b = some o := fun b o e => on b o (Nat.ne_of_lt (Nat.lt_succ_of_lt (fresh b o e))) (kp b o e)
    exact ⟨kp2, L, es, ep, t, S.stay fun o e => on _ o (Nat.ne_of_lt (Nat.lt_succ_self _)) e, g⟩
  · rintro i u Z1 s1 Q1 E1 hz hu1 ⟨kp, L, es, ep, t, S, g⟩ nx
    have hi : (ks.map fun p => Value.str p.1 p.2)[i]? = some u := by rw [← hit, Array.getElem?_toList]; exact hu1
    rw [List.getElem?_map] at hi
    cases hp : ks[i]? with
    | none => rw [hp] at hi; cases hi
    | some p =>
      rw [hp] at hi
      cases hi
      have il : i < ks.length := (List.getElem?_eq_some_iff.mp hp).1
      have gl := g.len
      unfold setAdd
      refine wpAny_holding (wpAny_bind ((PySem.strKind Pg v).pyHash (k := p.1) ((is_tx p.1 p.1 p.2).mpr rfl) ?_))
      refine addX (st := { s1 with toks := s1.toks + 1 }) S p.1 p.2 (by omega) fun b h' L' es' ep' t' sb S2 c1 c2 => nx b h' _ (Nat.le_add_right _ _) sb ⟨fun c o e => ?_, L', es', ep', t', S2, ?_⟩
      · exact (sb.2 c (Nat.ne_of_lt (fresh c o e))).trans (kp c o e)
      · by_cases m : p.1 ∈ L.map (·.1)
        · rw [c1 m]; exact g.old hp m
        · exact g.new hp (c2 m)
  · rintro h1 k1 ⟨kp, L, es, ep, t, S, g⟩ _
    rw [zs] at g
    exact next h1 k1 L S.sv S.one g kp
end
end G7N

namespace G7
open PySem PySem.W PySem.SeqAt
open L2 (V Hp HO CallR Inv RelV Vals upd upd_same upd_ne SqL SqT Cx EP VK)
mutual
theorem nk_one : ∀ (x y : P) (n m : Nat), x.hk n = true → y.hk m = true → x.nk = y.nk → x = y
  | .non, y, n, m, _, hy, e => by cases y <;> simp_all [P.nk, P.hk]
  | .bl b, y, n, m, hx, _, _ => by simp [P.hk] at hx
  | .lst b, y, n, m, hx, _, _ => by simp [P.hk] at hx
  | .int i, y, n, m, _, hy, e => by cases y <;> simp_all [P.nk, P.hk]
  | .str i, y, n, m, _, hy, e => by cases y <;> simp_all [P.nk, P.hk]
  | .tup xs, y, n, m, hx, hy, e => by
    cases n with
    | zero => simp [P.hk] at hx
    | succ n =>
      cases y with
      | tup ys =>
        cases m with
        | zero => simp [P.hk] at hy
        | succ m =>
          simp only [P.nk, NestedKey.tup.injEq] at e
          rw [nks_one xs ys n m (by simpa [P.hk] using hx) (by simpa [P.hk] using hy) e]
      | _ => simp_all [P.nk, P.hk]
theorem nks_one : ∀ (xs ys : List P) (n m : Nat), P.hks xs n = true → P.hks ys m = true → P.nks xs = P.nks ys → xs = ys
  | [], [], _, _, _, _, _ => rfl
  | [], _ :: _, _, _, _, _, e => by simp [P.nks] at e
  | _ :: _, [], _, _, _, _, e => by simp [P.nks] at e
  | x :: xs, y :: ys, n, m, hx, hy, e => by
    simp only [P.hks, Bool.and_eq_true] at hx hy
    simp only [P.nks, List.cons.injEq] at e
    rw [nk_one x y n m hx.1 hy.1 e.1, nks_one xs ys n m hx.2 hy.2 e.2]
end
theorem key_one {x y : P} (hx : x.key = true) (hy : y.key = true) (e : x.nk = y.nk) : x = y := nk_one x y 8 8 (key_hk hx) (key_hk hy) e
theorem setOk_eq {xs : List P} (h : setOk xs = true) {x y : P} (hx : x ∈ xs) (hy : y ∈ xs) : x.eqv y = true ↔ x = y := by
  simp only [setOk, Bool.and_eq_true, Bool.or_eq_true, List.all_eq_true] at h
  rcases h.2 with h | h
  · have a := h x hx
    have b := h y hy
    cases x <;> simp [isStrP] at a
    cases y <;> simp [isStrP] at b
    simp [P.eqv]
  · rw [key_eqv (h x hx) (h y hy), decide_eq_true_eq]
    exact ⟨key_one (h x hx) (h y hy), fun e => by rw [e]⟩
theorem nubP_sub : ∀ (xs : List P) (x : P), x ∈ nubP xs → x ∈ xs
  | [], x, h => by cases h
  | y :: ys, x, h => by
    rw [nubP, List.mem_cons] at h
    rcases h with h | h
    · exact h ▸ List.mem_cons_self
    · exact List.mem_cons_of_mem _ (nubP_sub ys x (List.mem_filter.mp h).1)
theorem nubP_all : ∀ (xs : List P), (∀ x ∈ xs, ∀ y ∈ xs, x.eqv y = true → x = y) → ∀ x ∈ xs, x ∈ nubP xs
  | [], _, x, h => by cases h
  | y :: ys, he, x, h => by
    rw [nubP, List.mem_cons]
    by_cases e : x = y
    · exact .inl e
    · rcases List.mem_cons.mp h with h' | h'
      · exact .inl h'
      · refine .inr (List.mem_filter.mpr ⟨nubP_all ys (fun a ha b hb => he a (List.mem_cons_of_mem _ ha) b (List.mem_cons_of_mem _ hb)) x h', ?_⟩)
        cases q : y.eqv x with
        | false => rfl
        | true => exact absurd (he y List.mem_cons_self x h q).symm e
theorem eqv_self' (x : P) : x.eqv x = true := by
  have key : ∀ (n : Nat) (x : P), sizeOf x < n → x.eqv x = true := by
    intro n
    induction n with
    | zero => intro x h; omega
    | succ n ih =>
      intro x h
      have all : ∀ (xs : List P), sizeOf xs < n → P.eqvs xs xs = true := by
        intro xs
        induction xs with
        | nil => intro _; rfl
        | cons y ys ih2 =>
          intro h2
          simp only [List.cons.sizeOf_spec] at h2
          rw [P.eqvs, ih y (by omega), ih2 (by omega)]; rfl
      cases x with
      | tup xs => simp only [P.tup.sizeOf_spec] at h; rw [P.eqv]; exact all xs (by omega)
      | lst xs => simp only [P.lst.sizeOf_spec] at h; rw [P.eqv]; exact all xs (by omega)
      | _ => simp [P.eqv]
  exact key _ x (Nat.lt_succ_self _)
theorem nubP_nd : ∀ (xs : List P), (nubP xs).Nodup
  | [] => List.nodup_nil
  | y :: ys => by
    rw [nubP, List.nodup_cons]
    refine ⟨fun h => ?_, (nubP_nd ys).filter _⟩
    have := (List.mem_filter.mp h).2
    rw [eqv_self'] at this
    cases this
theorem perm_nub {xs ys : List P} (h : setOk xs = true) (nd : ys.Nodup) (sub : ∀ y ∈ ys, y ∈ xs) (all : ∀ x ∈ xs, x ∈ ys) : ys.Perm (nubP xs) :=
  (List.perm_ext_iff_of_nodup nd (nubP_nd xs)).mpr fun a => ⟨fun ha => nubP_all xs (fun x hx y hy e => (setOk_eq h hx hy).mp e) a (sub a ha), fun ha => all a (nubP_sub xs a ha)⟩
theorem setOk_len {xs : List P} (h : setOk xs = true) : xs.length < 64 := by
  simp only [setOk, Bool.and_eq_true, decide_eq_true_eq] at h
  exact h.1
theorem tk_one {x y : P} (h : x.cok y = true) (e : tk x = tk y) : x.eqv y = true := by
  cases q : x.eqv y with
  | true => rfl
  | false =>
    have f := (tk_lt x y h).2 q
    have a := f [.inl 0] [.inl 1]
    have b := f [.inl 1] [.inl 0]
    have p1 := lex_pre (tk y) [.inl 0] [.inl 1]
    have p2 := lex_pre (tk y) [.inl 1] [.inl 0]
    rw [e] at a b
    have a : lx (tk y ++ [.inl 0]) (tk y ++ [.inl 1]) = x.lt y := a
    have b : lx (tk y ++ [.inl 1]) (tk y ++ [.inl 0]) = x.lt y := b
    rw [lx, p1] at a
    rw [lx, p2, ← a] at b
    rw [PyProof.Rows.lex_diff (O := PyProof.Rows.itemOrd) (by simp), PyProof.Rows.lex_diff (O := PyProof.Rows.itemOrd) (by simp)] at b
    simp [PyProof.Rows.itemLt, PyProof.Rows.itemOrd] at b
variable [WW]
theorem srt_perm {xs ys : List P} (p : ys.Perm xs) (h : srtOk xs = true) (one : ∀ x ∈ xs, ∀ y ∈ xs, x.eqv y = true → x = y) : srtP ys = srtP xs ∧ srtOk ys = true := by
  have h2 : srtOk ys = true := by
    refine List.all_eq_true.mpr fun a ha => ?_
    have := List.all_eq_true.mp h a (p.mem_iff.mp ha)
    simp only [Bool.and_eq_true] at this ⊢
    refine ⟨this.1, this.2.1, List.all_eq_true.mpr fun b hb => ?_⟩
    have := List.all_eq_true.mp this.2.2 b (p.mem_iff.mp hb)
    simpa using this
  refine ⟨?_, h2⟩
  rw [← srt_le h, ← srt_le h2]
  have sp : ∀ l : List P, (l.mergeSort (sortLe (PyProof.Rows.listOrd PyProof.Rows.itemOrd) false tk)).Pairwise (fun a b => sortLe (PyProof.Rows.listOrd PyProof.Rows.itemOrd) false tk a b = true) := fun l => by
    refine List.pairwise_mergeSort (fun a b c h1 h2 => ?_) (fun a b => ?_) l
    · have h1 : lx (tk b) (tk a) = false := by simpa [sortLe] using h1
      have h2 : lx (tk c) (tk b) = false := by simpa [sortLe] using h2
      show (!lx (tk c) (tk a)) = true
      cases q : lx (tk c) (tk a) with
      | false => rfl
      | true =>
        rcases (PyProof.Rows.listOrd PyProof.Rows.itemOrd).negTrans _ (tk b) _ q with z | z
        · rw [show lx (tk c) (tk b) = true from z] at h2; cases h2
        · rw [show lx (tk b) (tk a) = true from z] at h1; cases h1
    · show ((!lx (tk b) (tk a)) || (!lx (tk a) (tk b))) = true
      cases q : lx (tk b) (tk a) with
      | false => rfl
      | true =>
        cases q2 : lx (tk a) (tk b) with
        | false => rfl
        | true =>
          have := (PyProof.Rows.listOrd PyProof.Rows.itemOrd).trans _ _ _ (show lx (tk b) (tk a) = true from q) q2
          rw [(PyProof.Rows.listOrd PyProof.Rows.itemOrd).irrefl] at this
          cases this
  refine List.Perm.eq_of_pairwise (fun a b ha hb h1 h2 => ?_) (sp ys) (sp xs) ((List.mergeSort_perm _ _).trans (p.trans (List.mergeSort_perm _ _).symm))
  have ma : a ∈ xs := p.mem_iff.mp ((List.mergeSort_perm _ _).mem_iff.mp ha)
  have mb : b ∈ xs := (List.mergeSort_perm _ _).mem_iff.mp hb
  have h1 : lx (tk b) (tk a) = false := by simpa [sortLe] using h1
  have h2 : lx (tk a) (tk b) = false := by simpa [sortLe] using h2
  exact one a ma b mb (tk_one (srt_mem h ma mb).2.2.1 ((PyProof.Rows.listOrd PyProof.Rows.itemOrd).total _ _ h2 h1))
end G7

/-! sorted(set(..)), len(set(..)) -/
namespace L2
open PySem PySem.Spec PyProof.Rows
/-- an empty set, laid anew -/
abbrev set0 (v : World) : Obj := { cls := .type "set", dict := none, data := .set #[] 0 (.fresh 0 0 (!v.params.followText "set-order")) }
section
variable {P : Program} {v : World} {Z : Around} {Ex : Value → Shared → Prop} {st : Shared}
theorem set_listI {q : Addr} {its : Array Value} (is : List Int) {R : Value → Shared → Prop} (hd : Z.handled = none) (hq : st.heap.IsList q its) (hi : IntsAre its.toList is) (hb : is.length + 1 < scanBound)
    (hR : ∀ (h1 : Heap) (k1 n1 : Nat), SetR v h1 st.heap.objs.size (fun j => decide (j ∈ is)) n1 → n1 ≤ is.length → (∀ b o, st.heap.get? b = some o → h1.get? b = some o) → R (.ref st.heap.objs.size) { st with heap := h1, toks := k1 }) :
    wpAny (model P v) Z (call (.type "set") [.ref q]) R Ex st := by
  have zs : its.size = is.length := by
    have e := IntsAre.length hi
    rwa [Array.length_toList] at e
  have ⟨m1, m2, m3⟩ := F.called_set.mro
  have ⟨m4, m5, m6, m7⟩ := And.intro F.called_set.made (And.intro F.called_set.sub (And.intro F.called_set.notType F.called_set.canCreate))
  have m8 := F.typeCall_set_1 (.ref q)
  refine wpAny_call (codeAny_of_tree (show wpAny _ _ (callAny (.type "set") _) _ _ _ from ?_))
  refine wpAny_pure (And.intro (Code.quiet_builtin _ (by decide +kernel)) (codeAny_builtin F.entry_type_call ?_))
  rw [Around.under_plain (weight_type_call_type "set" [Value.ref q] []) rfl]
  repeat (any_goals (first | assumption | wp_step))
  refine codeAny_mono (code_set_led1 (.ref q) (E := Ex) (Q₁ := fun x t => x = .ref st.heap.objs.size ∧ t = { st with heap := st.heap.push (set0 v) }) (And.intro rfl rfl)) fun r1 t1 hr => ?_
  cases r1 with
  | error e => exact hr
  | ok fl => cases fl with
    | ret x =>
      obtain ⟨rfl, rfl⟩ := hr
      have o0 : (st.heap.push (set0 v)).get? st.heap.objs.size = some (set0 v) := Heap.get?_push_size _ rfl
      have o1 : Shared.TypeIs { st with heap := st.heap.push (set0 v) } (.ref st.heap.objs.size) "set" := ⟨_, o0, rfl⟩
      have m9 := F.called_set.init.lookup
      have m10 := F.called_set.init.bind (Value.ref st.heap.objs.size)
      repeat (any_goals (first | assumption | wp_step))
      refine codeAny_mono (codeAny_call_builtin (R := wants (fun r t => r = .none ∧ ∃ h1 k1 n1, t = { st with heap := h1, toks := k1 } ∧ SetR v h1 st.heap.objs.size (fun j => decide (j ∈ is)) n1 ∧ n1 ≤ is.length ∧
        ∀ b o, st.heap.get? b = some o → h1.get? b = some o) Ex) F.called_set.init.plain F.entry_set_init (check_set_init_1 o1 ?_)) fun r2 t2 hr2 => ?_
      · obtain ⟨⟨c1, c2, c3, c4⟩, g0, g1, n0, g2⟩ := hq
        dsimp only at g1 g2
        subst g1 g2
        have g3 : (st.heap.push (set0 v)).get? q = some { cls := .type "list", dict := c2, data := .seq its n0, slots := c4 } := Heap.get?_push_of_some _ g0
        have ⟨e1, e2⟩ := And.intro F.sub_list_set F.sub_list_frozenset
        have e3 : (Value.type "list" == Value.type "dict") = false := by decide
        have g4 : (st.heap.push (set0 v)).IsList q its := ⟨_, g3, rfl, n0, rfl⟩
        unfold Builtin.«set.__init__» noKeywords Builtin.Frozenset.updateFrom
        generalize hg : pyIter = pI
        wp_walk
        subst hg
        refine wpAny_pyIter_list g4 (wpAny_bind (wpAny_runValue ?_))
        have lt0 : q < st.heap.objs.size := Heap.lt_size g0
        have z1 : (st.heap.push (set0 v)).objs.size = st.heap.objs.size + 1 := Heap.size_push ..
        have hd3 : Z.in1.in1.in1.handled = none := by simp [hd]
        have ne1 : q ≠ (st.heap.push (set0 v)).objs.size := fun e => by rw [z1] at e; exact absurd (e ▸ lt0) (Nat.not_lt.mpr (Nat.le_succ _))
        have ne2 : st.heap.objs.size ∉ [(st.heap.push (set0 v)).objs.size, q] := fun hm => by
          rcases List.mem_cons.mp hm with e | e
          · rw [z1] at e; exact absurd e (Nat.ne_of_lt (Nat.lt_succ_self _))
          · rw [← List.mem_singleton.mp e] at lt0; exact Nat.lt_irrefl _ lt0
        have vals : ∀ (i : Nat) (u : Value), its[i]? = some u → ∃ k t, is[i]? = some k ∧ u = .int k t := fun i u hu => by
          have lt1 : i < is.length := by rw [← zs]; exact (Array.getElem?_eq_some_iff.mp hu).1
          obtain ⟨t, e⟩ := IntsAre.int_at hi i u (by rw [Array.getElem?_toList]; exact hu)
          exact ⟨is[i], t, List.getElem?_eq_getElem lt1, by rw [e, List.getD_eq_getElem?_getD, List.getElem?_eq_getElem lt1]; rfl⟩
        refine set_update_ints ((Walks.list hd3 _ q ne1 its).toS) st.heap.objs.size ne2 is zs hb vals (its.size - 0) 0 _ (by omega) (Nat.zero_le _) ⟨⟨_, Heap.get?_push_size _ rfl, rfl, rfl⟩, g4.push _⟩ ⟨0, Nat.le_refl 0, setR_new_at (Heap.get?_push_of_some _ o0)⟩ fun t3 n3 mv hn hs => ?_
        obtain ⟨h3, s2, d3, k3, s5⟩ := t3
        have ⟨x1, x2, x3⟩ := And.intro mv.gens (And.intro mv.drawn mv.os)
        dsimp only at x1 x2 x3
        subst x1 x2 x3
        refine wpAny_pure (show wpAny _ _ (ret Value.none) _ _ _ from wpAny_pure ⟨rfl, h3, k3, n3, rfl, hs, by rw [← zs]; exact hn, fun b o e => ?_⟩)
        have lb : b < st.heap.objs.size := Heap.lt_size e
        refine mv.heap b o (fun hm => ?_) (Heap.get?_push_of_some _ (Heap.get?_push_of_some _ e))
        rcases List.mem_cons.mp hm with z | z
        · exact absurd (z ▸ lb) (Nat.lt_irrefl _)
        · rw [List.mem_singleton.mp z, z1] at lb
          exact absurd lb (Nat.not_lt.mpr (Nat.le_succ _))
      · cases r2 with
        | error e => exact hr2
        | ok f2 => cases f2 with
          | ret r =>
            obtain ⟨rfl, h3, k3, n3, rfl, w1, w2, w3⟩ := hr2
            repeat (any_goals (first | assumption | wp_step))
            exact hR h3 k3 n3 w1 w2 w3
          | _ => exact hr2.elim
    | _ => exact hr.elim
end
section
variable {X : Cx}
/-- set(xs), xs a list of ints -/
def rSetI (K : PySem.W.Frag) (w : World) : List V → Hp → VK → Prop := fun vs H Q => ∃ (q : Addr) (is : List Int), vs = [V.ref q] ∧ SqL K H q (is.map V.int) ∧ is.length < 64 ∧
  ∀ (a : Addr) (n : Nat), H a = none → n ≤ is.length → Q (.ref a) (upd H a (SetO w a (fun j => decide (j ∈ is)) n))
theorem cr_setI (hc : X.calm = true) : CallR X (.type "set") (rSetI X.K X.w) := by
  intro pins s σ H vs us Q I r h
  obtain ⟨q, is, rfl, hq, h64, k⟩ := h
  rw [Vals.ref1 r]
  obtain ⟨its, rv, pl, _⟩ := I.list hq
  refine set_listI is (I.ok.hd hc) pl.isList (by simpa using ints_of_vals rv) (by unfold scanBound; omega) fun h1 k1 n1 R hn hk => ?_
  exact ⟨.ref s.heap.objs.size, upd H s.heap.objs.size (SetO X.w s.heap.objs.size (fun j => decide (j ∈ is)) n1), I.laid (t' := k1) hk (Nat.le_refl _) (setO_new R), rfl, k _ n1 (I.hok.fresh (Nat.le_refl _)) hn⟩
end
end L2
namespace G7
open PySem PySem.Spec
open L2 (V Hp HO St WX TE TS R2 OpR CallR MtR MtM SlR IxR Inv RelV Vals upd upd_same upd_ne ne_of_none SqL SqT Cx Room EP VK PE PT PA PI PG PGs PO Sp XK It TI TG TGs FnOk thn)
variable [WW]
theorem nubI_mem (is : List Int) (i : Int) : i ∈ nubI is ↔ i ∈ is := by
  induction is with
  | nil => simp [nubI]
  | cons x xs ih =>
    rw [nubI, List.mem_cons, List.mem_filter, ih, List.mem_cons]
    constructor
    · rintro (h | ⟨h, _⟩)
      · exact .inl h
      · exact .inr h
    · rintro (h | h)
      · exact .inl h
      · by_cases e : i = x
        · exact .inl e
        · exact .inr ⟨h, by simpa using e⟩
theorem nubI_len (is : List Int) : (nubI is).length ≤ is.length := by
  induction is with
  | nil => exact Nat.le_refl _
  | cons x xs ih =>
    rw [nubI, List.length_cons, List.length_cons]
    exact Nat.succ_le_succ (Nat.le_trans (List.length_filter_le _ _) ih)
theorem nubI_nd (is : List Int) : (nubI is).Nodup := by
  induction is with
  | nil => exact List.nodup_nil
  | cons x xs ih =>
    rw [nubI, List.nodup_cons]
    refine ⟨fun h => ?_, ih.filter _⟩
    have := (List.mem_filter.mp h).2
    simp at this
theorem set_eq {ns is : List Int} (h1 : ns.Pairwise (· < ·)) (h2 : ∀ k, k ∈ ns ↔ k ∈ is) : ns = (nubI is).mergeSort (fun a b => decide (a ≤ b)) := by
  refine sort_eq ?_ (h1.imp fun h => Int.le_of_lt h)
  refine (List.perm_ext_iff_of_nodup (h1.imp fun h => Int.ne_of_lt h) (nubI_nd is)).mpr fun k => ?_
  rw [h2, nubI_mem]
end G7

namespace G7
open PySem PySem.W PySem.SeqAt PySem.Spec
open L2 (V Hp HO St WX TE CallR Inv RelV Vals ObjOk upd upd_same upd_ne SqL SqT Cx EP VK PE)
variable [WW]
def SVO (v : World) (a : Addr) (us : List Value) : HO := .ext fun h => G7N.SV v h a us
theorem svo_new {Pg : Program} {v : World} {H : Hp} {h : Heap} {a : Addr} {us : List Value} (S : G7N.SV v h a us) : ObjOk Pg v H h a (SVO v a us) := by
  have ⟨o, es, ep, t, ho, r⟩ := S
  refine ⟨S, ⟨o, ho⟩, fun h1 h2 q k => ?_⟩
  obtain ⟨o, es, ep, t, ho, r⟩ := q
  exact ⟨o, es, ep, t, k o ho, r⟩
/-- keys, with their places -/
theorem keys_at {F H : Hp} (sub : Sub F H) : ∀ {ws : List V} {xs : List P}, HasPs F ws xs → (∀ x ∈ xs, x.key = true) → ∃ ks : List G7N.En, ws = ks.map (fun p => V.ref p.1) ∧ ks.map (·.2) = xs.map P.nk ∧
    ∀ p ∈ ks, (NK H (.ref p.1) p.2 ∧ p.2.depth ≤ 8) ∧ ∃ x ∈ xs, x.nk = p.2 ∧ HasP F (.ref p.1) x
  | _, _, .nil, _ => ⟨[], rfl, rfl, fun p hp => by cases hp⟩
  | _, _, .cons (v := v) (x := x) (xs := xs) h t, hk => by
    obtain ⟨ks, e1, e2, e3⟩ := keys_at sub t fun y hy => hk y (List.mem_cons_of_mem _ hy)
    obtain ⟨b, gk, hb⟩ := gk_of sub h (hk x List.mem_cons_self)
    refine ⟨(b, x.nk) :: ks, by rw [gk.e, e1]; rfl, by rw [List.map_cons, List.map_cons, e2], fun p hp => ?_⟩
    rcases List.mem_cons.mp hp with rfl | hp
    · exact ⟨⟨gk.nk, gk.d⟩, x, List.mem_cons_self, rfl, hb⟩
    · obtain ⟨q, y, hy, r⟩ := e3 p hp
      exact ⟨q, y, List.mem_cons_of_mem _ hy, r⟩
theorem keys_back {F : Hp} {xs : List P} : ∀ (L : List G7N.En), (∀ p ∈ L, ∃ x ∈ xs, x.nk = p.2 ∧ HasP F (.ref p.1) x) → ∃ ys, HasPs F (L.map fun p => V.ref p.1) ys ∧ ys.map P.nk = L.map (·.2) ∧ ∀ y ∈ ys, y ∈ xs
  | [], _ => ⟨[], .nil, rfl, fun y hy => by cases hy⟩
  | p :: L, h => by
    obtain ⟨ys, a, b, c⟩ := keys_back L fun q hq => h q (List.mem_cons_of_mem _ hq)
    obtain ⟨x, hx, e, hp⟩ := h p List.mem_cons_self
    refine ⟨x :: ys, .cons hp a, by rw [List.map_cons, List.map_cons, e, b], fun y hy => ?_⟩
    rcases List.mem_cons.mp hy with rfl | hy
    · exact hx
    · exact c y hy
theorem texts_at {F : Hp} : ∀ {ws : List V} {xs : List P} {us : List Value}, HasPs F ws xs → Vals ws us → (∀ x ∈ xs, isStrP x = true) → ∃ ks : List G7N.Tx, us = ks.map (fun p => Value.str p.1 p.2) ∧ xs = ks.map fun p => P.str p.1
  | _, _, _, .nil, r, _ => by cases r; exact ⟨[], rfl, rfl⟩
  | _, _, _, .cons (x := x) h t, r, hk => by
    cases r with | cons r1 r2 =>
    obtain ⟨ks, e1, e2⟩ := texts_at t r2 fun y hy => hk y (List.mem_cons_of_mem _ hy)
    have hx := hk x List.mem_cons_self
    cases x <;> simp [isStrP] at hx
    rename_i z
    cases h
    obtain ⟨k, rfl⟩ := (show ∃ k, _ = Value.str z k from r1)
    exact ⟨(z, k) :: ks, by rw [e1]; rfl, by rw [e2]; rfl⟩
theorem texts_back {F : Hp} : ∀ (L : List G7N.Tx), Vals (L.map fun p => V.str p.1) (L.map fun p => Value.str p.1 p.2) ∧ HasPs F (L.map fun p => V.str p.1) (L.map fun p => P.str p.1)
  | [] => ⟨.nil, .nil⟩
  | p :: L => ⟨.cons ⟨p.2, rfl⟩ (texts_back (F := F) L).1, .cons (.str p.1) (texts_back (F := F) L).2⟩
theorem nodup_map {α β : Type} {f : α → β} {l : List α} (h : (l.map f).Nodup) : l.Nodup := List.Pairwise.of_map f (fun _ _ n e => n (congrArg f e)) h
/-- set(xs) -/
theorem cr_setV {X : Cx} (hc : X.calm = true) (hu : X.A.units + 64 < cLine) : CallR X (.type "set") (fun vs H Q => ∃ (F : Hp) (q : Addr) (tup : Bool) (ws : List V) (xs : List P), vs = [.ref q] ∧ H q = some (if tup = true then .tup ws else .lst ws) ∧ Sub F H ∧ HasPs F ws xs ∧ setOk xs = true ∧
    ∀ a us ws' ys, H a = none → Vals ws' us → HasPs F ws' ys → ys.Perm (nubP xs) → Q (.ref a) (upd H a (SVO X.w a us))) := by
  intro pins s σ H vs us Q I r h
  obtain ⟨F, q, tup, ws, xs, rfl, hq, sub, hp, ok, k⟩ := h
  rw [L2.Vals.ref1 r]
  have hn : H s.heap.objs.size = none := I.hok.fresh (Nat.le_refl _)
  obtain ⟨its, rv, hl⟩ : ∃ its : List Value, Vals ws its ∧ if tup = true then s.heap.IsTuple q its.toArray else s.heap.IsList q its.toArray := by
    cases tup with
    | false =>
      obtain ⟨_, its, n, rv, hob⟩ := I.hok q _ hq
      exact ⟨its, rv, by rw [if_neg (by decide)]; exact ⟨_, hob, rfl, _, rfl⟩⟩
    | true =>
      obtain ⟨_, its, rv, o, ho, hcl, n, hd⟩ := I.hok q _ hq
      exact ⟨its, rv, by rw [if_pos rfl]; exact ⟨o, ho, hcl, n, hd⟩⟩
  have len := setOk_len ok
  have okk := ok
  simp only [setOk, Bool.and_eq_true, Bool.or_eq_true, List.all_eq_true] at ok
  rcases ok.2 with hk | hk
  · obtain ⟨ks, e1, e2⟩ := texts_at hp rv hk
    refine G7N.set_texts tup ks (I.ok.hd hc) hl (by simpa using e1) (by rw [e2, List.length_map] at len; exact len) fun h' tk L S nd g kp => ?_
    obtain ⟨b1, b2⟩ := texts_back (F := F) L
    refine ⟨.ref s.heap.objs.size, upd H s.heap.objs.size (SVO X.w s.heap.objs.size _), I.laid (t' := tk) kp (Nat.le_refl _) (svo_new S), rfl, k _ _ _ _ hn b1 b2 (perm_nub okk ?_ ?_ ?_)⟩
    · refine List.pairwise_map.mpr ((List.pairwise_map.mp nd).imp fun n e => n ?_)
      injection e
    · intro y hy
      obtain ⟨p, hp, rfl⟩ := List.mem_map.mp hy
      rw [e2]
      exact List.mem_map.mpr ⟨p, List.mem_of_mem_take (g.sub p hp), rfl⟩
    · intro x hx
      rw [e2] at hx
      obtain ⟨p, hp, rfl⟩ := List.mem_map.mp hx
      obtain ⟨p', hp', e⟩ := List.mem_map.mp (g.all p (by rw [List.take_length]; exact hp))
      exact List.mem_map.mpr ⟨p', hp', by rw [e]⟩
  · obtain ⟨ks, e1, e2, e3⟩ := keys_at sub hp hk
    have e4 : its = ks.map fun p => Value.ref p.1 := by
      subst e1
      clear e2 e3 hq hl hp
      induction ks generalizing its with
      | nil => cases rv; rfl
      | cons p ks ih =>
        cases rv with
        | cons r1 r2 =>
          cases r1
          rw [ih _ r2]; rfl
    have zl : ks.length = xs.length := by
      have := congrArg List.length e2
      simpa using this
    refine G7N.set_keys tup ks (I.ok.hd hc) hl (by simpa using e4) (fun p hp => ⟨NK.is I _ _ _ (e3 p hp).1.1 rfl, (e3 p hp).1.2⟩) (by omega) (by omega) fun h' tk L S nd g kp => ?_
    have lk : ∀ p ∈ L, p ∈ ks := fun p hp => List.mem_of_mem_take (g.sub p hp)
    obtain ⟨ys, y1, y2, y3⟩ := keys_back (F := F) (xs := xs) L fun p hp => (e3 p (lk p hp)).2
    have rv2 : Vals (L.map fun p => V.ref p.1) (L.map fun p => Value.ref p.1) := by
      clear S nd g lk y1 y2 y3
      induction L with
      | nil => exact .nil
      | cons p L ih => exact .cons rfl ih
    refine ⟨.ref s.heap.objs.size, upd H s.heap.objs.size (SVO X.w s.heap.objs.size _), I.laid (t' := tk) kp (Nat.le_refl _) (svo_new S), rfl, k _ _ _ _ hn rv2 y1 (perm_nub okk ?_ y3 ?_)⟩
    · exact nodup_map (f := P.nk) (by rw [y2]; exact nd)
    · intro x hx
      have : x.nk ∈ ks.map (·.2) := by rw [e2]; exact List.mem_map.mpr ⟨x, hx, rfl⟩
      obtain ⟨p, hp, ep⟩ := List.mem_map.mp this
      have m := g.all p (by rw [List.take_length]; exact hp)
      rw [← y2, ep] at m
      obtain ⟨y, hy, ey⟩ := List.mem_map.mp m
      rw [← key_one (hk y (y3 y hy)) (hk x hx) ey]; exact hy
/-- len(set) -/
theorem cr_lenV {X : Cx} : CallR X (.builtin "len") (fun vs H Q => ∃ a us, vs = [.ref a] ∧ H a = some (SVO X.w a us) ∧ Q (.int us.length) H) := by
  intro pins s σ H vs us Q I r h
  obtain ⟨a, us, rfl, ha, q⟩ := h
  rw [L2.Vals.ref1 r]
  obtain ⟨o, es, ep, t, go, gx, gd, ge, gf, _, _, gl⟩ : G7N.SV X.w s.heap a us := (I.hok a _ ha).1
  have e : es.size = us.length := by rw [← ge, List.length_map, Array.length_toList]
  refine call_len_set go gx gd gf (by omega) ?_
  rw [e]
  exact ⟨.int us.length, H, I.tok _, ⟨_, rfl⟩, q⟩
theorem each_perm {α β : Type} {R : α → β → Prop} {us vs : List α} (p : vs.Perm us) : ∀ {xs : List β}, EachIs R us xs → ∃ ys, EachIs R vs ys ∧ ys.Perm xs := by
  induction p with
  | nil => intro xs h; cases h; exact ⟨[], .nil, .nil⟩
  | cons a _ ih =>
    intro xs h
    cases h with | cons h1 h2 =>
    obtain ⟨ys, y1, y2⟩ := ih h2
    exact ⟨_ :: ys, .cons h1 y1, y2.cons _⟩
  | swap a b _ =>
    intro xs h
    cases h with | cons h1 h2 =>
    cases h2 with | cons h2 h3 => exact ⟨_, .cons h2 (.cons h1 h3), .swap _ _ _⟩
  | trans _ _ i1 i2 =>
    intro xs h
    obtain ⟨ys, y1, y2⟩ := i2 h
    obtain ⟨zs, z1, z2⟩ := i1 y1
    exact ⟨zs, z1, z2.trans y2⟩
theorem each_len {α β : Type} {R : α → β → Prop} : ∀ {us : List α} {xs : List β}, EachIs R us xs → us.length = xs.length
  | _, _, .nil => rfl
  | _, _, .cons _ t => congrArg (· + 1) (each_len t)
theorem vals_len {ws : List V} {us : List Value} (r : Vals ws us) : ws.length = us.length := r.length
/-- sorted(set) -/
theorem cr_sortedV {X : Cx} (hc : X.calm = true) (hu : X.A.units + 64 < cLine) : CallR X (.builtin "sorted") (fun vs H Q => ∃ (F : Hp) (a : Addr) (us : List Value) (ws : List V) (ys : List P), vs = [.ref a] ∧ H a = some (SVO X.w a us) ∧ Sub F H ∧ Vals ws us ∧ HasPs F ws ys ∧
    srtOk ys = true ∧ (∀ x ∈ ys, ∀ y ∈ ys, x.eqv y = true → x = y) ∧ ∀ p us, H p = none → HasPs F us (srtP ys) → Q (.ref p) (upd H p (.lst us))) := by
  intro pins s σ H vs us Q I r h
  obtain ⟨F, a, us, ws, ys, rfl, ha, sub, rv, hp, hk, one, q⟩ := h
  rw [L2.Vals.ref1 r]
  obtain ⟨o, es, ep, t, go, gx, gd, ge, gf, gr, gled, gl⟩ : G7N.SV X.w s.heap a us := (I.hok a _ ha).1
  have er : EachIs (fun v x => ∃ y : V, RelV y v ∧ HasP F y x) us ys := each_vals rv hp
  refine Calls.call_function_entry PyProof.Rows.kind_sorted PyProof.Rows.plain_sorted PyProof.Rows.entry_sorted (PyProof.Rows.args_sorted1 _) ?_
  unfold Builtin.«sorted»
  refine wpAny_bind (m := checkCount "sorted" 1 1 _) (wpAny_pure ?_)
  have zs : es.size = us.length := by rw [← ge, List.length_map, Array.length_toList]
  refine wpAny_bind (L2.collect_set (A := X.A.in1) (I.ok.hd hc) ⟨o, go, gx.1, gd⟩ gf (by rw [zs]; unfold scanBound; omega) gr gled fun s1 out k1 hz g1 o1 pm => ?_)
  rw [ge] at pm
  obtain ⟨zs2, er2, pz⟩ := each_perm pm er
  obtain ⟨se, hk2⟩ := srt_perm pz hk one
  have ol : out.length < 64 := by rw [pm.length_eq]; exact gl
  refine wpAny_bind (wpAny_newList ?_ (by rw [sizeLine_eq]; omega))
  have hoL : (s1.heap.push (PyProof.Rows.seqObj "list" out.toArray 0)).get? s1.heap.objs.size = some (PyProof.Rows.seqObj "list" out.toArray 0) := Heap.get?_push_size _ rfl
  have old : ∀ b u, s.heap.get? b = some u → (sortingHeap (s1.heap.push (PyProof.Rows.seqObj "list" out.toArray 0)) s1.heap.objs.size out).get? b = some u := fun b u e => by
    have e1 := k1 b u e
    have lt := Heap.lt_size e1
    unfold sortingHeap
    refine Heap.get?_push_of_some _ (Heap.get?_push_of_some _ ?_)
    rw [Heap.get?_update_ne _ _ _ _ (Nat.ne_of_lt lt)]
    exact Heap.get?_push_of_some _ e1
  have rd : EachIs (fun v x => ∃ as, Reads s.heap v (P.py x) as) out zs2 := er2.mono fun v x ⟨y, h1, h2⟩ => L2.Dp.reads I _ y v (HasP.dp (K := X.K) sub x y h2) h1
  have rd' : EachIs (fun v x => ∃ as, Reads (sortingHeap (s1.heap.push (PyProof.Rows.seqObj "list" out.toArray 0)) s1.heap.objs.size out) v (P.py x) as) out zs2 := rd.mono fun _ _ ⟨as, r⟩ => ⟨as, PyProof.Rows.Reads.keeps old r⟩
  have un : X.A.in1.in1.units = X.A.units + 1 + 1 := rfl
  refine wpAny_bind (wpAny_holding (wpAny_call_entry PyProof.Rows.slot_list_sort ⟨_, hoL, rfl⟩ PyProof.Rows.entry_list_sort (list_sort_vals (s := { s1 with heap := s1.heap.push (PyProof.Rows.seqObj "list" out.toArray 0) }) hoL (SortsAt.P (s := { s1 with heap := sortingHeap (s1.heap.push (PyProof.Rows.seqObj "list" out.toArray 0)) s1.heap.objs.size out }) rd' hk2 (by omega)) (by rw [sizeLine_eq]; omega) ⟨_, rfl, ?_⟩) (PyProof.Rows.args_list_sort _)))
  have so := sortVals_each (κ := pKind (sortingHeap (s1.heap.push (PyProof.Rows.seqObj "list" out.toArray 0)) s1.heap.objs.size out) zs2) (rev := false) tk er2 ((each_mem rd').mono fun v x ⟨⟨as, r⟩, hx⟩ => pKind_some hx r)
  have e2 : zs2.mergeSort (sortLe (pKind (sortingHeap (s1.heap.push (PyProof.Rows.seqObj "list" out.toArray 0)) s1.heap.objs.size out) zs2).toKeyOrd false tk) = srtP ys := (srt_le hk2).trans se
  rw [e2] at so
  obtain ⟨us', h1, h2⟩ := vals_each so
  obtain ⟨c, hcp⟩ := PyProof.Rows.sortedHeap_at (vs := out) (out := (sortVals (pKind (sortingHeap (s1.heap.push (PyProof.Rows.seqObj "list" out.toArray 0)) s1.heap.objs.size out) zs2) false out out).toArray) hoL
  have hlen : us'.length ≤ sizeLine := by
    rw [h2.length]
    unfold srtP
    rw [List.length_mergeSort, ← pz.length_eq, ← each_len er2, sizeLine_eq]; omega
  have kp : ∀ b u, s.heap.get? b = some u → (PyProof.Rows.sortedHeap (s1.heap.push (PyProof.Rows.seqObj "list" out.toArray 0)) s1.heap.objs.size out (sortVals (pKind (sortingHeap (s1.heap.push (PyProof.Rows.seqObj "list" out.toArray 0)) s1.heap.objs.size out) zs2) false out out).toArray).get? b = some u := fun b u e => by
    have e1 := k1 b u e
    have lt := Heap.lt_size e1
    rw [PyProof.Rows.sortedHeap_old (Nat.ne_of_lt lt) (by rw [PyProof.Rows.size_push']; exact Nat.lt_succ_of_lt lt)]
    exact Heap.get?_push_of_some _ e1
  generalize PyProof.Rows.sortedHeap (s1.heap.push (PyProof.Rows.seqObj "list" out.toArray 0)) s1.heap.objs.size out (sortVals (pKind (sortingHeap (s1.heap.push (PyProof.Rows.seqObj "list" out.toArray 0)) s1.heap.objs.size out) zs2) false out out).toArray = h9 at *
  have hn : H s1.heap.objs.size = none := I.hok.fresh hz
  have J : L2.Inv X pins σ (upd H s1.heap.objs.size (.lst us')) { s with heap := h9, gens := s1.gens, drawn := s1.drawn, toks := s1.toks } :=
    I.call (ch := []) (L2.Un.laid kp hz hn) (I.hok.laid kp hz ⟨hlen, _, c, h1, hcp⟩) (by rw [g1]; exact I.bare) (fun _ z => nomatch z)
  refine wpAny_pure ⟨_, rfl, .ref s1.heap.objs.size, _, ?_, rfl, q _ _ hn h2⟩
  have e : ({ s1 with heap := h9 } : Shared) = { s with heap := h9, gens := s1.gens, drawn := s1.drawn, toks := s1.toks } := by
    cases s1
    cases s
    cases o1
    rfl
  rw [e]
  exact J
end G7

namespace G7
open PySem PySem.Spec
open L2 (V Hp HO St WX TE TS R2 OpR CallR MtR MtM SlR IxR Inv RelV Vals upd upd_same upd_ne ne_of_none SqL SqT Cx Room EP VK PE PT PA PI PG PGs PO Sp XK It TI TG TGs FnOk thn)
variable [WW]
section
variable {T : Tabs} {G : Fns} {k : Nat} {c : Ct} {W : WX} {X : Cx} {xc : Nat → Value} {a b d : Expr} {as : List Expr} {fa fb fc : Sl → Sto → R D} {pos : Pos}
theorem nub_one {xs : List P} (h : setOk xs = true) {ys : List P} (p : ys.Perm (nubP xs)) : ∀ x ∈ ys, ∀ y ∈ ys, x.eqv y = true → x = y := fun x hx y hy e => (setOk_eq h (nubP_sub _ _ (p.mem_iff.mp hx)) (nubP_sub _ _ (p.mem_iff.mp hy))).mp e
theorem nub_one' {xs : List P} (h : setOk xs = true) : ∀ x ∈ nubP xs, ∀ y ∈ nubP xs, x.eqv y = true → x = y := nub_one h (.refl _)
theorem srt_len (xs : List P) : (srtP xs).length = xs.length := List.length_mergeSort _
theorem nubP_len (xs : List P) : (nubP xs).length ≤ xs.length := by
  induction xs with
  | nil => exact Nat.le_refl _
  | cons x xs ih =>
    rw [nubP, List.length_cons, List.length_cons]
    exact Nat.succ_le_succ (Nat.le_trans (List.length_filter_le _ _) ih)
theorem l_sset (hX : XE T G k c W X) {x z : Str} {p p2 pos2 : Pos} (hx : x = "sorted") (hf : T.free c x = true) (hz : z = "set") (hfz : T.free c z = true) (ha : PE X a (tE X.K xc W fa)) (hp : plainE a = true) :
    PE X (.Call (.Name x p) [.Call (.Name z p2) [a] [] pos2] [] pos) (tL X.K xc W fun σ s => (fa σ s).bind fun d s => ssetD d s) := by
  obtain ⟨hg, hm, hd, hn⟩ := hX.isFree hf
  obtain ⟨hg2, hm2, hd2, hn2⟩ := hX.isFree hfz
  subst hx hz
  have hs := star1 (xs := []) (env := X.env) hp
  have inner := L2.pe_callTy (p := p2) (pos := pos2) (CallR.or (L2.cr_setI hX.calm) (cr_setV hX.calm hX.units)) hg2 hm2 (by decide +kernel) (L2.pa_cons ha L2.pa_nil hs) hn2 hd2 hs rfl
  refine PE.imp (L2.pe_callB (CallR.or (L2.cr_sortedSet hX.calm) (cr_sortedV hX.calm hX.units)) hg hm (by decide +kernel) (L2.pa_cons inner L2.pa_nil rfl) hn hd rfl rfl) fun σ H Q ⟨F, ρ, τ, s, st, sl, h⟩ => ?_
  refine ⟨F, ρ, τ, s, st, sl, h.bind.imp fun d s1 F1 H1 ρ1 e1 st1 h1 x hx => ?_⟩
  have gen : ∀ (tup : Bool) (q : Addr) (vs : List V) (xs : List P), H1 q = some (if tup = true then .tup vs else .lst vs) → HasPs F1 vs xs → setOk xs = true → srtOk (nubP xs) = true → RP xc W σ F1 H1 ρ1 (.ok (srtP (nubP xs)) s1) (CL X.K Q) →
      ∀ a us ws' ys, H1 a = none → Vals ws' us → HasPs F1 ws' ys → ys.Perm (nubP xs) → ∃ (F : Hp) (a' : Addr) (us' : List Value) (ws : List V) (ys : List P), [V.ref a] = [.ref a'] ∧ upd H1 a (SVO X.w a us) a' = some (SVO X.w a' us') ∧ Sub F (upd H1 a (SVO X.w a us)) ∧ Vals ws us' ∧ HasPs F ws ys ∧
        srtOk ys = true ∧ (∀ x ∈ ys, ∀ y ∈ ys, x.eqv y = true → x = y) ∧ ∀ p us2, upd H1 a (SVO X.w a us) p = none → HasPs F us2 (srtP ys) → Q (.ref p) (upd (upd H1 a (SVO X.w a us)) p (.lst us2)) := by
    intro tup q vs xs hq r ok sok h1 a us ws' ys hna v1 v2 v3
    obtain ⟨se, sk⟩ := srt_perm v3 sok (nub_one' ok)
    refine ⟨upd F1 a (SVO X.w a us), a, us, ws', ys, rfl, upd_same, (st1.sub).ups hna, v1, HasPs.mono (sub_upd (st1.sub.none hna)) _ _ v2, sk, nub_one ok v3, fun p us2 hp h2 => ?_⟩
    refine (h1.mono (st1.xnew hna)).now (st1.new hna) p _ hp ?_ (by rw [← se]; exact h2)
    rw [srt_len]
    have := setOk_len ok
    have := nubP_len xs
    rw [sizeLine_eq]; omega
  unfold ssetD at h1
  split at h1
  · rename_i xs hxs
    obtain ⟨q, vs, rfl, h2, r, z⟩ := (get_sees st1 hx hxs).lst st1.sub
    split at h1
    · rename_i is his
      split at h1
      · rename_i h64
        have e := ints_has his r
        subst e
        refine .inl ⟨q, is, rfl, SqL.of h2, h64, fun a n hna hn => ?_⟩
        refine .inl ⟨a, _, n, rfl, upd_same, Nat.lt_of_le_of_lt hn h64, fun ns p h3 h4 h5 hp => ?_⟩
        rw [set_eq (is := is) h3 fun k => (h4 k).trans decide_eq_true_iff]
        refine (h1.mono (st1.xnew hna)).now (st1.new hna) p _ hp ?_ (has_ints _)
        rw [List.length_map, List.length_mergeSort]
        have : (nubI is).length ≤ is.length := nubI_len is
        exact Nat.le_trans this (Nat.le_trans (Nat.le_of_lt h64) (by rw [sizeLine_eq]; omega))
      · exact h1.elim
    · split at h1
      · rename_i ok
        exact .inr ⟨F1, q, false, vs, xs, rfl, h2, st1.sub, r, ok.1, fun a us ws' ys hna v1 v2 v3 => .inr (gen false q vs xs h2 r ok.1 ok.2 h1 a us ws' ys hna v1 v2 v3)⟩
      · exact h1.elim
  · rename_i xs hxs
    obtain ⟨q, vs, rfl, _, h2, r, z⟩ := (get_sees st1 hx hxs).tup st1.sub
    split at h1
    · rename_i ok
      exact .inr ⟨F1, q, true, vs, xs, rfl, h2, st1.sub, r, ok.1, fun a us ws' ys hna v1 v2 v3 => .inr (gen true q vs xs h2 r ok.1 ok.2 h1 a us ws' ys hna v1 v2 v3)⟩
    · exact h1.elim
  · exact h1.elim
theorem s_lset (hX : XE T G k c W X) {x z : Str} {p p2 pos2 : Pos} (hx : x = "len") (hf : T.free c x = true) (hz : z = "set") (hfz : T.free c z = true) (ha : PE X a (tE X.K xc W fa)) (hp : plainE a = true) :
    PE X (.Call (.Name x p) [.Call (.Name z p2) [a] [] pos2] [] pos) (tE X.K xc W fun σ s => (fa σ s).bind fun d s => lsetD d s) := by
  obtain ⟨hg, hm, hd, hn⟩ := hX.isFree hf
  obtain ⟨hg2, hm2, hd2, hn2⟩ := hX.isFree hfz
  subst hx hz
  have hs := star1 (xs := []) (env := X.env) hp
  have inner := L2.pe_callTy (p := p2) (pos := pos2) (cr_setV hX.calm hX.units) hg2 hm2 (by decide +kernel) (L2.pa_cons ha L2.pa_nil hs) hn2 hd2 hs rfl
  refine PE.imp (L2.pe_callB cr_lenV hg hm (by decide +kernel) (L2.pa_cons inner L2.pa_nil rfl) hn hd rfl rfl) fun σ H Q ⟨F, ρ, τ, s, st, sl, h⟩ => ?_
  refine ⟨F, ρ, τ, s, st, sl, h.bind.imp fun d s1 F1 H1 ρ1 e1 st1 h1 x hx => ?_⟩
  have gen : ∀ (tup : Bool) (q : Addr) (vs : List V) (xs : List P), H1 q = some (if tup = true then .tup vs else .lst vs) → HasPs F1 vs xs → setOk xs = true → RP xc W σ F1 H1 ρ1 (.ok (.p (.int (nubP xs).length)) s1) (CV X.K Q) →
      ∀ a us ws' ys, H1 a = none → Vals ws' us → HasPs F1 ws' ys → ys.Perm (nubP xs) → ∃ a' us', [V.ref a] = [.ref a'] ∧ upd H1 a (SVO X.w a us) a' = some (SVO X.w a' us') ∧ Q (.int us'.length) (upd H1 a (SVO X.w a us)) := by
    intro tup q vs xs hq r ok h1 a us ws' ys hna v1 v2 v3
    refine ⟨a, us, rfl, upd_same, ?_⟩
    have e : us.length = (nubP xs).length := by rw [← v3.length_eq, ← v2.length, v1.length]
    rw [e]
    exact (h1.mono (st1.xnew hna)).now (st1.new hna) _ (.p (.int _))
  unfold lsetD setL at h1
  cases hg1 : s1.get d with
  | none => rw [hg1] at h1; exact h1.elim
  | some y =>
    rw [hg1] at h1
    cases y with
    | lst xs =>
      obtain ⟨q, vs, rfl, h2, r, z⟩ := (get_sees st1 hx hg1).lst st1.sub
      by_cases ok : setOk xs = true
      · simp only [ok, if_true, Option.map_some, R.of_some] at h1
        exact ⟨F1, q, false, vs, xs, rfl, h2, st1.sub, r, ok, gen false q vs xs h2 r ok h1⟩
      · simp only [ok] at h1; exact h1.elim
    | tup xs =>
      obtain ⟨q, vs, rfl, _, h2, r, z⟩ := (get_sees st1 hx hg1).tup st1.sub
      by_cases ok : setOk xs = true
      · simp only [ok, if_true, Option.map_some, R.of_some] at h1
        exact ⟨F1, q, true, vs, xs, rfl, h2, st1.sub, r, ok, gen true q vs xs h2 r ok h1⟩
      · simp only [ok] at h1; exact h1.elim
    | _ => exact h1.elim
end
end G7

namespace G7
open PySem PySem.Spec
open L2 (V Hp HO St WX TE TS R2 OpR CallR MtR MtM SlR IxR Inv RelV Vals upd upd_same upd_ne ne_of_none SqL SqT Cx Room EP VK PE PT PA PI PG PGs PO Sp XK It TI TG TGs FnOk thn)
variable [WW]

theorem PE.eq {X : Cx} {x : Expr} {K : PySem.W.Frag} {xc : Nat → Value} {W : WX} {f g : Sl → Sto → R D} (h : PE X x (tE K xc W f)) (e : ∀ τ s, g τ s = f τ s) : PE X x (tE K xc W g) := by
  have : g = f := funext fun τ => funext fun s => e τ s
  rw [this]; exact h
theorem PL.eq {X : Cx} {x : Expr} {K : PySem.W.Frag} {xc : Nat → Value} {W : WX} {f g : Sl → Sto → R (List P)} (h : PE X x (tL K xc W f)) (e : ∀ τ s, g τ s = f τ s) : PE X x (tL K xc W g) := by
  have : g = f := funext fun τ => funext fun s => e τ s
  rw [this]; exact h
theorem PT.eq {X : Cx} {x : Expr} {K : PySem.W.Frag} {xc : Nat → Value} {W : WX} {f g : Sl → Sto → R D} (h : PT X x (tT K xc W f)) (e : ∀ τ s, g τ s = f τ s) : PT X x (tT K xc W g) := by
  have : g = f := funext fun τ => funext fun s => e τ s
  rw [this]; exact h
theorem PW.eq {X : Cx} {x : Expr} {K : PySem.W.Frag} {xc : Nat → Value} {W : WX} {f g : Sl → Sto → R D} (h : L2.PW X x (tT K xc W f)) (e : ∀ τ s, g τ s = f τ s) : L2.PW X x (tT K xc W g) := by
  have : g = f := funext fun τ => funext fun s => e τ s
  rw [this]; exact h
theorem PI.eq {X : Cx} {t x : Expr} {K : PySem.W.Frag} {xc : Nat → Value} {W : WX} {f g : Sl → Sto → R Src} (h : PI X t x (tI K xc W f)) (e : ∀ τ s, g τ s = f τ s) : PI X t x (tI K xc W g) := by
  have : g = f := funext fun τ => funext fun s => e τ s
  rw [this]; exact h
theorem PAs.eq {X : Cx} {x : List Expr} {K : PySem.W.Frag} {xc : Nat → Value} {W : WX} {f g : Sl → Sto → R (List D)} (h : PA X x (tA K xc W f)) (e : ∀ τ s, g τ s = f τ s) : PA X x (tA K xc W g) := by
  have : g = f := funext fun τ => funext fun s => e τ s
  rw [this]; exact h
theorem marks2 {o1 o2 : CmpOp} {b d : Expr} (hb : plainE b = true) (hd : plainE d = true) : lastMarks [o1, o2] [b, d] = false := by
  cases d <;> first | rfl | (simp [plainE] at hd)
/-- no test of its own kind -/
def valT : E → Bool
  | .cmp _ _ _ => false
  | .chain _ _ _ _ _ => false
  | .and _ => false
  | .or _ => false
  | .not _ => false
  | .ite _ _ _ => false
  | .nev => false
  | _ => true
theorem ckT_plain {T : Tabs} {c : Ct} {e : E} {x : Expr} (h : ckE T c e x = true) (hv : valT e = true) : plainT x = true := by
  cases hp : plainT x with
  | true => rfl
  | false =>
    exfalso
    unfold plainT at hp
    split at hp
    · cases e <;> first | (simp [valT] at hv; done) | (simp [ckE, plainE] at h; done) | (rename_i l; cases l <;> simp [ckE, ckL] at h; done)
    · cases e <;> first | (simp [valT] at hv; done) | (simp [ckE, plainE] at h; done) | (rename_i l; cases l <;> simp [ckE, ckL] at h; done)
    · cases e <;> first | (simp [valT] at hv; done) | (simp [ckE, plainE] at h; done) | (rename_i l; cases l <;> simp [ckE, ckL] at h; done)
    · cases e <;> first | (simp [valT] at hv; done) | (simp [ckE, plainE] at h; done) | (rename_i l; cases l <;> simp [ckE, ckL] at h; done)
    · cases hp
theorem ck_plain {T : Tabs} {c : Ct} {e : E} {x : Expr} (h : ckE T c e x = true) : plainE x = true := by
  cases hp : plainE x with
  | true => rfl
  | false =>
    exfalso
    unfold plainE at hp
    split at hp
    · cases e <;> first | (simp [ckE, plainE] at h; done) | (rename_i l; cases l <;> simp [ckE, ckL] at h; done)
    · cases e <;> first | (simp [ckE, plainE] at h; done) | (rename_i l; cases l <;> simp [ckE, ckL] at h; done)
    · cases e <;> first | (simp [ckE, plainE] at h; done) | (rename_i l; cases l <;> simp [ckE, ckL] at h; done)
    · cases e <;> first | (simp [ckE, plainE] at h; done) | (rename_i l; cases l <;> simp [ckE, ckL] at h; done)
    · cases hp
section
variable {T : Tabs} {G : Fns} {k : Nat} {X : Cx} {xc : Nat → Value}
theorem step_none {K : PySem.W.Frag} {f : Sl → Sto → R D} {W : WX} : StepOk K (fun τ s => (f τ s).bind fun x s => (match x with
          | .p a => .ok (some a) s
          | _ => .bad)) L2.tYes (tE K xc W f) := by
  intro σ τ F H ρ s s' o A B st sl he hk
  show if true = true then tE K xc W f σ H A else B H
  rw [if_pos rfl]
  refine ⟨F, ρ, τ, s, st, sl, ?_⟩
  simp only at he
  cases hf : f τ s with
  | bad => rw [hf] at he; cases he
  | exc n s1 => rw [hf] at he; cases he
  | ok d s1 =>
    rw [hf, R.bind_ok] at he
    cases d with
    | p a =>
      cases he
      intro F' H' ρ' e' st' y hy
      cases hy with | p hy => exact hk F' H' ρ' e' st' y hy
    | _ => cases he
theorem step_some {K : PySem.W.Frag} {f g : Sl → Sto → R D} {W W' : WX} : StepOk K (fun τ s => (g τ s).bind fun k s => (match k with
          | .p (.bl true) => (f τ s).bind fun x s => (match x with
            | .p a => .ok (some a) s
            | _ => .bad)
          | .p (.bl false) => .ok none s
          | _ => .bad)) (tT K xc W' g) (tE K xc W f) := by
  intro σ τ F H ρ s s' o A B st sl he hk
  refine ⟨F, ρ, τ, s, st, sl, ?_⟩
  simp only at he
  cases hg : g τ s with
  | bad => rw [hg] at he; cases he
  | exc n s1 => rw [hg] at he; cases he
  | ok d s1 =>
    rw [hg, R.bind_ok] at he
    intro F1 H1 ρ1 e1 st1
    split at he
    · refine ⟨true, rfl, ?_⟩
      show if true = true then _ else _
      rw [if_pos rfl]
      refine ⟨F1, ρ1, τ, s1, st1, sl.mono e1, ?_⟩
      cases hf : f τ s1 with
      | bad => rw [hf] at he; cases he
      | exc n s1 => rw [hf] at he; cases he
      | ok d s2 =>
        rw [hf, R.bind_ok] at he
        cases d with
        | p a =>
          cases he
          intro F' H' ρ' e' st' y hy
          cases hy with | p hy => exact hk F' H' ρ' (e1.trans e') st' y hy
        | _ => cases he
    · refine ⟨false, rfl, ?_⟩
      show if false = true then _ else _
      rw [if_neg (by decide)]
      cases he
      exact hk F1 H1 ρ1 e1 st1
    · cases he
end
section
variable {T : Tabs} {G : Fns} {k : Nat}
mutual
theorem snE : ∀ (e : E) {c : Ct} {W : WX} {X : Cx} {x : Expr}, XE T G k c W X → ckE T c e x = true → PE X x (tE X.K (xcOf T X.K) W (ev G e))
  | .var i, c, W, X, x, hX, h => by
    unfold ckE at h; split at h
    all_goals first | (cases h; done) | (rename_i hz; cases hz; done) | skip
    rename_i y pos
    obtain ⟨h1, h2⟩ := ba h
    obtain ⟨h2, h3⟩ := ba h2
    exact s_var hX (of_decide_eq_true h1) h2 h3
  | .con a, c, W, X, x, hX, h => by
    unfold ckE at h; split at h
    all_goals first | (cases h; done) | (rename_i hz; cases hz; done) | skip
    rename_i q j pos
    exact PE.eq (s_con h) fun τ s => by rw [ev]; try rfl
  | .glb y a, c, W, X, x, hX, h => by
    unfold ckE at h; split at h
    all_goals first | (cases h; done) | (rename_i hz; cases hz; done) | skip
    rename_i y3 pos
    obtain ⟨h1, h2⟩ := ba h
    obtain ⟨h2, h3⟩ := ba h2
    obtain ⟨h3, h4⟩ := ba h3
    exact PE.eq (s_glb hX h2 h3 h4) fun τ s => by rw [ev]; try rfl
  | .tup es, c, W, X, x, hX, h => by
    unfold ckE at h; split at h
    all_goals first | (cases h; done) | (rename_i hz; cases hz; done) | skip
    rename_i xs kk pos
    obtain ⟨h1, h2⟩ := ba h
    exact PE.eq (s_tup (snEs es hX h1) h1 (of_decide_eq_true h2)) fun τ s => by rw [ev]; try rfl
  | .fz l, c, W, X, x, hX, h => by
    have h : ckL T c l x = true := by unfold ckE at h; exact h
    exact PE.eq (s_fz (snL l hX h)) fun τ s => by rw [ev]; try rfl
  | .own l, c, W, X, x, hX, h => by
    have h : ckL T c l x = true := by unfold ckE at h; exact h
    exact PE.eq (s_own (snL l hX h)) fun τ s => by rw [ev]; try rfl
  | .bin op a b, c, W, X, x, hX, h => by
    unfold ckE at h; split at h
    all_goals first | (cases h; done) | (rename_i hz; cases hz; done) | skip
    rename_i y op3 z pos
    obtain ⟨h1, h2⟩ := ba h
    obtain ⟨h2, h3⟩ := ba h2
    have h1 := of_decide_eq_true h1
    subst h1
    exact PE.eq (s_bin (snE a hX h2) (snE b hX h3)) fun τ s => by rw [ev]; try rfl
  | .neg a, c, W, X, x, hX, h => by
    unfold ckE at h; split at h
    all_goals first | (cases h; done) | (rename_i hz; cases hz; done) | skip
    rename_i y pos
    exact PE.eq (s_neg (snE a hX h)) fun τ s => by rw [ev]; try rfl
  | .cmp op a b, c, W, X, x, hX, h => by
    unfold ckE at h; split at h
    all_goals first | (cases h; done) | (rename_i hz; cases hz; done) | skip
    rename_i y op3 z pos
    obtain ⟨h1, h2⟩ := ba h
    obtain ⟨h2, h3⟩ := ba h2
    have h1 := of_decide_eq_true h1
    subst h1
    exact PE.eq (s_cmp hX.ww hX.units (snE a hX h2) (snE b hX h3) (noSet1 op (ck_plain h3))) fun τ s => by rw [ev]; try rfl
  | .chain o1 o2 a b d, c, W, X, x, hX, h => by
    unfold ckE at h; split at h
    all_goals first | (cases h; done) | (rename_i hz; cases hz; done) | skip
    rename_i y o5 o6 z w pos
    obtain ⟨h1, h2⟩ := ba h
    obtain ⟨h2, h3⟩ := ba h2
    obtain ⟨h3, h4⟩ := ba h3
    obtain ⟨h4, h5⟩ := ba h4
    have h1 := of_decide_eq_true h1
    have h2 := of_decide_eq_true h2
    subst h1; subst h2
    exact PE.eq (s_chain hX.ww hX.units (snE a hX h3) (snE b hX h4) (snE d hX h5) (marks2 (ck_plain h4) (ck_plain h5))) fun τ s => by rw [ev]; try rfl
  | .and es, c, W, X, x, hX, h => by
    unfold ckE at h; split at h
    all_goals first | (cases h; done) | (rename_i hz; cases hz; done) | skip
    rename_i xs pos
    obtain ⟨h1, h2⟩ := ba h
    exact PE.eq (snAnd es hX h1 h2) fun τ s => by rw [ev]; try rfl
  | .or es, c, W, X, x, hX, h => by
    unfold ckE at h; split at h
    all_goals first | (cases h; done) | (rename_i hz; cases hz; done) | skip
    rename_i xs pos
    obtain ⟨h1, h2⟩ := ba h
    exact PE.eq (snOr es hX h1 h2) fun τ s => by rw [ev]; try rfl
  | .not a, c, W, X, x, hX, h => by
    unfold ckE at h; split at h
    all_goals first | (cases h; done) | (rename_i hz; cases hz; done) | skip
    rename_i y pos
    exact PE.eq (s_not (snE a hX h)) fun τ s => by rw [ev]; try rfl
  | .ite q a b, c, W, X, x, hX, h => by
    unfold ckE at h; split at h
    all_goals first | (cases h; done) | (rename_i hz; cases hz; done) | skip
    rename_i y z w pos
    obtain ⟨h0, h⟩ := ba h
    obtain ⟨h1, h2⟩ := ba h
    obtain ⟨h2, h3⟩ := ba h2
    exact PE.eq (s_ite (snT q hX h1 h0) (snE a hX h2) (snE b hX h3)) fun τ s => by rw [ev]; try rfl
  | .idx a i, c, W, X, x, hX, h => by
    unfold ckE at h; split at h
    all_goals first | (cases h; done) | (rename_i hz; cases hz; done) | skip
    rename_i y z pos
    obtain ⟨h1, h2⟩ := ba h
    exact PE.eq (s_idx (snE a hX h1) (snE i hX h2) (plainIx1 (ck_plain h2))) fun τ s => by rw [ev]; try rfl
  | .slc a lo hi, c, W, X, x, hX, h => by
    unfold ckE at h; split at h
    all_goals first | (cases h; done) | (rename_i hz; cases hz; done) | skip
    rename_i y l r p2 pos
    obtain ⟨h1, h2⟩ := ba h
    obtain ⟨h2, h3⟩ := ba h2
    obtain ⟨t1, k1, g1⟩ := sno lo hX h2
    obtain ⟨t2, k2, g2⟩ := sno hi hX h3
    exact PE.eq (s_slc (snE a hX h1) k1 k2 g1 g2) fun τ s => by rw [ev]; try rfl
  | .call f es, c, W, X, x, hX, h => by
    unfold ckE at h; split at h
    all_goals first | (cases h; done) | (rename_i hz; cases hz; done) | skip
    rename_i y p z zs pos
    obtain ⟨h1, h2⟩ := ba h
    obtain ⟨h2, h3⟩ := ba h2
    obtain ⟨h3, h4⟩ := ba h3
    exact PE.eq (s_call hX h1 h2 h3 h4 (snEs es hX h4)) fun τ s => by rw [ev]; try rfl
  | .isi a t, c, W, X, x, hX, h => by
    unfold ckE at h; split at h
    all_goals first | (cases h; done) | (rename_i hz; cases hz; done) | skip
    rename_i y p z w p2 pos
    obtain ⟨h1, h2⟩ := ba h
    obtain ⟨h2, h3⟩ := ba h2
    obtain ⟨h3, h4⟩ := ba h3
    obtain ⟨h4, h5⟩ := ba h4
    obtain ⟨h5, h6⟩ := ba h5
    exact PE.eq (s_isi hX (of_decide_eq_true h1) h2 (snE a hX h3) h4 (of_decide_eq_true h5) h6) fun τ s => by rw [ev]; try rfl
  | .b1 f a, c, W, X, x, hX, h => by
    unfold ckE at h; split at h
    all_goals first | (cases h; done) | (rename_i hz; cases hz; done) | skip
    rename_i y p z pos
    obtain ⟨h1, h2⟩ := ba h
    obtain ⟨h2, h3⟩ := ba h2
    obtain ⟨h3, h4⟩ := ba h3
    exact PE.eq (s_b1 hX (of_decide_eq_true h1) h2 (snE a hX h3) h4) fun τ s => by rw [ev]; try rfl
  | .b2 f a b, c, W, X, x, hX, h => by
    unfold ckE at h; split at h
    all_goals first | (cases h; done) | (rename_i hz; cases hz; done) | skip
    rename_i y p z w pos
    obtain ⟨h1, h2⟩ := ba h
    obtain ⟨h2, h3⟩ := ba h2
    obtain ⟨h3, h4⟩ := ba h3
    obtain ⟨h4, h5⟩ := ba h4
    obtain ⟨h5, h6⟩ := ba h5
    exact PE.eq (s_b2 hX (of_decide_eq_true h1) h2 (snE a hX h3) h4 (snE b hX h5) h6) fun τ s => by rw [ev]; try rfl
  | .m1 f a b, c, W, X, x, hX, h => by
    unfold ckE at h; split at h
    all_goals first | (cases h; done) | (rename_i hz; cases hz; done) | skip
    rename_i y m p z pos
    obtain ⟨h1, h2⟩ := ba h
    obtain ⟨h2, h3⟩ := ba h2
    obtain ⟨h3, h4⟩ := ba h3
    obtain ⟨h4, h5⟩ := ba h4
    obtain ⟨h5, h6⟩ := ba h5
    exact PE.eq (s_m1 (of_decide_eq_true h1) h2 (snE a hX h3) h4 (snE b hX h5) h6) fun τ s => by rw [ev]; try rfl
  | .app a b, c, W, X, x, hX, h => by
    unfold ckE at h; split at h
    all_goals first | (cases h; done) | (rename_i hz; cases hz; done) | skip
    rename_i y m p z pos
    obtain ⟨h1, h2⟩ := ba h
    obtain ⟨h2, h3⟩ := ba h2
    obtain ⟨h3, h4⟩ := ba h3
    obtain ⟨h4, h5⟩ := ba h4
    obtain ⟨h5, h6⟩ := ba h5
    have h1 := of_decide_eq_true h1
    subst h1
    exact PE.eq (s_app h2 (snE a hX h3) h4 (snE b hX h5) h6) fun τ s => by rw [ev]; try rfl
  | .pop a b, c, W, X, x, hX, h => by
    unfold ckE at h; split at h
    all_goals first | (cases h; done) | (rename_i hz; cases hz; done) | skip
    rename_i y m p z pos
    obtain ⟨h1, h2⟩ := ba h
    obtain ⟨h2, h3⟩ := ba h2
    obtain ⟨h3, h4⟩ := ba h3
    obtain ⟨h4, h5⟩ := ba h4
    obtain ⟨h5, h6⟩ := ba h5
    have h1 := of_decide_eq_true h1
    subst h1
    exact PE.eq (s_pop h2 (snE a hX h3) h4 (snE b hX h5) h6) fun τ s => by rw [ev]; try rfl
  | .ext a b, c, W, X, x, hX, h => by
    unfold ckE at h; split at h
    all_goals first | (cases h; done) | (rename_i hz; cases hz; done) | skip
    rename_i y m p z pos
    obtain ⟨h1, h2⟩ := ba h
    obtain ⟨h2, h3⟩ := ba h2
    obtain ⟨h3, h4⟩ := ba h3
    obtain ⟨h4, h5⟩ := ba h4
    obtain ⟨h5, h6⟩ := ba h5
    have h1 := of_decide_eq_true h1
    subst h1
    exact PE.eq (s_ext h2 (snE a hX h3) h4 (snE b hX h5) h6) fun τ s => by rw [ev]; try rfl
  | .jr sep a y z, c, W, X, x, hX, h => by
    unfold ckE at h; split at h
    all_goals first | (cases h; done) | (rename_i hz; cases hz; done) | skip
    rename_i sep3 j0 p0 j p2 w q2 r p y3 j1 p4 z3 j3 p5 pos
    obtain ⟨h1, h⟩ := ba h
    obtain ⟨h2, h⟩ := ba h
    obtain ⟨h3, h⟩ := ba h
    obtain ⟨h4, h⟩ := ba h
    obtain ⟨h5, h⟩ := ba h
    obtain ⟨h6, h⟩ := ba h
    obtain ⟨h7, h⟩ := ba h
    obtain ⟨h8, h⟩ := ba h
    obtain ⟨h9, h⟩ := ba h
    obtain ⟨ha, hb⟩ := ba h
    have h1 := of_decide_eq_true h1
    have h2 := of_decide_eq_true h2
    have h3 := of_decide_eq_true h3
    have h4 := of_decide_eq_true h4
    have h5 := of_decide_eq_true h5
    subst h1; subst h2; subst h3; subst h4; subst h5
    exact PE.eq (s_jr (by simpa using h6) (of_decide_eq_true h7) h8 h9 (snE a hX ha) hb) fun τ s => by rw [ev]; try rfl
  | .nev, c, W, X, x, hX, h => PE.eq s_nev fun τ s => by rw [ev]
  | .fld a y, c, W, X, x, hX, h => by
    unfold ckE at h; split at h
    all_goals first | (cases h; done) | (rename_i hz; cases hz; done) | skip
    rename_i z w pos
    obtain ⟨h1, h2⟩ := ba h
    obtain ⟨h2, h3⟩ := ba h2
    obtain ⟨h3, h4⟩ := ba h3
    have h1 := of_decide_eq_true h1
    subst h1
    exact PE.eq (s_fld hX h2 (snE a hX h3) h4) fun τ s => by rw [ev]; try rfl
  | .meth f m a es, c, W, X, x, hX, h => by
    unfold ckE at h; split at h
    all_goals first | (cases h; done) | (rename_i hz; cases hz; done) | skip
    rename_i y n p ys pos
    obtain ⟨h0, h⟩ := ba h
    obtain ⟨h1, hi⟩ := ba h0
    obtain ⟨h2, h⟩ := ba h
    obtain ⟨h3, h⟩ := ba h
    obtain ⟨h4, h⟩ := ba h
    obtain ⟨h5, h⟩ := ba h
    obtain ⟨h6, h7⟩ := ba h
    have h1 := of_decide_eq_true h1
    subst h1
    exact PE.eq (s_meth hX h2 (by simpa using hi) h3 (snE a hX h4) h5 (snEs es hX h6) h6 (of_decide_eq_true h7)) fun τ s => by rw [ev]; try rfl
  | .make f es, c, W, X, x, hX, h => by
    unfold ckE at h; split at h
    all_goals first | (cases h; done) | (rename_i hz; cases hz; done) | skip
    rename_i y p z zs pos
    obtain ⟨h1, h⟩ := ba h
    obtain ⟨h2, h⟩ := ba h
    obtain ⟨h3, h⟩ := ba h
    obtain ⟨h4, h5⟩ := ba h
    exact PE.eq (s_make hX (of_decide_eq_true h1) h2 h3 h4 (snEs es hX h5) h5) fun τ s => by rw [ev]; try rfl
  | .ownD, c, W, X, x, hX, h => by
    unfold ckE at h; split at h
    all_goals first | (cases h; done) | (rename_i hz; cases hz; done) | skip
    rename_i pos
    exact PE.eq s_ownD fun τ s => by rw [ev]
  | .permD, c, W, X, x, hX, h => by
    unfold ckE at h; split at h
    all_goals first | (cases h; done) | (rename_i hz; cases hz; done) | skip
    rename_i pos
    exact PE.eq s_permD fun τ s => by rw [ev]
  | .perm l, c, W, X, x, hX, h => by
    have h : ckL T c l x = true := by unfold ckE at h; exact (ba h).2
    exact PE.eq (s_perm (snL l hX h)) fun τ s => by rw [ev]; try rfl
  | .dix a i, c, W, X, x, hX, h => by
    unfold ckE at h; split at h
    all_goals first | (cases h; done) | (rename_i hz; cases hz; done) | skip
    rename_i y z pos
    obtain ⟨h1, h2⟩ := ba h
    exact PE.eq (s_dix hX.ww hX.units (snE a hX h1) (snE i hX h2) (plainIx1 (ck_plain h2))) fun τ s => by rw [ev]; try rfl
  | .dlen a, c, W, X, x, hX, h => by
    unfold ckE at h; split at h
    all_goals first | (cases h; done) | (rename_i hz; cases hz; done) | skip
    rename_i y p z pos
    obtain ⟨h1, h2⟩ := ba h
    obtain ⟨h2, h3⟩ := ba h2
    obtain ⟨h3, h4⟩ := ba h3
    exact PE.eq (s_dlen hX (of_decide_eq_true h1) h2 (snE a hX h3) h4) fun τ s => by rw [ev]; try rfl
  | .b1k f i l, c, W, X, x, hX, h => by
    unfold ckE at h; split at h
    all_goals first | (cases h; done) | (rename_i hz; cases hz; done) | skip
    rename_i y p z pos
    obtain ⟨h1, h2⟩ := ba h
    obtain ⟨h2, h3⟩ := ba h2
    obtain ⟨h3, h4⟩ := ba h3
    exact PE.eq (s_b1k (i := i) hX (of_decide_eq_true h1) h2 (snL l hX h3) h4) fun τ s => by rw [ev]; try rfl
  | .ftab fs a es, c, W, X, x, hX, h => by
    unfold ckE at h; split at h
    all_goals first | (cases h; done) | (rename_i hz; cases hz; done) | skip
    rename_i ns p1 y p2 z zs pos
    obtain ⟨h1, h2⟩ := ba h
    obtain ⟨h2, h3⟩ := ba h2
    obtain ⟨h3, h4⟩ := ba h3
    exact PE.eq (s_ftab hX h1 (of_decide_eq_true h2) (snE a hX h3) (plainIx1 (ck_plain h3)) h4 (snEs es hX h4)) fun τ s => by rw [ev]; try rfl
  | .m2 f a b, c, W, X, x, hX, h => by
    unfold ckE at h; split at h
    all_goals first | (cases h; done) | (rename_i hz; cases hz; done) | skip
    rename_i y m p z pos
    obtain ⟨h1, h2⟩ := ba h
    obtain ⟨h2, h3⟩ := ba h2
    obtain ⟨h3, h4⟩ := ba h3
    obtain ⟨h4, h5⟩ := ba h4
    obtain ⟨h5, h6⟩ := ba h5
    exact PE.eq (s_m2 hX.units (of_decide_eq_true h1) h2 (snE a hX h3) h4 (snE b hX h5) h6) fun τ s => by rw [ev]; try rfl
  | .gnew, c, W, X, x, hX, h => by
    unfold ckE at h; split at h
    all_goals first | (cases h; done) | (rename_i hz; cases hz; done) | skip
    exact PE.eq (s_gnew hX.ww) fun τ s => by rw [ev]; try rfl
  | .gget a b e, c, W, X, x, hX, h => by
    unfold ckE at h; split at h
    all_goals first | (cases h; done) | (rename_i hz; cases hz; done) | skip
    rename_i y m p z w pos
    obtain ⟨h1, h⟩ := ba h
    obtain ⟨h2, h⟩ := ba h
    obtain ⟨h3, h⟩ := ba h
    obtain ⟨h4, h⟩ := ba h
    obtain ⟨h5, h⟩ := ba h
    obtain ⟨h6, h⟩ := ba h
    obtain ⟨h7, h8⟩ := ba h
    have h1 := of_decide_eq_true h1
    subst h1
    exact PE.eq (s_gget hX h2 (snE a hX h3) h4 (snE b hX h5) h6 (snE e hX h7) h8) fun τ s => by rw [ev]; try rfl
  | .gset a b e, c, W, X, x, hX, h => by
    unfold ckE at h; split at h
    all_goals first | (cases h; done) | (rename_i hz; cases hz; done) | skip
    rename_i y m p z w pos
    obtain ⟨h1, h⟩ := ba h
    obtain ⟨h2, h⟩ := ba h
    obtain ⟨h3, h⟩ := ba h
    obtain ⟨h4, h⟩ := ba h
    obtain ⟨h5, h⟩ := ba h
    obtain ⟨h6, h⟩ := ba h
    obtain ⟨h7, h8⟩ := ba h
    have h1 := of_decide_eq_true h1
    subst h1
    exact PE.eq (s_gset hX h2 (snE a hX h3) h4 (snE b hX h5) h6 (snE e hX h7) h8) fun τ s => by rw [ev]; try rfl
  | .sapp a b e, c, W, X, x, hX, h => by
    unfold ckE at h; split at h
    all_goals first | (cases h; done) | (rename_i hz; cases hz; done) | skip
    rename_i y m2 p2 z pl q2 m p w pos
    obtain ⟨h1, h⟩ := ba h
    obtain ⟨h2, h⟩ := ba h
    obtain ⟨h3, h⟩ := ba h
    obtain ⟨h4, h⟩ := ba h
    obtain ⟨h5, h⟩ := ba h
    obtain ⟨h6, h⟩ := ba h
    obtain ⟨h7, h⟩ := ba h
    obtain ⟨h8, h⟩ := ba h
    obtain ⟨h9, h10⟩ := ba h
    have h1 := of_decide_eq_true h1
    have h2 := of_decide_eq_true h2
    subst h1; subst h2
    exact PE.eq (s_sapp hX h3 h4 (snE a hX h5) h6 (snE b hX h7) h8 (snE e hX h9) h10) fun τ s => by rw [ev]; try rfl
  | .lset a, c, W, X, x, hX, h => by
    unfold ckE at h; split at h
    all_goals first | (cases h; done) | (rename_i hz; cases hz; done) | skip
    rename_i y p z p2 w pos2 pos
    obtain ⟨h1, h2⟩ := ba h
    obtain ⟨h2, h3⟩ := ba h2
    obtain ⟨h3, h4⟩ := ba h3
    obtain ⟨h4, h5⟩ := ba h4
    obtain ⟨h5, h6⟩ := ba h5
    exact PE.eq (s_lset hX (of_decide_eq_true h1) h2 (of_decide_eq_true h3) h4 (snE a hX h5) h6) fun τ s => by rw [ev]; try rfl
  | .tget x0 kvs a b, c, W, X, x, hX, h => by
    unfold ckE at h; split at h
    all_goals first | (cases h; done) | (rename_i hz; cases hz; done) | skip
    rename_i y p1 m p z w pos
    obtain ⟨h1, h⟩ := ba h
    obtain ⟨h2, h⟩ := ba h
    obtain ⟨h3, h⟩ := ba h
    obtain ⟨h4, h⟩ := ba h
    obtain ⟨h5, h⟩ := ba h
    obtain ⟨h6, h⟩ := ba h
    obtain ⟨h7, h⟩ := ba h
    obtain ⟨h8, h⟩ := ba h
    obtain ⟨h9, h10⟩ := ba h
    have h1 := of_decide_eq_true h1
    subst h1
    exact PE.eq (s_tget hX (of_decide_eq_true h2) h3 h4 h5 h6 (snE a hX h7) h8 (snE b hX h9) h10) fun τ s => by rw [ev]; try rfl
  | .mkd pm a, c, W, X, x, hX, h => by
    exfalso; unfold ckE at h; cases h
theorem snT : ∀ (e : E) {c : Ct} {W : WX} {X : Cx} {x : Expr}, XE T G k c W X → ckE T c e x = true → tst e = true → PT X x (tT X.K (xcOf T X.K) W (ev G e))
  | .cmp op a b, c, W, X, x, hX, h, ht => by
    unfold ckE at h; split at h
    all_goals first | (cases h; done) | (rename_i hz; cases hz; done) | skip
    rename_i y op3 z pos
    obtain ⟨h1, h2⟩ := ba h
    obtain ⟨h2, h3⟩ := ba h2
    have h1 := of_decide_eq_true h1
    subst h1
    exact PT.eq (s_cmpT hX.ww hX.units (snE a hX h2) (snE b hX h3) (noSet1 op (ck_plain h3))) fun τ s => by rw [ev]; try rfl
  | .chain o1 o2 a b d, c, W, X, x, hX, h, ht => by
    unfold ckE at h; split at h
    all_goals first | (cases h; done) | (rename_i hz; cases hz; done) | skip
    rename_i y o5 o6 z w pos
    obtain ⟨h1, h2⟩ := ba h
    obtain ⟨h2, h3⟩ := ba h2
    obtain ⟨h3, h4⟩ := ba h3
    obtain ⟨h4, h5⟩ := ba h4
    have h1 := of_decide_eq_true h1
    have h2 := of_decide_eq_true h2
    subst h1; subst h2
    exact PT.eq (s_chainT hX.ww hX.units (snE a hX h3) (snE b hX h4) (snE d hX h5) (marks2 (ck_plain h4) (ck_plain h5))) fun τ s => by rw [ev]; try rfl
  | .and es, c, W, X, x, hX, h, ht => by
    unfold ckE at h; split at h
    all_goals first | (cases h; done) | (rename_i hz; cases hz; done) | skip
    rename_i xs pos
    obtain ⟨h1, h2⟩ := ba h
    rw [tst] at ht
    exact PT.eq (L2.PW.pt (snAndT es hX h1 h2 ht)) fun τ s => by rw [ev]; try rfl
  | .or es, c, W, X, x, hX, h, ht => by
    unfold ckE at h; split at h
    all_goals first | (cases h; done) | (rename_i hz; cases hz; done) | skip
    rename_i xs pos
    obtain ⟨h1, h2⟩ := ba h
    rw [tst] at ht
    exact PT.eq (L2.PW.pt (snOrT es hX h1 h2 ht)) fun τ s => by rw [ev]; try rfl
  | .not a, c, W, X, x, hX, h, ht => by
    unfold ckE at h; split at h
    all_goals first | (cases h; done) | (rename_i hz; cases hz; done) | skip
    rename_i y pos
    rw [tst] at ht
    exact PT.eq (s_notT (snT a hX h ht)) fun τ s => by rw [ev]; try rfl
  | .ite _ _ _, c, W, X, x, hX, h, ht => by simp [tst] at ht
  | .var i, c, W, X, x, hX, h, ht => s_valT (snE (.var i) hX h) (ckT_plain h rfl)
  | .con a, c, W, X, x, hX, h, ht => s_valT (snE (.con a) hX h) (ckT_plain h rfl)
  | .glb y a, c, W, X, x, hX, h, ht => s_valT (snE (.glb y a) hX h) (ckT_plain h rfl)
  | .tup es, c, W, X, x, hX, h, ht => s_valT (snE (.tup es) hX h) (ckT_plain h rfl)
  | .fz l, c, W, X, x, hX, h, ht => s_valT (snE (.fz l) hX h) (ckT_plain h rfl)
  | .own l, c, W, X, x, hX, h, ht => s_valT (snE (.own l) hX h) (ckT_plain h rfl)
  | .bin op a b, c, W, X, x, hX, h, ht => s_valT (snE (.bin op a b) hX h) (ckT_plain h rfl)
  | .neg a, c, W, X, x, hX, h, ht => s_valT (snE (.neg a) hX h) (ckT_plain h rfl)
  | .idx a i, c, W, X, x, hX, h, ht => s_valT (snE (.idx a i) hX h) (ckT_plain h rfl)
  | .slc a lo hi, c, W, X, x, hX, h, ht => s_valT (snE (.slc a lo hi) hX h) (ckT_plain h rfl)
  | .call f es, c, W, X, x, hX, h, ht => s_valT (snE (.call f es) hX h) (ckT_plain h rfl)
  | .isi a t, c, W, X, x, hX, h, ht => s_valT (snE (.isi a t) hX h) (ckT_plain h rfl)
  | .b1 f a, c, W, X, x, hX, h, ht => s_valT (snE (.b1 f a) hX h) (ckT_plain h rfl)
  | .b2 f a b, c, W, X, x, hX, h, ht => s_valT (snE (.b2 f a b) hX h) (ckT_plain h rfl)
  | .m1 f a b, c, W, X, x, hX, h, ht => s_valT (snE (.m1 f a b) hX h) (ckT_plain h rfl)
  | .app a b, c, W, X, x, hX, h, ht => s_valT (snE (.app a b) hX h) (ckT_plain h rfl)
  | .pop a b, c, W, X, x, hX, h, ht => s_valT (snE (.pop a b) hX h) (ckT_plain h rfl)
  | .tget y kvs a b, c, W, X, x, hX, h, ht => s_valT (snE (.tget y kvs a b) hX h) (ckT_plain h rfl)
  | .mkd pm a, c, W, X, x, hX, h, ht => s_valT (snE (.mkd pm a) hX h) (ckT_plain h rfl)
  | .ext a b, c, W, X, x, hX, h, ht => s_valT (snE (.ext a b) hX h) (ckT_plain h rfl)
  | .jr sep a y z, c, W, X, x, hX, h, ht => s_valT (snE (.jr sep a y z) hX h) (ckT_plain h rfl)
  | .nev, c, W, X, x, hX, h, ht => PT.eq t_nev fun τ s => by rw [ev]
  | .fld a y, c, W, X, x, hX, h, ht => s_valT (snE (.fld a y) hX h) (ckT_plain h rfl)
  | .meth f m a es, c, W, X, x, hX, h, ht => s_valT (snE (.meth f m a es) hX h) (ckT_plain h rfl)
  | .make f es, c, W, X, x, hX, h, ht => s_valT (snE (.make f es) hX h) (ckT_plain h rfl)
  | .ownD, c, W, X, x, hX, h, ht => s_valT (snE (.ownD) hX h) (ckT_plain h rfl)
  | .permD, c, W, X, x, hX, h, ht => s_valT (snE (.permD) hX h) (ckT_plain h rfl)
  | .perm l, c, W, X, x, hX, h, ht => s_valT (snE (.perm l) hX h) (ckT_plain h rfl)
  | .dix a i, c, W, X, x, hX, h, ht => s_valT (snE (.dix a i) hX h) (ckT_plain h rfl)
  | .dlen a, c, W, X, x, hX, h, ht => s_valT (snE (.dlen a) hX h) (ckT_plain h rfl)
  | .b1k f i l, c, W, X, x, hX, h, ht => s_valT (snE (.b1k f i l) hX h) (ckT_plain h rfl)
  | .ftab fs a es, c, W, X, x, hX, h, ht => s_valT (snE (.ftab fs a es) hX h) (ckT_plain h rfl)
  | .m2 f a b, c, W, X, x, hX, h, ht => s_valT (snE (.m2 f a b) hX h) (ckT_plain h rfl)
  | .gnew, c, W, X, x, hX, h, ht => s_valT (snE (.gnew) hX h) (ckT_plain h rfl)
  | .gget a b e, c, W, X, x, hX, h, ht => s_valT (snE (.gget a b e) hX h) (ckT_plain h rfl)
  | .gset a b e, c, W, X, x, hX, h, ht => s_valT (snE (.gset a b e) hX h) (ckT_plain h rfl)
  | .sapp a b e, c, W, X, x, hX, h, ht => s_valT (snE (.sapp a b e) hX h) (ckT_plain h rfl)
  | .lset a, c, W, X, x, hX, h, ht => s_valT (snE (.lset a) hX h) (ckT_plain h rfl)
theorem snL : ∀ (l : L) {c : Ct} {W : WX} {X : Cx} {x : Expr}, XE T G k c W X → ckL T c l x = true → PE X x (tL X.K (xcOf T X.K) W (evL G l))
  | .disp es, c, W, X, x, hX, h => by
    unfold ckL at h; split at h
    all_goals first | (cases h; done) | (rename_i hz; cases hz; done) | skip
    rename_i xs pos
    obtain ⟨h1, h2⟩ := ba h
    exact PL.eq (s_disp (snEs es hX h1) h1 (of_decide_eq_true h2)) fun τ s => by rw [evL]; try rfl
  | .comp tg it cs elt vs, c, W, X, x, hX, h => by
    unfold ckL at h; split at h
    all_goals first | (cases h; done) | (rename_i hz; cases hz; done) | skip
    rename_i ex tx ix ifs scope pos
    obtain ⟨h1, h⟩ := ba h
    obtain ⟨h2, h⟩ := ba h
    obtain ⟨h3, h⟩ := ba h
    obtain ⟨h4, h⟩ := ba h
    obtain ⟨h5, h⟩ := ba h
    obtain ⟨h6, h7⟩ := ba h
    have hs : ∀ i ∈ tg.slots, i ∈ vs := fun i hi => by
      have := List.all_eq_true.mp h7 i hi
      obtain ⟨j, hj, e⟩ := List.any_eq_true.mp this
      rw [← of_decide_eq_true e]; exact hj
    cases cs with
    | none =>
      cases ifs with
      | nil =>
        exact PL.eq (s_comp hX (snI it hX h1) (fun s H C cl fp => s_tg (hX.blk scope s H C cl fp) h3) (fun s H C cl fp => L2.pts_nil) (fun s H C cl fp => snE elt (hX.blk scope s H C cl fp) h5) (step_none (xc := xcOf T X.K) (W := fun _ _ _ _ => False)) h6 hs h2) fun τ s => by rw [evL]; try rfl
      | cons _ _ => simp [ckIfs] at h4
    | some q =>
      cases ifs with
      | nil => simp [ckIfs] at h4
      | cons y ys =>
        cases ys with
        | cons _ _ => simp [ckIfs] at h4
        | nil =>
          rw [ckIfs] at h4
          obtain ⟨g1, g2⟩ := ba h4
          exact PL.eq (s_comp hX (snI it hX h1) (fun s H C cl fp => s_tg (hX.blk scope s H C cl fp) h3) (fun s H C cl fp => L2.pts_one (snT q (hX.blk scope s H C cl fp) g2 g1)) (fun s H C cl fp => snE elt (hX.blk scope s H C cl fp) h5) (step_some (xc := xcOf T X.K) (W := fun _ _ _ _ => False) (W' := fun _ _ _ _ => False)) h6 hs h2) fun τ s => by rw [evL]; try rfl
  | .lof a, c, W, X, x, hX, h => by
    unfold ckL at h; split at h
    all_goals first | (cases h; done) | (rename_i hz; cases hz; done) | skip
    rename_i y p z pos
    obtain ⟨h1, h2⟩ := ba h
    obtain ⟨h2, h3⟩ := ba h2
    obtain ⟨h3, h4⟩ := ba h3
    exact PL.eq (s_lof hX (of_decide_eq_true h1) h2 (snE a hX h3) h4) fun τ s => by rw [evL]; try rfl
  | .split a b, c, W, X, x, hX, h => by
    unfold ckL at h; split at h
    all_goals first | (cases h; done) | (rename_i hz; cases hz; done) | skip
    rename_i y m p z pos
    obtain ⟨h1, h2⟩ := ba h
    obtain ⟨h2, h3⟩ := ba h2
    obtain ⟨h3, h4⟩ := ba h3
    obtain ⟨h4, h5⟩ := ba h4
    obtain ⟨h5, h6⟩ := ba h5
    have h1 := of_decide_eq_true h1
    subst h1
    exact PL.eq (s_split h2 (snE a hX h3) h4 (snE b hX h5) h6) fun τ s => by rw [evL]; try rfl
  | .add a b, c, W, X, x, hX, h => by
    unfold ckL at h; split at h
    all_goals first | (cases h; done) | (rename_i hz; cases hz; done) | skip
    rename_i y op z pos
    obtain ⟨h1, h2⟩ := ba h
    obtain ⟨h2, h3⟩ := ba h2
    have h1 := of_decide_eq_true h1
    subst h1
    exact PL.eq (l_add (snE a hX h2) (snE b hX h3)) fun τ s => by rw [evL]; try rfl
  | .rep a b, c, W, X, x, hX, h => by
    unfold ckL at h; split at h
    all_goals first | (cases h; done) | (rename_i hz; cases hz; done) | skip
    rename_i y op z pos
    obtain ⟨h1, h2⟩ := ba h
    obtain ⟨h2, h3⟩ := ba h2
    have h1 := of_decide_eq_true h1
    subst h1
    exact PL.eq (l_rep (snE a hX h2) (snE b hX h3)) fun τ s => by rw [evL]; try rfl
  | .lod a, c, W, X, x, hX, h => by
    unfold ckL at h; split at h
    all_goals first | (cases h; done) | (rename_i hz; cases hz; done) | skip
    rename_i y p z pos
    obtain ⟨h1, h2⟩ := ba h
    obtain ⟨h2, h3⟩ := ba h2
    obtain ⟨h3, h4⟩ := ba h3
    exact PL.eq (l_lod hX (of_decide_eq_true h1) h2 (snE a hX h3) h4) fun τ s => by rw [evL]; try rfl
  | .srt a, c, W, X, x, hX, h => by
    unfold ckL at h; split at h
    all_goals first | (cases h; done) | (rename_i hz; cases hz; done) | skip
    rename_i y p z pos
    obtain ⟨h1, h2⟩ := ba h
    obtain ⟨h2, h3⟩ := ba h2
    obtain ⟨h3, h4⟩ := ba h3
    exact PL.eq (l_srt hX (of_decide_eq_true h1) h2 (snE a hX h3) h4) fun τ s => by rw [evL]; try rfl
  | .rev a, c, W, X, x, hX, h => by
    unfold ckL at h; split at h
    all_goals first | (cases h; done) | (rename_i hz; cases hz; done) | skip
    rename_i y i kk p1 p2 p3 pos
    obtain ⟨h1, h2⟩ := ba h
    have h1 := of_decide_eq_true h1
    subst h1
    exact PL.eq (l_rev (snE a hX h2)) fun τ s => by rw [evL]; try rfl
  | .sset a, c, W, X, x, hX, h => by
    unfold ckL at h; split at h
    all_goals first | (cases h; done) | (rename_i hz; cases hz; done) | skip
    rename_i y p z p2 w pos2 pos
    obtain ⟨h1, h2⟩ := ba h
    obtain ⟨h2, h3⟩ := ba h2
    obtain ⟨h3, h4⟩ := ba h3
    obtain ⟨h4, h5⟩ := ba h4
    obtain ⟨h5, h6⟩ := ba h5
    exact PL.eq (l_sset hX (of_decide_eq_true h1) h2 (of_decide_eq_true h3) h4 (snE a hX h5) h6) fun τ s => by rw [evL]; try rfl
  | .zipl a b, c, W, X, x, hX, h => by
    exfalso; unfold ckL at h; cases h
  | .dvl a, c, W, X, x, hX, h => by
    unfold ckL at h; split at h
    all_goals first | (cases h; done) | (rename_i hz; cases hz; done) | skip
    rename_i y p z m p1 q1 pos
    obtain ⟨h1, h⟩ := ba h
    obtain ⟨h2, h⟩ := ba h
    obtain ⟨h3, h⟩ := ba h
    obtain ⟨h4, h⟩ := ba h
    obtain ⟨h5, h6⟩ := ba h
    have h3 := of_decide_eq_true h3
    subst h3
    exact PL.eq (l_dvl hX (of_decide_eq_true h1) h2 h4 (snE a hX h5) h6) fun τ s => by rw [evL]; try rfl
theorem snI : ∀ (l : I) {c : Ct} {W : WX} {X : Cx} {t x : Expr}, XE T G k c W X → ckI T c l t x = true → PI X t x (tI X.K (xcOf T X.K) W (evI G l))
  | .dks e, c, W, X, t, x, hX, h => by
    unfold ckI at h; split at h
    all_goals first | (cases h; done) | (rename_i hz; cases hz; done) | skip
    rename_i y m p pos
    obtain ⟨h1, h⟩ := ba h
    obtain ⟨h2, h⟩ := ba h
    obtain ⟨h3, h4⟩ := ba h
    have h1 := of_decide_eq_true h1
    subst h1
    exact PI.eq (s_dks h2 (snE e hX h3) h4) fun τ s => by rw [evI]; try rfl
  | .dit e, c, W, X, t, x, hX, h => by
    unfold ckI at h; split at h
    all_goals first | (cases h; done) | (rename_i hz; cases hz; done) | skip
    rename_i y m p pos
    obtain ⟨h0, h⟩ := ba h
    obtain ⟨h1, h⟩ := ba h
    obtain ⟨h2, h⟩ := ba h
    obtain ⟨h3, h4⟩ := ba h
    have h1 := of_decide_eq_true h1
    subst h1
    exact PI.eq (s_dit h0 h2 (snE e hX h3) h4) fun τ s => by rw [evI]; try rfl
  | .dk e, c, W, X, t, x, hX, h => by
    have h : ckE T c e x = true := by unfold ckI at h; exact h
    exact PI.eq (s_idk (snE e hX h)) fun τ s => by rw [evI]; try rfl
  | .val e, c, W, X, t, x, hX, h => by
    have h : ckE T c e x = true := by unfold ckI at h; exact h
    exact PI.eq (s_ival (snE e hX h)) fun τ s => by rw [evI]; try rfl
  | .rng1 e, c, W, X, t, x, hX, h => by
    unfold ckI at h; split at h
    all_goals first | (cases h; done) | (rename_i hz; cases hz; done) | skip
    rename_i f p y pos
    obtain ⟨h1, h2⟩ := ba h
    obtain ⟨h2, h3⟩ := ba h2
    obtain ⟨h3, h4⟩ := ba h3
    exact PI.eq (s_rng1 hX (of_decide_eq_true h1) h2 (snE e hX h3) h4) fun τ s => by rw [evI]; try rfl
  | .rng2 a b, c, W, X, t, x, hX, h => by
    unfold ckI at h; split at h
    all_goals first | (cases h; done) | (rename_i hz; cases hz; done) | skip
    rename_i f p y z pos
    obtain ⟨h1, h2⟩ := ba h
    obtain ⟨h2, h3⟩ := ba h2
    obtain ⟨h3, h4⟩ := ba h3
    obtain ⟨h4, h5⟩ := ba h4
    obtain ⟨h5, h6⟩ := ba h5
    exact PI.eq (s_rng2 hX (of_decide_eq_true h1) h2 (snE a hX h3) h4 (snE b hX h5) h6) fun τ s => by rw [evI]; try rfl
  | .enum e, c, W, X, t, x, hX, h => by
    unfold ckI at h; split at h
    all_goals first | (cases h; done) | (rename_i hz; cases hz; done) | skip
    rename_i f p y pos
    obtain ⟨h0, h⟩ := ba h
    obtain ⟨h1, h2⟩ := ba h
    obtain ⟨h2, h3⟩ := ba h2
    obtain ⟨h3, h4⟩ := ba h3
    exact PI.eq (s_enum hX h0 (of_decide_eq_true h1) h2 (snE e hX h3) h4) fun τ s => by rw [evI]; try rfl
  | .zip a b, c, W, X, t, x, hX, h => by
    unfold ckI at h; split at h
    all_goals first | (cases h; done) | (rename_i hz; cases hz; done) | skip
    rename_i f p y z pos
    obtain ⟨h0, h⟩ := ba h
    obtain ⟨h1, h2⟩ := ba h
    obtain ⟨h2, h3⟩ := ba h2
    obtain ⟨h3, h4⟩ := ba h3
    obtain ⟨h4, h5⟩ := ba h4
    obtain ⟨h5, h6⟩ := ba h5
    exact PI.eq (s_zip hX h0 (of_decide_eq_true h1) h2 (snE a hX h3) h4 (snE b hX h5) h6) fun τ s => by rw [evI]; try rfl
theorem snEs : ∀ (es : Es) {c : Ct} {W : WX} {X : Cx} {xs : List Expr}, XE T G k c W X → ckEs T c es xs = true → PA X xs (tA X.K (xcOf T X.K) W (evs G es))
  | .nil, c, W, X, [], hX, h => PAs.eq s_nil fun τ s => by rw [evs]; try rfl
  | .nil, c, W, X, _ :: _, hX, h => by simp [ckEs] at h
  | .cons _ _, c, W, X, [], hX, h => by simp [ckEs] at h
  | .cons e es, c, W, X, x :: xs, hX, h => by
    rw [ckEs] at h
    obtain ⟨h1, h2⟩ := ba h
    obtain ⟨h2, h3⟩ := ba h2
    exact PAs.eq (s_cons (snE e hX h1) (snEs es hX h3) h2) fun τ s => by rw [evs]; try rfl
theorem sno : ∀ (o : Eo) {c : Ct} {W : WX} {X : Cx} {x : Option Expr}, XE T G k c W X → cko T c o x = true → ∃ t : L2.TO, PO X x t ∧ ∀ σ H Q, (∃ F ρ τ s, Stt F H ρ s ∧ SlOk X.K F ρ σ τ ∧ RP (xcOf T X.K) W σ F H ρ (evo G o τ s) (fun o s F H ρ => Q o H)) → t σ H Q
  | .none, c, W, X, none, hX, h => ⟨_, L2.po_none, fun σ H Q ⟨F, ρ, τ, s, st, sl, q⟩ => by
    rw [evo] at q
    exact q.now st⟩
  | .none, c, W, X, some _, hX, h => by simp [cko] at h
  | .some _, c, W, X, none, hX, h => by simp [cko] at h
  | .some e, c, W, X, some x, hX, h => by
    rw [cko] at h
    refine ⟨_, L2.po_some (snE e hX h), fun σ H Q ⟨F, ρ, τ, s, st, sl, q⟩ => ?_⟩
    rw [evo] at q
    refine ⟨F, ρ, τ, s, st, sl, q.bind.imp fun d s1 F1 H1 ρ1 e1 st1 h1 v hv => ?_⟩
    split at h1
    · cases hv.int
      exact ⟨_, rfl, h1.now st1⟩
    · exact h1.elim
theorem snAnd : ∀ (es : Es) {c : Ct} {W : WX} {X : Cx} {xs : List Expr} {pos : Pos}, XE T G k c W X → ckEs T c es xs = true → (!xs.isEmpty) = true → PE X (.BoolOp .And xs pos) (tE X.K (xcOf T X.K) W (evAnd G es))
  | .nil, c, W, X, [], pos, hX, h, hn => by simp at hn
  | .nil, c, W, X, _ :: _, pos, hX, h, hn => by simp [ckEs] at h
  | .cons _ _, c, W, X, [], pos, hX, h, hn => by simp [ckEs] at h
  | .cons e .nil, c, W, X, x :: [], pos, hX, h, hn => by
    rw [ckEs] at h
    obtain ⟨h1, h2⟩ := ba h
    exact PE.eq (s_one (snE e hX h1)) fun τ s => by rw [evAnd]; try rfl
  | .cons e .nil, c, W, X, x :: _ :: _, pos, hX, h, hn => by simp [ckEs] at h
  | .cons e (.cons f fs), c, W, X, x :: [], pos, hX, h, hn => by simp [ckEs] at h
  | .cons e (.cons f fs), c, W, X, x :: y :: ys, pos, hX, h, hn => by
    rw [ckEs] at h
    obtain ⟨h1, h2⟩ := ba h
    obtain ⟨h2, h3⟩ := ba h2
    exact PE.eq (s_and (snE e hX h1) (snAnd (.cons f fs) hX h3 rfl)) fun τ s => by rw [evAnd]; try rfl
theorem snOr : ∀ (es : Es) {c : Ct} {W : WX} {X : Cx} {xs : List Expr} {pos : Pos}, XE T G k c W X → ckEs T c es xs = true → (!xs.isEmpty) = true → PE X (.BoolOp .Or xs pos) (tE X.K (xcOf T X.K) W (evOr G es))
  | .nil, c, W, X, [], pos, hX, h, hn => by simp at hn
  | .nil, c, W, X, _ :: _, pos, hX, h, hn => by simp [ckEs] at h
  | .cons _ _, c, W, X, [], pos, hX, h, hn => by simp [ckEs] at h
  | .cons e .nil, c, W, X, x :: [], pos, hX, h, hn => by
    rw [ckEs] at h
    obtain ⟨h1, h2⟩ := ba h
    exact PE.eq (s_one (snE e hX h1)) fun τ s => by rw [evOr]; try rfl
  | .cons e .nil, c, W, X, x :: _ :: _, pos, hX, h, hn => by simp [ckEs] at h
  | .cons e (.cons f fs), c, W, X, x :: [], pos, hX, h, hn => by simp [ckEs] at h
  | .cons e (.cons f fs), c, W, X, x :: y :: ys, pos, hX, h, hn => by
    rw [ckEs] at h
    obtain ⟨h1, h2⟩ := ba h
    obtain ⟨h2, h3⟩ := ba h2
    exact PE.eq (s_or (snE e hX h1) (snOr (.cons f fs) hX h3 rfl)) fun τ s => by rw [evOr]; try rfl
theorem snAndT : ∀ (es : Es) {c : Ct} {W : WX} {X : Cx} {xs : List Expr} {pos : Pos}, XE T G k c W X → ckEs T c es xs = true → (!xs.isEmpty) = true → tsts es = true → L2.PW X (.BoolOp .And xs pos) (tT X.K (xcOf T X.K) W (evAnd G es))
  | .nil, c, W, X, [], pos, hX, h, hn, ht => by simp at hn
  | .nil, c, W, X, _ :: _, pos, hX, h, hn, ht => by simp [ckEs] at h
  | .cons _ _, c, W, X, [], pos, hX, h, hn, ht => by simp [ckEs] at h
  | .cons e .nil, c, W, X, x :: [], pos, hX, h, hn, ht => by
    rw [ckEs] at h
    rw [tsts] at ht
    obtain ⟨h1, h2⟩ := ba h
    exact PW.eq (s_andT1 (snT e hX h1 (ba ht).1)) fun τ s => by rw [evAnd]; try rfl
  | .cons e .nil, c, W, X, x :: _ :: _, pos, hX, h, hn, ht => by simp [ckEs] at h
  | .cons e (.cons f fs), c, W, X, x :: [], pos, hX, h, hn, ht => by simp [ckEs] at h
  | .cons e (.cons f fs), c, W, X, x :: y :: ys, pos, hX, h, hn, ht => by
    rw [ckEs] at h
    rw [tsts] at ht
    obtain ⟨h1, h2⟩ := ba h
    obtain ⟨h2, h3⟩ := ba h2
    exact PW.eq (s_andT (snT e hX h1 (ba ht).1) (snAndT (.cons f fs) hX h3 rfl (ba ht).2)) fun τ s => by rw [evAnd]; try rfl
theorem snOrT : ∀ (es : Es) {c : Ct} {W : WX} {X : Cx} {xs : List Expr} {pos : Pos}, XE T G k c W X → ckEs T c es xs = true → (!xs.isEmpty) = true → tsts es = true → L2.PW X (.BoolOp .Or xs pos) (tT X.K (xcOf T X.K) W (evOr G es))
  | .nil, c, W, X, [], pos, hX, h, hn, ht => by simp at hn
  | .nil, c, W, X, _ :: _, pos, hX, h, hn, ht => by simp [ckEs] at h
  | .cons _ _, c, W, X, [], pos, hX, h, hn, ht => by simp [ckEs] at h
  | .cons e .nil, c, W, X, x :: [], pos, hX, h, hn, ht => by
    rw [ckEs] at h
    rw [tsts] at ht
    obtain ⟨h1, h2⟩ := ba h
    exact PW.eq (s_orT1 (snT e hX h1 (ba ht).1)) fun τ s => by rw [evOr]; try rfl
  | .cons e .nil, c, W, X, x :: _ :: _, pos, hX, h, hn, ht => by simp [ckEs] at h
  | .cons e (.cons f fs), c, W, X, x :: [], pos, hX, h, hn, ht => by simp [ckEs] at h
  | .cons e (.cons f fs), c, W, X, x :: y :: ys, pos, hX, h, hn, ht => by
    rw [ckEs] at h
    rw [tsts] at ht
    obtain ⟨h1, h2⟩ := ba h
    obtain ⟨h2, h3⟩ := ba h2
    exact PW.eq (s_orT (snT e hX h1 (ba ht).1) (snOrT (.cons f fs) hX h3 rfl (ba ht).2)) fun τ s => by rw [evOr]; try rfl
end
end
end G7

namespace G7
open PySem PySem.Spec
open L2 (V Hp HO St WX TE TS R2 OpR CallR MtR MtM SlR IxR Inv RelV Vals ObjOk upd upd_same upd_ne ne_of_none SqL SqT Cx Room EP VK PE PT PA PI PG PGs PO PS PSs Sp XK It TI TG TGs FnOk thn Ends)
variable [WW]

/-! ### ends of statements -/
def RPS (K : PySem.W.Frag) (xc : Nat → Value) (W : WX) (F H : Hp) (ρ : Rho) (r : RS) (D : Ends) : Prop := match r with
  | .nx τ s => ∀ F' H' ρ' σ', Ext F H ρ F' H' ρ' → Stt F' H' ρ' s → SlOk K F' ρ' σ' τ → D.nx σ' H'
  | .bk τ s => ∀ F' H' ρ' σ', Ext F H ρ F' H' ρ' → Stt F' H' ρ' s → SlOk K F' ρ' σ' τ → D.bk σ' H'
  | .rt d s => ∀ F' H' ρ', Ext F H ρ F' H' ρ' → Stt F' H' ρ' s → ∀ v, HasD K F' ρ' v d → D.rt v H'
  | .ex c τ s => ∀ F' H' ρ' σ', Ext F H ρ F' H' ρ' → Stt F' H' ρ' s → SlOk K F' ρ' σ' τ → W (xc c) none σ' H'
  | .bad => False
section
variable {K : PySem.W.Frag} {xc : Nat → Value} {W : WX} {F H F' H' : Hp} {ρ ρ' : Rho} {r : RS} {D : Ends}
theorem RPS.mono (h : RPS K xc W F H ρ r D) (e : Ext F H ρ F' H' ρ') : RPS K xc W F' H' ρ' r D := by
  cases r with
  | nx τ s => exact fun F2 H2 ρ2 σ2 e2 => h F2 H2 ρ2 σ2 (e.trans e2)
  | bk τ s => exact fun F2 H2 ρ2 σ2 e2 => h F2 H2 ρ2 σ2 (e.trans e2)
  | rt d s => exact fun F2 H2 ρ2 e2 => h F2 H2 ρ2 (e.trans e2)
  | ex c τ s => exact fun F2 H2 ρ2 σ2 e2 => h F2 H2 ρ2 σ2 (e.trans e2)
  | bad => exact h
theorem RPS.st {α : Type} {q : R α} {σ : St} {τ : Sl} {f : α → Sto → RS} (sl : SlOk K F ρ σ τ) (h : RPS K xc W F H ρ (q.st τ f) D) : RP xc W σ F H ρ q (fun a s F' H' ρ' => RPS K xc W F' H' ρ' (f a s) D) := by
  cases q with
  | ok a s => exact fun F' H' ρ' e _ => RPS.mono (r := f a s) h e
  | exc c s => exact fun F' H' ρ' e st => h F' H' ρ' σ e st (sl.mono e)
  | bad => exact h
end
def tS (K : PySem.W.Frag) (xc : Nat → Value) (W : WX) (x : Sl → Sto → RS) : TS := fun D σ H => ∃ F ρ τ s, Stt F H ρ s ∧ SlOk K F ρ σ τ ∧ RPS K xc W F H ρ (x τ s) D
theorem PS.eq {X : Cx} {x : Stmt} {K : PySem.W.Frag} {xc : Nat → Value} {W : WX} {f g : Sl → Sto → RS} (h : PS X x (tS K xc W f)) (e : ∀ τ s, g τ s = f τ s) : PS X x (tS K xc W g) := by
  have : g = f := funext fun τ => funext fun s => e τ s
  rw [this]; exact h
theorem PSs.eq {X : Cx} {x : List Stmt} {K : PySem.W.Frag} {xc : Nat → Value} {W : WX} {f g : Sl → Sto → RS} (h : PSs X x (tS K xc W f)) (e : ∀ τ s, g τ s = f τ s) : PSs X x (tS K xc W g) := by
  have : g = f := funext fun τ => funext fun s => e τ s
  rw [this]; exact h
/-- what _law_which answers -/
def WhichOk (T : Tabs) (Wh : Wh) (P : Program) (w : World) (K : PySem.W.Frag) (mg : Str → Option Value) (base : Heap) (k : Nat) : Prop :=
  ∃ f fd ps, mg "_law_which" = some (.ref f) ∧ PySem.W.keepIn K (.ref f) = true ∧ L2.Binds K fd ps [] ∧ ps.length = 1 ∧ ∀ (j : Nat) (kk : Int), Wh j = some kk → ∀ (A : Around) (outer : List Env) (s : Shared) (H : Hp) (p : Addr × Obj) (args : Args) (Q : VK) (E : XK),
    L2H.RoomH k A → L2H.Hot1 A p → L2H.PinOk outer H s p → L2N.Zn (xcOf T K j) none p.2 → L2.Env0 P w K mg base A outer s H → BindsTo s fd args (ps.zip [.ref p.1]) →
    (∀ (H' : Hp) (q : Addr), Sub H H' → H' q = none → Q (.ref q) (upd H' q (.tup [.str "refused", .int kk]))) →
    codeAny (model P w) A (.call (.ref f) args) (L2.CR (L2N.CX P w) outer P w H s Q E) s
structure XS (T : Tabs) (G : Fns) (Wh : Wh) (k : Nat) (c : Ct) (W : WX) (X : Cx) : Prop extends XE T G k c W X where
  kind : c.sc.kind = .function
  hp : PassesOwn (model X.prog X.w) X.A X.env X.xe
  stk : X.stack = X.env :: X.outer
  frm : X.env.frame = some X.env.locals
  exc : ∀ (j : Nat) (x : Str), T.exs[j]? = some x → ∃ (B newId initId : String) (bmB : List Value), ExcBaseFacts B newId initId bmB ∧ PySem.W.excIn X.K (He.ga X.K x) bmB newId = true ∧ X.mg x = some (.ref (He.ga X.K x)) ∧ PySem.W.keepIn X.K (.ref (He.ga X.K x)) = true ∧ L2.Raises X (.ref (He.ga X.K x))
  fal : T.fall = true → ∃ q, X.mg "FallError" = some q ∧ ∀ (j : Nat) (kk : Int), Wh j = some kk → PySem.W.exmOne X.K (xcOf T X.K j) q = some true
  wch : T.which = true → WhichOk T Wh X.prog X.w X.K X.mg X.base k
section
variable {T : Tabs} {G : Fns} {Wh : Wh} {k : Nat} {c : Ct} {W : WX} {X : Cx} {xc : Nat → Value} {pos : Pos} {fa : Sl → Sto → R D} {sa sb : Sl → Sto → RS}
theorem XS.tr (h : XS T G Wh k c W X) {W' : WX} {pn : List (Addr × Obj)} {xe : Value → Shared → Prop} (tk : L2N.Takes (X.tr pn xe) W') (hp : PassesOwn (model X.prog X.w) X.A X.env xe) : XS T G Wh k c W' (X.tr pn xe) where
  hN := h.hN
  nd := h.nd
  sc := h.sc
  fn := h.fn
  calm := h.calm
  room1 := h.room1
  free := h.free
  con := h.con
  fns := h.fns
  tk := tk
  ww := h.ww
  cls := h.cls
  noat := h.noat
  tab := h.tab
  mth := h.mth
  kind := h.kind
  hp := hp
  stk := h.stk
  frm := h.frm
  exc := h.exc
  fal := h.fal
  wch := h.wch
theorem z_seq {st : Stmt} {rest : List Stmt} (h1 : PS X st (tS X.K xc W sa)) (h2 : PSs X rest (tS X.K xc W sb)) : PSs X (st :: rest) (tS X.K xc W fun τ s => (sa τ s).then sb) := by
  refine PSs.imp (L2.pss_cons h1 h2) fun D σ H ⟨F, ρ, τ, s, st, sl, h⟩ => ⟨F, ρ, τ, s, st, sl, ?_⟩
  simp only at h
  cases e : sa τ s with
  | nx τ1 s1 => rw [e] at h; exact fun F' H' ρ' σ' e' st' sl' => ⟨F', ρ', τ1, s1, st', sl', RPS.mono (r := sb τ1 s1) h e'⟩
  | bk τ1 s1 => rw [e] at h; exact h
  | rt d s1 => rw [e] at h; exact h
  | ex c τ1 s1 => rw [e] at h; exact h
  | bad => rw [e] at h; exact h
theorem z_nil : PSs X [] (tS X.K xc W fun τ s => .nx τ s) := PSs.imp L2.pss_nil fun D σ H ⟨F, ρ, τ, s, st, sl, h⟩ => h F H ρ σ (Ext.refl _ _ _) st sl
theorem z_pass : PS X (.Pass pos) (tS X.K xc W fun τ s => .nx τ s) := PS.imp L2.ps_pass fun D σ H ⟨F, ρ, τ, s, st, sl, h⟩ => h F H ρ σ (Ext.refl _ _ _) st sl
theorem z_brk : PS X (.Break pos) (tS X.K xc W fun τ s => .bk τ s) := PS.imp L2.ps_break fun D σ H ⟨F, ρ, τ, s, st, sl, h⟩ => h F H ρ σ (Ext.refl _ _ _) st sl
theorem z_nev {st : Stmt} : PS X st (tS X.K xc W fun _ _ => .bad) := PS.imp L2.ps_never fun D σ H ⟨F, ρ, τ, s, st, sl, h⟩ => h
theorem z_ret {e : Expr} (he : PE X e (tE X.K xc W fa)) : PS X (.Return (some e) pos) (tS X.K xc W fun τ s => (fa τ s).st τ fun d s => .rt d s) :=
  PS.imp (L2.ps_ret he) fun D σ H ⟨F, ρ, τ, s, st, sl, h⟩ => ⟨F, ρ, τ, s, st, sl, (h.st sl).imp fun d s1 F1 H1 ρ1 e1 st1 h1 v hv => h1 F1 H1 ρ1 (Ext.refl _ _ _) st1 v hv⟩
theorem z_exp {e : Expr} (he : PE X e (tE X.K xc W fa)) (hc : isCall e = true) : PS X (.Expr e pos) (tS X.K xc W fun τ s => (fa τ s).st τ fun _ s => .nx τ s) := by
  refine PS.imp (L2.ps_expr he (by cases e <;> first | rfl | (simp [isCall] at hc))) fun D σ H ⟨F, ρ, τ, s, st, sl, h⟩ => ⟨F, ρ, τ, s, st, sl, (h.st sl).imp fun d s1 F1 H1 ρ1 e1 st1 h1 v hv => h1 F1 H1 ρ1 σ (Ext.refl _ _ _) st1 (sl.mono e1)⟩
theorem z_if {q : Expr} {a b : List Stmt} (hq : PT X q (tT X.K xc W fa)) (ha : PSs X a (tS X.K xc W sa)) (hb : PSs X b (tS X.K xc W sb)) : PS X (.If q a b pos) (tS X.K xc W fun τ s => (fa τ s).st τ fun d s => (match d with
    | .p (.bl true) => sa τ s
    | .p (.bl false) => sb τ s
    | _ => .bad)) := by
  refine PS.imp (L2.ps_if hq ha hb) fun D σ H ⟨F, ρ, τ, s, st, sl, h⟩ => ?_
  refine ⟨F, ρ, τ, s, st, sl, (h.st sl).imp fun d s1 F1 H1 ρ1 e1 st1 h1 => ?_⟩
  split at h1
  · exact ⟨true, rfl, L2.iteT ⟨F1, ρ1, τ, s1, st1, sl.mono e1, h1⟩⟩
  · exact ⟨false, rfl, L2.iteF ⟨F1, ρ1, τ, s1, st1, sl.mono e1, h1⟩⟩
  · exact h1.elim
theorem t_asg {K : PySem.W.Frag} {tg : Tg} {D : Ends} {σ : St} {H : Hp} (h : tS K xc W (fun τ s => (fa τ s).st τ fun d s => (match tg.put d τ with
    | some τ1 => .nx τ1 s
    | none => .bad)) D σ H) : L2.tAsg (tE K xc W fa) (tG K tg) D σ H := by
  obtain ⟨F, ρ, τ, s, st, sl, h⟩ := h
  refine ⟨F, ρ, τ, s, st, sl, (h.st sl).imp fun d s1 F1 H1 ρ1 e1 st1 h1 v hv => ?_⟩
  cases hp : tg.put d τ with
  | none => rw [hp] at h1; exact h1.elim
  | some τ1 =>
    rw [hp] at h1
    exact ⟨F1, ρ1, τ, s1, d, τ1, st1, sl.mono e1, hv, hp, fun σ' sl' _ => h1 F1 H1 ρ1 σ' (Ext.refl _ _ _) st1 sl'⟩
theorem gname_of {K : PySem.W.Frag} {i : Nat} {v : V} {σ : St} {H : Hp} {Q : St → Hp → Prop} (h : tG K (.name i) v σ H Q) : L2.gName i v σ H Q := by
  obtain ⟨F, ρ, τ, s, d, τ', st, sl, hd, e, q⟩ := h
  have e : some (τ.set i (some d)) = some τ' := e
  cases e
  exact q _ (sl.set hd) fun vs hv => wipe_set (hv i (by simp [Tg.slots]))
theorem swapN {env : Env} {ts vs : List Expr} {kt k2 : Nat} {pt p2 : Pos} (hsc : env.scope = c.sc) (h : ts.any (isCell c) = true) : swappedStores [.Tuple ts kt pt] (.Tuple vs k2 p2) env = pure none := by
  have key : ∀ line : Nat, (ts.filterMap fun
    | .Name id pos => if env.kindOf id == some .local && pos.line == line then some id else none
    | _ => none).length ≠ ts.length := by
    intro line e
    obtain ⟨t, ht, hc⟩ := List.any_eq_true.mp h
    have := List.filterMap_length_eq_length.mp e t ht
    cases t <;> first | (simp [isCell] at hc; done) | skip
    rename_i x p
    have hc : c.sc.names.lookup x = some .cell := of_decide_eq_true hc
    have hk : env.kindOf x = some .cell := by
      show env.scope.names.lookup x = _
      rw [hsc]; exact hc
    simp [hk] at this
  unfold swappedStores
  simp only
  split
  · rfl
  · split
    · rfl
    · rw [if_pos]
      · exact Bool.or_eq_true_iff.mpr (.inl (bne_iff_ne.mpr (key _)))
theorem z_asg (hX : XE T G k c W X) {tg : Tg} {t v : Expr} (ht : ckTg c tg t = true) (hv : PE X v (tE X.K xc W fa)) (hn : notComp v = true) (ho : asgOk c t v = true) : PS X (.Assign [t] v pos) (tS X.K xc W fun τ s => (fa τ s).st τ fun d s => (match tg.put d τ with
    | some τ1 => .nx τ1 s
    | none => .bad)) := by
  refine PS.imp (L2.ps_asg hv (s_tg hX ht) ?_ ?_ ?_) fun D σ H h => t_asg h
  · cases v <;> first | rfl | (simp [notComp] at hn)
  · cases t <;> first | rfl | (simp [asgOk] at ho; done) | (cases v <;> first | rfl | (simp [asgOk] at ho; done) | exact swapN hX.sc ho)
  · cases t <;> first | rfl | (simp [asgOk] at ho; done)
theorem z_loop (hX : XS T G Wh k c W X) {tg : Tg} {t i : Expr} {body : List Stmt} {fi : Sl → Sto → R Src} (hi : PI X t i (tI X.K xc W fi)) (hp : plainE i = true) (ht : ckTg c tg t = true) (hb : PSs X body (tS X.K xc W sb)) :
    PS X (.For t i body [] pos) (tS X.K xc W fun τ s => (fi τ s).st τ fun r s => forLoop r tg sb (r.len s + 1) 0 τ s) := by
  refine PS.imp (L2.ps_for hX.hp hX.calm hi (s_tg hX.toXE ht) hb (noFold1 hp)) fun D σ H ⟨F, ρ, τ, s, st, sl, h⟩ => ?_
  refine ⟨F, ρ, τ, s, st, sl, (h.st sl).imp fun r s1 F1 H1 ρ1 e1 st1 h1 J hJ => ?_⟩
  refine ⟨fun i m σ H => ∃ F ρ τ s, Stt F H ρ s ∧ SlOk X.K F ρ σ τ ∧ Ext F1 H1 ρ1 F H ρ ∧ RPS X.K xc W F H ρ (forLoop r tg sb m i τ s) D, ⟨_, F1, ρ1, τ, s1, st1, sl.mono e1, Ext.refl _ _ _, h1⟩, ?_⟩
  rintro i m σ2 H2 ⟨F2, ρ2, τ2, s2, st2, sl2, e2, h2⟩
  cases m with
  | zero => exact h2.elim
  | succ m =>
    unfold forLoop at h2
    obtain ⟨j1, j2⟩ := hJ i F2 H2 ρ2 s2 e2 st2
    cases hat : r.at s2 i with
    | none => rw [hat] at h2; exact h2.elim
    | some o =>
      rw [hat] at h2
      cases o with
      | none => exact .inl ⟨j1 hat, h2 F2 H2 ρ2 σ2 (Ext.refl _ _ _) st2 sl2⟩
      | some d =>
        obtain ⟨_, hgo, hy⟩ := j2 d hat
        simp only at h2
        refine .inr ⟨hgo, fun σ H => ∃ m', m' < m + 1 ∧ ∃ F ρ τ s, Stt F H ρ s ∧ SlOk X.K F ρ σ τ ∧ Ext F1 H1 ρ1 F H ρ ∧ RPS X.K xc W F H ρ (forLoop r tg sb m' (i + 1) τ s) D, fun _ _ z => z, fun x H3 yl => ?_⟩
        obtain ⟨F3, e3, st3, hx⟩ := hy x H3 yl
        cases hput : tg.put d τ2 with
        | none => rw [hput] at h2; exact h2.elim
        | some τ3 =>
          rw [hput] at h2
          simp only at h2
          refine ⟨F3, ρ2, τ2, s2, d, τ3, st3, sl2.mono e3, hx, hput, fun σ3 sl3 _ => ⟨F3, ρ2, τ3, s2, st3, sl3, ?_⟩⟩
          cases hb2 : sb τ3 s2 with
          | nx τ4 s4 => rw [hb2] at h2; exact fun F' H' ρ' σ' e' st' sl' => ⟨m, Nat.lt_succ_self m, F', ρ', τ4, s4, st', sl', e2.trans (e3.trans e'), RPS.mono (r := forLoop r tg sb m (i + 1) τ4 s4) h2 (e3.trans e')⟩
          | bk τ4 s4 => rw [hb2] at h2; exact fun F' H' ρ' σ' e' st' sl' => h2 F' H' ρ' σ' (e3.trans e') st' sl'
          | rt d s4 => rw [hb2] at h2; exact fun F' H' ρ' e' st' => h2 F' H' ρ' (e3.trans e') st'
          | ex c τ4 s4 => rw [hb2] at h2; exact fun F' H' ρ' σ' e' st' sl' => h2 F' H' ρ' σ' (e3.trans e') st' sl'
          | bad => rw [hb2] at h2; exact h2.elim
theorem z_while (hX : XS T G Wh k c W X) {n : Nat} {q : Expr} {body : List Stmt} (hq : PT X q (tT X.K xc W fa)) (hb : PSs X body (tS X.K xc W sb)) :
    PS X (.While q body [] pos) (tS X.K xc W fun τ s => whileLoop fa sb n τ s) := by
  refine PS.imp (L2.ps_while hX.hp hq hb) fun D σ H ⟨F1, ρ1, τ, s, st, sl, h⟩ => ?_
  refine ⟨fun m σ H => ∃ F ρ τ s, Stt F H ρ s ∧ SlOk X.K F ρ σ τ ∧ RPS X.K xc W F H ρ (whileLoop fa sb m τ s) D, ⟨n, F1, ρ1, τ, s, st, sl, h⟩, ?_⟩
  rintro m σ2 H2 ⟨F2, ρ2, τ2, s2, st2, sl2, h2⟩
  cases m with
  | zero => exact h2.elim
  | succ m =>
    unfold whileLoop at h2
    refine ⟨F2, ρ2, τ2, s2, st2, sl2, (h2.st sl2).imp fun d s3 F3 H3 ρ3 e3 st3 h3 => ?_⟩
    split at h3
    · refine ⟨false, rfl, ?_⟩
      exact L2.iteF (h3 F3 H3 ρ3 σ2 (Ext.refl _ _ _) st3 (sl2.mono e3))
    · refine ⟨true, rfl, L2.iteT ⟨fun σ H => ∃ m', m' < m + 1 ∧ ∃ F ρ τ s, Stt F H ρ s ∧ SlOk X.K F ρ σ τ ∧ RPS X.K xc W F H ρ (whileLoop fa sb m' τ s) D, fun _ _ z => z, F3, ρ3, τ2, s3, st3, sl2.mono e3, ?_⟩⟩
      cases hb2 : sb τ2 s3 with
      | nx τ4 s4 => rw [hb2] at h3; exact fun F' H' ρ' σ' e' st' sl' => ⟨m, Nat.lt_succ_self m, F', ρ', τ4, s4, st', sl', RPS.mono (r := whileLoop fa sb m τ4 s4) h3 e'⟩
      | bk τ4 s4 => rw [hb2] at h3; exact fun F' H' ρ' σ' e' st' sl' => h3 F' H' ρ' σ' e' st' sl'
      | rt d s4 => rw [hb2] at h3; exact fun F' H' ρ' e' st' => h3 F' H' ρ' e' st'
      | ex c τ4 s4 => rw [hb2] at h3; exact fun F' H' ρ' σ' e' st' sl' => h3 F' H' ρ' σ' e' st' sl'
      | bad => rw [hb2] at h3; exact h3.elim
    · exact h3.elim
theorem z_raise (hX : XS T G Wh k c W X) {j : Nat} {x m : Str} {kk : Nat} {p p2 p3 : Pos} (hx : T.exs[j]? = some x) (hg : isGl c.sc x = true) (hn : okn x = true) :
    PS X (.Raise (some (.Call (.Name x p) [.Constant (.str m) kk p2] [] p3)) none pos) (tS X.K (xcOf T X.K) W fun τ s => .ex j τ s) := by
  obtain ⟨B, newId, initId, bmB, h1, h2, h3, h4, h5⟩ := hX.exc j x hx
  refine PS.imp (L2N.ps_raise hX.calm hX.tk (L2N.pmk_own h1 h2 h3 h4 h5 (hX.gl hg) (okn1 hn).1)) fun D σ H ⟨F, ρ, τ, s, st, sl, h⟩ => ?_
  have h := h F H ρ σ (Ext.refl _ _ _) st sl
  unfold xcOf at h
  rw [hx] at h
  exact h
theorem swaps_attr {v o : Expr} {x : Str} {p : Pos} {l : Nat} {env : Env} : swapsWith v (some (.Attribute o x p)) l env = pure false := by cases v <;> rfl
theorem swaps_sub {v o i : Expr} {p : Pos} {l : Nat} {env : Env} : swapsWith v (some (.Subscript o i p)) l env = pure false := by cases v <;> rfl
theorem z_fput (hX : XE T G k c W X) {a v : Expr} {x : Str} {p : Pos} {fv : Sl → Sto → R D} (hf : T.hasF x = true) (ha : PE X a (tE X.K xc W fa)) (hv : PE X v (tE X.K xc W fv)) :
    PS X (.Assign [.Attribute a x p] v pos) (tS X.K xc W fun τ s => (fv τ s).st τ fun d s => (fa τ s).st τ fun o s => (fputD o x d s).st τ fun _ s => .nx τ s) := by
  obtain ⟨hc, hn⟩ := hX.hasF hf
  refine PS.imp (L2.ps_fld ha hv swaps_attr) fun D σ H ⟨F, ρ, τ, s, st, sl, h⟩ => ⟨F, ρ, τ, s, st, sl, (h.st sl).imp fun d s1 F1 H1 ρ1 e1 st1 h1 y hy => ⟨F1, ρ1, τ, s1, st1, sl.mono e1, (h1.st (sl.mono e1)).imp fun o s2 F2 H2 ρ2 e2 st2 h2 z hz => ?_⟩⟩
  have sl2 := (sl.mono e1).mono e2
  have hy2 := HasD.mono e2 _ _ hy
  unfold fputD at h2
  split at h2
  · rename_i n fs w hw hi
    split at h2
    · rename_i hl
      obtain ⟨n', q, dx, ws, en, rfl, hm, hH, hF⟩ := ins_sees st2 hz hi
      cases en
      have hC := sl2.c
      refine ⟨q, _, dx, ws, rfl, by rw [hC] at hH; exact hH, hc, hn, by rw [hF.length]; omega, ?_⟩
      have hput : HasFs F2 ρ2.m (L2.putF x y ws) (putFv x w fs) := hF.put x (has_fv hy2 hw)
      have st3 : Stt F2 (upd H2 q (.ins (He.ga X.K (Str.ofString "House")) dx (L2.putF x y ws))) ρ2 (s2.setM n (.ins (putFv x w fs))) := st2.setMO hm (st2.free (List.mem_append_right _ (List.mem_of_getElem? hm)) hH (fun _ _ z => nomatch z)) (st2.uwS fun _ z => by rw [hH] at z; cases z) ⟨dx, _, by rw [upd_same, hC], hput⟩
      have e3 : Ext F2 H2 ρ2 F2 (upd H2 q (.ins (He.ga X.K (Str.ofString "House")) dx (L2.putF x y ws))) ρ2 := Stt.xset (List.mem_append_right _ (List.mem_of_getElem? hm))
      exact h2 _ _ _ σ e3 st3 (sl2.mono e3)
    · exact h2.elim
  · exact h2.elim
/-- d[k] = v, whatever the dict -/
def sPutX (td ty tv : TE) : TS := fun D σ H => tv σ H fun v H1 => td σ H1 fun x H2 => ty σ H2 fun y H3 => (∃ a H4, x = .ref a ∧ L2.DPut H3 a y v H4 ∧ D.nx σ H4) ∨
  ∃ q es kb kk, x = .ref q ∧ GD H3 q es ∧ H3 q = some (gO q es) ∧ GK H3 y kb kk ∧ ∀ u, RelV v u → D.nx σ (upd H3 q (gO q (storedH es kk kb u)))
theorem ps_putX {o i value : Expr} {pos' : Pos} {td ty tv : TE} (hw : WW.w = X.w) (hu : X.A.units + 64 < cLine) (ho : PE X o td) (hi : PE X i ty) (hv : PE X value tv) (hs : swapsWith value (some (.Subscript o i pos')) pos.line X.env = pure false) :
    PS X (.Assign [.Subscript o i pos'] value pos) (sPutX td ty tv) := by
  refine ⟨fun pins s σ H D I h => ?_⟩
  refine wpAny_Assign_Subscript (thn (hv.run pins s σ H _ I h) fun r s1 ⟨v, H1, I1, rv, q1⟩ => thn (ho.run pins s1 σ H1 _ I1 q1) fun u s2 ⟨x, H2, I2, rx, q2⟩ => thn (hi.run pins s2 σ H2 _ I2 q2) fun iv s3 ⟨y, H3, I3, ry, q3⟩ => ?_) hs
  rcases q3 with ⟨a, H4, rfl, g, q3⟩ | ⟨q, es, kb, kk, rfl, g, hm, gk, q3⟩
  · obtain rfl : u = Value.ref a := rx
    exact L2.d_setItem (by omega) I3 g ry rv fun s4 I4 => ⟨σ, H4, I4, q3⟩
  · obtain rfl : u = Value.ref q := rx
    cases gk.e
    obtain rfl : iv = Value.ref kb := ry
    exact g_put hw hu I3 g hm gk fun s4 I4 => ⟨σ, _, I4, q3 r rv⟩
theorem z_dput (hX : XE T G k c W X) {a b v : Expr} {p : Pos} {fb fv : Sl → Sto → R D} (ha : PE X a (tE X.K xc W fa)) (hb : PE X b (tE X.K xc W fb)) (hv : PE X v (tE X.K xc W fv)) :
    PS X (.Assign [.Subscript a b p] v pos) (tS X.K xc W fun τ s => (fv τ s).st τ fun x s => (fa τ s).st τ fun d s => (fb τ s).st τ fun k s => (dputX d k x s).st τ fun _ s => .nx τ s) := by
  have hu := hX.units
  refine PS.imp (ps_putX hX.ww hu ha hb hv swaps_sub) fun D σ H ⟨F, ρ, τ, s, st, sl, h⟩ => ⟨F, ρ, τ, s, st, sl, (h.st sl).imp fun x s1 F1 H1 ρ1 e1 st1 h1 y hy => ⟨F1, ρ1, τ, s1, st1, sl.mono e1, (h1.st (sl.mono e1)).imp fun d s2 F2 H2 ρ2 e2 st2 h2 z hz => ⟨F2, ρ2, τ, s2, st2, (sl.mono e1).mono e2, (h2.st ((sl.mono e1).mono e2)).imp fun kk s3 F3 H3 ρ3 e3 st3 h3 w hw => ?_⟩⟩⟩
  have sl3 := ((sl.mono e1).mono e2).mono e3
  have hy3 := HasD.mono e3 _ _ (HasD.mono e2 _ _ hy)
  have hz3 := HasD.mono e3 _ _ hz
  unfold dputX at h3
  split at h3
  · rename_i kvg hgg
    unfold gputD at h3
    split at h3
    · rename_i n kvs kp xp hg
      split at h3
      · rename_i hk
        obtain ⟨n', q, es, en, rfl, hm, _, hH, g, hh, hl, hes⟩ := dg_sees st3 hz3 hg
        cases en
        subst hes
        cases hy3 with | p hy3 =>
        cases hw with | p hw =>
        obtain ⟨kb, gk, hkb⟩ := gk_of st3.sub hw hk.1
        refine .inr ⟨q, _, kb, _, rfl, g, hH, gk, fun u ru => ?_⟩
        have e4 := Stt.xsetE (F := F3) (H := H3) (ρ := ρ3) (o := gO q (storedH (ρ3.u.e q) kp.nk kb u)) (xs := storedH (ρ3.u.e q) kp.nk kb u) (List.mem_append_left _ (List.mem_of_getElem? hm))
        have fin : (∀ iv, findK kp kvs = some iv → ∃ w, iv = .p w) → RPS X.K xc W F3 H3 ρ3 (.nx τ (s3.setT n (.dg (putK kp (.p xp) kvs)))) D → D.nx σ (upd H3 q (gO q (storedH (ρ3.u.e q) kp.nk kb u))) := fun hno h => h _ _ _ σ e4 (st3.gput hm hH g.nd hh hno hk.1 hkb ru hy3 hk.2) (sl3.mono e4)
        split at h3
        · rename_i w hf
          exact fin (fun iv e => by rw [hf] at e; cases e; exact ⟨_, rfl⟩) h3
        · rename_i hf
          exact fin (fun iv e => by rw [hf] at e; cases e) h3
        · exact h3.elim
      · exact h3.elim
    · exact h3.elim
  unfold dputD at h3
  split at h3
  · rename_i kvs kb xa hd
    split at h3
    · rename_i key hk
      split at h3
      · rename_i hl
        obtain ⟨q, ws, rfl, hH, hkv, _⟩ := dctU_sees st3 hz3 hd
        have ew := get_key (s := s3) hw rfl hk
        subst ew
        cases hy3 with | p hy3 =>
        have hput := hkv.put key hy3
        have hz' : (putP kvs key xa).length ≤ sizeLine := Nat.le_trans (putP_len _ _ _) hl
        refine .inl ⟨q, _, rfl, L2.DPut.k hH (by rw [hkv.length]; exact hl), ?_⟩
        cases hz3 with
        | @tmp _ n hm =>
          have e4 : Ext F3 H3 ρ3 F3 (upd H3 q (.dK (L2.putK ws key y))) ρ3 := Stt.xset (List.mem_append_left _ (List.mem_of_getElem? hm))
          exact h3 _ _ _ σ e4 (st3.setTO hm (st3.free (List.mem_append_left _ (List.mem_of_getElem? hm)) hH (fun _ _ z => nomatch z)) (st3.uwS fun _ z => by rw [hH] at z; cases z) ⟨hz', _, upd_same, hput⟩) (sl3.mono e4)
        | @ref _ n hm =>
          have e4 : Ext F3 H3 ρ3 F3 (upd H3 q (.dK (L2.putK ws key y))) ρ3 := Stt.xset (List.mem_append_right _ (List.mem_of_getElem? hm))
          exact h3 _ _ _ σ e4 (st3.setMO hm (st3.free (List.mem_append_right _ (List.mem_of_getElem? hm)) hH (fun _ _ z => nomatch z)) (st3.uwS fun _ z => by rw [hH] at z; cases z) ⟨hz', _, upd_same, hput⟩) (sl3.mono e4)
        | p _ => exact h3.elim
        | scr _ => exact h3.elim
        | tup _ _ _ => exact h3.elim
        | dct _ _ _ _ _ _ => exact h3.elim
      · exact h3.elim
    · exact h3.elim
  · exact h3.elim
end
end G7

namespace G7
open PySem PySem.Spec
open L2 (V Hp HO St WX TE TS R2 OpR CallR MtR MtM SlR IxR Inv RelV Vals Mut upd upd_same upd_ne ne_of_none SqL SqT Cx Room EP VK PE PT PA PI PG PGs PO PS PSs Sp XK It TI TG TGs FnOk thn Ends)
variable [WW]
/-! ### a dict that is not changed any more -/
def fzF (F H : Hp) (u : UU) (q : Addr) (o : HO) : Hp := fun x => if x = q then some o else match u.o x with
  | some (a, _) => if a = q then H x else F x
  | none => F x
def fzU (u : UU) (q : Addr) : UU := ⟨fun x => match u.o x with
  | some (a, k) => if a = q then none else some (a, k)
  | none => none, u.e⟩
section
variable {F H : Hp} {u : UU} {q x a : Addr} {k : NestedKey} {o : HO}
theorem fzF_q : fzF F H u q o q = some o := if_pos rfl
theorem fzF_in (hx : x ≠ q) (h : u.o x = some (q, k)) : fzF F H u q o x = H x := by
  unfold fzF; rw [if_neg hx, h]; exact if_pos rfl
theorem fzF_out (hx : x ≠ q) (h : ∀ k, u.o x ≠ some (q, k)) : fzF F H u q o x = F x := by
  unfold fzF
  rw [if_neg hx]
  cases e : u.o x with
  | none => rfl
  | some y =>
    obtain ⟨a, k⟩ := y
    exact if_neg fun z => h k (by rw [e, z])
theorem fzU_some (h : (fzU u q).o x = some (a, k)) : u.o x = some (a, k) ∧ a ≠ q := by
  simp only [fzU] at h
  split at h
  · rename_i a' k' e
    by_cases z : a' = q
    · rw [if_pos z] at h; cases h
    · rw [if_neg z] at h
      cases h
      exact ⟨e, z⟩
  · cases h
theorem fzU_keep (h : u.o x = some (a, k)) (hn : a ≠ q) : (fzU u q).o x = some (a, k) := by
  unfold fzU
  simp only [h, if_neg hn]
end
theorem HasG.vals {K : PySem.W.Frag} {u : UU} {F F' H : Hp} {ρ' : Rho} {a : Addr} (sub : Sub F F') (hl : ∀ b k vs, u.o b = some (a, k) → H b = some (.lst vs) → F' b = some (.lst vs)) {xs : List Ent} {kvs : List (P × IV)} (h : HasG u F H a xs kvs) (hn : kvs.all (fun kv => noD kv.2) = true) :
    ∃ ws, Vals ws (xs.map (·.2.2)) ∧ HasDs K F' ρ' ws (kvs.map fun kv => ivF kv.2) := by
  induction h with
  | nil => exact ⟨[], .nil, .nil⟩
  | @cons b v y xs x iv kvs h1 h2 h3 h4 h5 ih =>
    rw [List.all_cons] at hn
    obtain ⟨n1, n2⟩ := ba hn
    obtain ⟨ws, w1, w2⟩ := ih n2
    refine ⟨y :: ws, .cons h3 w1, .cons ?_ w2⟩
    cases iv with
    | p z => exact .p (HasP.mono sub _ _ h4)
    | l ys =>
      obtain ⟨b', vs, rfl, e1, e2, z, r⟩ := h4
      exact .p (.lst (hl b' _ vs e1 e2) z (HasPs.mono sub _ _ r))
    | d _ => cases n1
theorem Stt.gfz {K : PySem.W.Frag} {F H : Hp} {ρ : Rho} {s : Sto} (st : Stt F H ρ s) {n : Nat} {q : Addr} {kvs : List (P × IV)} (hq : ρ.t[n]? = some q) (hs : s.t[n]? = some (.dg kvs)) (hn : kvs.all (fun kv => noD kv.2) = true) (od : Obj) :
    H q = some (gO q (ρ.u.e q)) ∧ Stt (fzF F H ρ.u q (.frz od (gO q (ρ.u.e q)))) (upd H q (.frz od (gO q (ρ.u.e q)))) ⟨ρ.t, ρ.m, ρ.C, fzU ρ.u q⟩ (s.setT n .gone) ∧
    Ext F H ρ (fzF F H ρ.u q (.frz od (gO q (ρ.u.e q)))) (upd H q (.frz od (gO q (ρ.u.e q)))) ⟨ρ.t, ρ.m, ρ.C, fzU ρ.u q⟩ ∧
    HasD K (fzF F H ρ.u q (.frz od (gO q (ρ.u.e q)))) ⟨ρ.t, ρ.m, ρ.C, fzU ρ.u q⟩ (.ref q) (.dct (kvs.map (·.1)) (kvs.map fun kv => ivF kv.2)) := by
  obtain ⟨z, hH, nd, hh⟩ := st.ot n _ q hs hq
  have hm : q ∈ ρ.t ++ ρ.m := List.mem_append_left _ (List.mem_of_getElem? hq)
  have fq : F q = none := st.free hm hH noFrz
  have ndt := List.nodup_append.mp st.nd
  generalize ho : HO.frz od (gO q (ρ.u.e q)) = o
  have own : ∀ x k, ρ.u.o x = some (q, k) → x ≠ q ∧ F x = none := fun x k h => by
    obtain ⟨h1, h2, _⟩ := st.uo x (by rw [h]; exact fun z => nomatch z)
    exact ⟨fun z => h2 (by rw [z]; exact hm), h1⟩
  have mem : ∀ x, x ∈ ρ.t ++ ρ.m → ∀ k, ρ.u.o x ≠ some (q, k) := fun x hx k h => (st.uo x (by rw [h]; exact fun z => nomatch z)).2.1 hx
  have sub : Sub F (fzF F H ρ.u q o) := fun x ob h => by
    have xq : x ≠ q := fun z => by rw [z, fq] at h; cases h
    rw [fzF_out xq fun k e => by rw [(own x k e).2] at h; cases h]
    exact h
  have sa : ∀ x, x ≠ q → SameAt ρ.u H (upd H q o) x := fun x hx => ⟨upd_ne hx, fun b k hb => upd_ne fun z => by
    rw [z, st.noU hm] at hb; cases hb⟩
  refine ⟨hH, ⟨fun x ob h => ?_, by simp [Sto.setT, st.tl], by simp [Sto.setT, st.ml], st.nd, fun x hx => ?_, fun i ob x e1 e2 => ?_, fun i ob x e1 e2 => ?_, fun b hb => ?_, fun b q' k hb => ?_⟩, ⟨sub, ⟨[], by simp⟩, ⟨[], by simp⟩, fun x ob h hx _ => ?_, fun x hx => .inl hx, fun x ob h => ?_, fun x h => upd_keeps x h, rfl, fun x hx => ?_, fun b q' k hb => ?_⟩, ?_⟩
  · by_cases xq : x = q
    · subst xq; rw [fzF_q] at h; cases h; exact upd_same
    · rw [upd_ne xq]
      by_cases e : ∃ k, ρ.u.o x = some (q, k)
      · obtain ⟨k, e⟩ := e
        rw [fzF_in xq e] at h; exact h
      · rw [fzF_out xq fun k z => e ⟨k, z⟩] at h
        exact st.sub x ob h
  · by_cases xq : x = q
    · subst xq; exact .inr ⟨od, _, by rw [fzF_q, ← ho]⟩
    · rw [fzF_out xq (mem x hx)]; exact st.out x hx
  · rcases get_set e1 with ⟨h1, h2⟩ | ⟨h1, h2⟩
    · subst h1; subst h2
      rw [show ρ.t[i]? = some x from e2] at hq; cases hq
      show upd H q o q ≠ none
      rw [upd_same]; exact fun z => nomatch z
    · have xq : x ≠ q := fun z => h1 (nodup_ix ndt.1 e2 (z ▸ hq))
      exact OOk.mono2 ⟨[], (List.append_nil _).symm⟩ ⟨fun b k h => fzU_keep h xq, rfl⟩ sub (sa x xq) (st.ot i ob x h2 e2)
  · have xq : x ≠ q := fun z => ndt.2.2 q (List.mem_of_getElem? hq) x (List.mem_of_getElem? e2) z.symm
    exact OOk.mono2 ⟨[], (List.append_nil _).symm⟩ ⟨fun b k h => fzU_keep h xq, rfl⟩ sub (sa x xq) (st.om i ob x e1 e2)
  · have hb : (fzU ρ.u q).o b ≠ none := hb
    cases e : (fzU ρ.u q).o b with
    | none => exact absurd e hb
    | some y =>
      obtain ⟨a, k⟩ := y
      obtain ⟨h1, h2⟩ := fzU_some e
      obtain ⟨g1, g2, g3⟩ := st.uo b (by rw [h1]; exact fun z => nomatch z)
      have bq : b ≠ q := fun z => g2 (by rw [z]; exact hm)
      exact ⟨by rw [fzF_out bq fun k' z => by rw [h1] at z; cases z; exact h2 rfl]; exact g1, g2, upd_keeps b g3⟩
  · obtain ⟨h1, h2⟩ := fzU_some (show (fzU ρ.u q).o b = some (q', k) from hb)
    obtain ⟨g1, g2⟩ := st.uw b q' k h1
    exact ⟨by rw [upd_ne h2]; exact g1, g2⟩
  · rw [upd_ne (fun z => hx (by rw [z]; exact hm))]; exact h
  · by_cases xq : x = q
    · exact .inr (.inr (.inl (by rw [xq]; exact hm)))
    · by_cases e : ∃ k, ρ.u.o x = some (q, k)
      · obtain ⟨k, e⟩ := e
        exact .inr (.inr (.inr (by rw [e]; exact fun z => nomatch z)))
      · rw [fzF_out xq fun k z => e ⟨k, z⟩] at h
        exact .inl h
  · have hx : (fzU ρ.u q).o x ≠ none := hx
    cases e : (fzU ρ.u q).o x with
    | none => exact absurd e hx
    | some y =>
      obtain ⟨a, k⟩ := y
      exact .inl (by rw [(fzU_some e).1]; exact fun z => nomatch z)
  · by_cases e : q' = q
    · exact .inr (by rw [e, fzF_q]; exact fun z => nomatch z)
    · exact .inl (fzU_keep hb e)
  · obtain ⟨ws, w1, w2⟩ := HasG.vals (K := K) (ρ' := ⟨ρ.t, ρ.m, ρ.C, fzU ρ.u q⟩) sub (fun b k vs e1 e2 => by rw [fzF_in (own b k e1).1 e1]; exact e2) hh hn
    exact .dct (by rw [fzF_q, ← ho]) nd (by rw [List.length_map]; exact z) (hh.keys.mono sub) w1 w2
theorem ps_frz {X : Cx} {st : Stmt} {t : TS} (h : PS X st t) : PS X st (fun D σ H => ∃ d u, H d = some u ∧ Mut (some u) ∧ ∀ od, t D σ (upd H d (.frz od u))) :=
  ⟨fun pins s σ H D I ⟨d, u, hd, mu, hw⟩ => by
    obtain ⟨od, I1⟩ := I.lock hd mu
    exact h.run pins s σ _ D I1 (hw od)⟩
theorem z_gfz {X : Cx} {xc : Nat → Value} {W : WX} {st : Stmt} {sa : Sl → Sto → RS} {i : Nat} (h : PS X st (tS X.K xc W sa)) : PS X st (tS X.K xc W fun τ s => match frzSl i τ s with
    | some (τ1, s1) => sa τ1 s1
    | none => .bad) := by
  refine PS.imp (ps_frz h) fun D σ H ⟨F, ρ, τ, s, st, sl, h⟩ => ?_
  cases hz : frzSl i τ s with
  | none => simp only [hz] at h; exact h.elim
  | some y =>
    obtain ⟨τ1, s1⟩ := y
    simp only [hz] at h
    unfold frzSl at hz
    split at hz
    · rename_i n hn
      split at hz
      · rename_i kvs hk
        split at hz
        · rename_i hno
          cases hz
          obtain ⟨v, hv, hd⟩ := sl.at_ i _ hn
          cases hd with | @tmp q _ hq =>
          have g := fun od => st.gfz (K := X.K) hq hk hno od
          refine ⟨q, _, (g (Classical.choice ⟨{ cls := .none, data := .fields #[] }⟩)).1, trivial, fun od => ?_⟩
          obtain ⟨_, st1, e1, hd1⟩ := g od
          refine ⟨_, _, _, _, st1, ?_, h.mono e1⟩
          have sl1 := (sl.mono e1).set (i := i) hd1
          have : σ.set i (some (.ref q)) = σ := by
            refine List.ext_getElem? fun j => ?_
            by_cases ej : j = i
            · subst ej
              have hlt : j < σ.length := (List.getElem?_eq_some_iff.mp hv).1
              rw [List.getElem?_set_self hlt, hv]
            · rw [List.getElem?_set_ne (Ne.symm ej)]
          rw [this] at sl1
          exact sl1
        · cases hz
      · cases hz
    · cases hz
/-! ### xs[i] = v, xs a list of the frame -/
def sPutI (td ty tv : TE) : TS := fun D σ H => tv σ H fun v H1 => td σ H1 fun o H2 => ty σ H2 fun i H3 => L2.rSetL o i v H3 fun H4 => D.nx σ H4
theorem ps_iput {X : Cx} {o i value : Expr} {pos pos' : Pos} {td ty tv : TE} (ho : PE X o td) (hi : PE X i ty) (hv : PE X value tv) (hs : swapsWith value (some (.Subscript o i pos')) pos.line X.env = pure false) :
    PS X (.Assign [.Subscript o i pos'] value pos) (sPutI td ty tv) := by
  refine ⟨fun pins s σ H D I h => ?_⟩
  refine wpAny_Assign_Subscript (thn (hv.run pins s σ H _ I h) fun r s1 ⟨v, H1, I1, rv, q1⟩ => thn (ho.run pins s1 σ H1 _ I1 q1) fun u s2 ⟨x, H2, I2, rx, q2⟩ => thn (hi.run pins s2 σ H2 _ I2 q2) fun iv s3 ⟨y, H3, I3, ry, q3⟩ => ?_) hs
  exact thn (L2.set_list pins s3 σ H3 x y v u iv r _ I3 rx ry rv q3) fun _ s4 ⟨H4, I4, q4⟩ => ⟨σ, H4, I4, q4⟩
theorem HasPs.set {F : Hp} : ∀ {vs : List V} {xs : List P} (j : Nat) {v : V} {x : P}, HasPs F vs xs → HasP F v x → HasPs F (vs.set j v) (xs.set j x)
  | _, _, _, _, _, .nil, _ => .nil
  | _, _, 0, _, _, .cons _ t, h => .cons h t
  | _, _, j + 1, _, _, .cons r t, h => .cons r (HasPs.set j t h)
section
variable {T : Tabs} {G : Fns} {k : Nat} {c : Ct} {W : WX} {X : Cx} {xc : Nat → Value} {pos : Pos} {fa : Sl → Sto → R D}
theorem z_iput {a b v : Expr} {p : Pos} {fb fv : Sl → Sto → R D} (ha : PE X a (tE X.K xc W fa)) (hb : PE X b (tE X.K xc W fb)) (hv : PE X v (tE X.K xc W fv)) :
    PS X (.Assign [.Subscript a b p] v pos) (tS X.K xc W fun τ s => (fv τ s).st τ fun x s => (fa τ s).st τ fun d s => (fb τ s).st τ fun k s => (iputD d k x s).st τ fun _ s => .nx τ s) := by
  refine PS.imp (ps_iput ha hb hv swaps_sub) fun D σ H ⟨F, ρ, τ, s, st, sl, h⟩ => ⟨F, ρ, τ, s, st, sl, (h.st sl).imp fun x s1 F1 H1 ρ1 e1 st1 h1 y hy => ⟨F1, ρ1, τ, s1, st1, sl.mono e1, (h1.st (sl.mono e1)).imp fun d s2 F2 H2 ρ2 e2 st2 h2 z hz => ⟨F2, ρ2, τ, s2, st2, (sl.mono e1).mono e2, (h2.st ((sl.mono e1).mono e2)).imp fun kk s3 F3 H3 ρ3 e3 st3 h3 w hw => ?_⟩⟩⟩
  have sl3 := ((sl.mono e1).mono e2).mono e3
  have hy3 := HasD.mono e3 _ _ (HasD.mono e2 _ _ hy)
  have hz3 := HasD.mono e3 _ _ hz
  unfold iputD at h3
  split at h3
  · rename_i n i a
    split at h3
    · rename_i xs hx
      split at h3
      · rename_i j hj
        cases hy3 with | p hy3 =>
        cases hw with | p hw =>
        cases hw
        cases hz3 with | @tmp q _ hq =>
        obtain ⟨z, vs, h1, r1⟩ := st3.ot _ _ q hx hq
        have hm : q ∈ ρ3.t ++ ρ3.m := List.mem_append_left _ (List.mem_of_getElem? hq)
        refine ⟨q, vs, i, j, rfl, rfl, h1, by rw [r1.length]; exact hj, ?_⟩
        have e4 := Stt.xset (F := F3) (H := H3) (ρ := ρ3) (o := .lst (vs.set j y)) hm
        exact h3 _ _ _ σ e4 (st3.setT hq (st3.free hm h1 (fun _ _ z => nomatch z)) (fun _ z => by rw [h1] at z; cases z) (by rw [List.length_set]; exact z) (r1.set j hy3)) (sl3.mono e4)
      · exact h3.elim
    · exact h3.elim
  · exact h3.elim
end
end G7

namespace G7
open PySem PySem.Spec
open L2 (V Hp HO St WX TE TS R2 OpR CallR MtR MtM SlR IxR Inv RelV Vals upd upd_same upd_ne ne_of_none SqL SqT Cx Room EP VK PE PT PA PI PG PGs PO PS PSs Sp XK It TI TG TGs FnOk thn Ends)
variable [WW]

theorem no_star {a : Expr} (h : (match a with | .Starred .. => true | _ => false) = true) (ha : plainE a = true) : False := by
  cases a <;> first | (simp [plainE] at ha; done) | (simp at h; done)
theorem of_not {b : Bool} (h : (!b) = true) : b = false := by
  cases b
  · rfl
  · cases h
theorem swap2 {env : Env} {x y : Str} {px py pt p2 : Pos} {kt k2 : Nat} {a b : Expr} (hk : env.scope.kind = .function) (hx : env.scope.names.lookup x = some .local) (hy : env.scope.names.lookup y = some .local) (hl : py.line = px.line) (hxy : x ≠ y) (ha : plainE a = true) (hb : plainE b = true)
    (hf : (foldedForSure 8 a && foldedForSure 8 b) = false) (hc : (constantsAlone 8 a && constantsAlone 8 b) = false) :
    swappedStores [.Tuple [.Name x px, .Name y py] kt pt] (.Tuple [a, b] k2 p2) env = pure (some [x, y]) := by
  have kx : env.kindOf x = some .local := hx
  have ky : env.kindOf y = some .local := hy
  have kb : env.blockKind = .function := by unfold Env.blockKind; rw [hk]; rfl
  have hed : [x, y].eraseDups = [x, y] := by
    have : (y == x) = false := by simpa using (Ne.symm hxy)
    simp [List.eraseDups, List.eraseDupsBy, List.eraseDupsBy.loop, this]
  unfold swappedStores
  simp [kb, kx, ky, hl, hed, hf, hc, Expr.pos]
  intro h
  exfalso
  rcases h with h | h
  · exact no_star h ha
  · exact no_star h hb
theorem swap3 {env : Env} {x y z : Str} {px py pz pt p2 : Pos} {kt k2 : Nat} {a b d : Expr} (hk : env.scope.kind = .function) (hx : env.scope.names.lookup x = some .local) (hy : env.scope.names.lookup y = some .local) (hz : env.scope.names.lookup z = some .local) (hl : py.line = px.line) (hl2 : pz.line = px.line) (hxy : x ≠ y) (hxz : x ≠ z) (hyz : y ≠ z) (ha : plainE a = true) (hb : plainE b = true) (hd : plainE d = true)
    (hf : (foldedForSure 8 a && (foldedForSure 8 b && foldedForSure 8 d)) = false) (hc : (constantsAlone 8 a && (constantsAlone 8 b && constantsAlone 8 d)) = false) :
    swappedStores [.Tuple [.Name x px, .Name y py, .Name z pz] kt pt] (.Tuple [a, b, d] k2 p2) env = pure (some [x, y, z]) := by
  have kx : env.kindOf x = some .local := hx
  have ky : env.kindOf y = some .local := hy
  have kz : env.kindOf z = some .local := hz
  have kb : env.blockKind = .function := by unfold Env.blockKind; rw [hk]; rfl
  have hed : [x, y, z].eraseDups = [x, y, z] := by
    have h1 : (y == x) = false := by simpa using (Ne.symm hxy)
    have h2 : (z == x) = false := by simpa using (Ne.symm hxz)
    have h3 : (z == y) = false := by simpa using (Ne.symm hyz)
    simp [List.eraseDups, List.eraseDupsBy, List.eraseDupsBy.loop, h1, h2, h3]
  unfold swappedStores
  simp [kb, kx, ky, kz, hl, hl2, hed, hf, hc, Expr.pos]
  intro h
  exfalso
  rcases h with h | h | h
  · exact no_star h ha
  · exact no_star h hb
  · exact no_star h hd
section
variable {T : Tabs} {G : Fns} {Wh : Wh} {k : Nat} {c : Ct} {W : WX} {X : Cx} {xc : Nat → Value} {pos : Pos} {fa : Sl → Sto → R D} {sa sb : Sl → Sto → RS}
theorem parName1 {l : Nat} {e : Expr} {i : Nat} (h : parName c l e = true) (hn : ckName c i e = true) : ∃ x p, e = .Name x p ∧ c.sc.names.lookup x = some .local ∧ p.line = l ∧ c.N[i]? = some x := by
  unfold parName at h
  split at h
  · rename_i x p
    obtain ⟨h1, h2⟩ := ba h
    unfold ckName at hn
    obtain ⟨n1, n2⟩ := ba hn
    refine ⟨x, p, rfl, ?_, by simpa using h2, of_decide_eq_true n1⟩
    split at h1
    · assumption
    · cases h1
  · cases h
theorem nm_ne {N : List Str} (nd : N.Nodup) {i j : Nat} {x y : Str} (hi : N[i]? = some x) (hj : N[j]? = some y) (h : i ≠ j) : x ≠ y := fun e => by
  subst e
  obtain ⟨h1, e1⟩ := List.getElem?_eq_some_iff.mp hi
  obtain ⟨h2, e2⟩ := List.getElem?_eq_some_iff.mp hj
  exact h ((List.getElem_inj nd).mp (e1.trans e2.symm))
theorem z_par (hX : XS T G Wh k c W X) {is : List Nat} {es : Es} {ts vs : List Expr} {kt k2 : Nat} {p1 p2 : Pos} (h1 : ckNames c is ts = true) (h2 : ckEs T c es vs = true) (h3 : parOk c ts vs = true) (hnd : is.Nodup) (hs : PA X vs (tA X.K xc W (evs G es))) :
    PS X (.Assign [.Tuple ts kt p1] (.Tuple vs k2 p2) pos) (tS X.K xc W fun τ s => (evs G es τ s).st τ fun ds s => (match setAll τ is ds with
    | some τ1 => .nx τ1 s
    | none => .bad)) := by
  have hpl := ckEs_plain h2
  have nd : X.N.Nodup := by rw [hX.hN]; exact hX.nd
  have hk : X.env.scope.kind = .function := by rw [hX.sc]; exact hX.kind
  unfold parOk at h3
  split at h3
  · rename_i a b x y
    cases is with
    | nil => simp [ckNames] at h1
    | cons i is =>
      cases is with
      | nil => simp [ckNames] at h1
      | cons j is =>
        cases is with
        | cons _ _ => simp [ckNames] at h1
        | nil =>
          simp only [ckNames] at h1
          obtain ⟨n1, n2⟩ := ba h1
          obtain ⟨n2, _⟩ := ba n2
          obtain ⟨g1, g2⟩ := ba h3
          obtain ⟨g2, g4⟩ := ba g2
          obtain ⟨g2, g3⟩ := ba g2
          obtain ⟨xa, pa, ea, la, _, ia⟩ := parName1 g1 n1
          obtain ⟨xb, pb, eb, lb, ll, ib⟩ := parName1 g2 n2
          subst ea; subst eb
          have hij : i ≠ j := by simp at hnd; exact hnd
          rw [List.all_cons, List.all_cons] at hpl
          obtain ⟨pl1, pl2⟩ := ba hpl
          obtain ⟨pl2, _⟩ := ba pl2
          refine PS.imp (L2.ps_par (i := i) (j := j) hX.calm nd (by rw [hX.hN]; exact ia) (by rw [hX.hN]; exact ib) hij (by rw [hX.sc]; exact la) (by rw [hX.sc]; exact lb) hs
            (swap2 hk (by rw [hX.sc]; exact la) (by rw [hX.sc]; exact lb) ll (nm_ne hX.nd ia ib hij) pl1 pl2 (of_not g4) (of_not g3))) fun D σ H ⟨F, ρ, τ, s, st, sl, h⟩ => ?_
          refine ⟨F, ρ, τ, s, st, sl, (h.st sl).imp fun ds s1 F1 H1 ρ1 e1 st1 h4 ws hws => ?_⟩
          cases hp : setAll τ [i, j] ds with
          | none => rw [hp] at h4; exact h4.elim
          | some τ1 =>
            rw [hp] at h4
            have hl := setAll_len hp
            cases hws with
            | nil => cases hl
            | cons hv hws =>
              cases hws with
              | nil => cases hl
              | cons hw hws =>
                cases hws with
                | cons _ _ => simp at hl
                | nil =>
                  have hp := Option.some.inj hp
                  subst hp
                  exact ⟨_, _, rfl, h4 F1 H1 ρ1 _ (Ext.refl _ _ _) st1 (((sl.mono e1).set hv).set hw)⟩
  · rename_i a b d x y z
    cases is with
    | nil => simp [ckNames] at h1
    | cons i is =>
      cases is with
      | nil => simp [ckNames] at h1
      | cons j is =>
        cases is with
        | nil => simp [ckNames] at h1
        | cons l is =>
        cases is with
        | cons _ _ => simp [ckNames] at h1
        | nil =>
          simp only [ckNames] at h1
          obtain ⟨n1, n2⟩ := ba h1
          obtain ⟨n2, n3⟩ := ba n2
          obtain ⟨n3, _⟩ := ba n3
          obtain ⟨g1, g2⟩ := ba h3
          obtain ⟨g2, g3⟩ := ba g2
          obtain ⟨g3, g5⟩ := ba g3
          obtain ⟨g3, g4⟩ := ba g3
          obtain ⟨xa, pa, ea, la, _, ia⟩ := parName1 g1 n1
          obtain ⟨xb, pb, eb, lb, ll, ib⟩ := parName1 g2 n2
          obtain ⟨xd, pd, ed, ld, ll2, id⟩ := parName1 g3 n3
          subst ea; subst eb; subst ed
          simp at hnd
          have hij : i ≠ j := hnd.1.1
          have hil : i ≠ l := hnd.1.2
          have hjl : j ≠ l := hnd.2
          rw [List.all_cons, List.all_cons, List.all_cons] at hpl
          obtain ⟨pl1, pl2⟩ := ba hpl
          obtain ⟨pl2, pl3⟩ := ba pl2
          obtain ⟨pl3, _⟩ := ba pl3
          refine PS.imp (L2.ps_par3 (i := i) (j := j) (l := l) hX.calm nd (by rw [hX.hN]; exact ia) (by rw [hX.hN]; exact ib) (by rw [hX.hN]; exact id) hij hil hjl (by rw [hX.sc]; exact la) (by rw [hX.sc]; exact lb) (by rw [hX.sc]; exact ld) hs
            (swap3 hk (by rw [hX.sc]; exact la) (by rw [hX.sc]; exact lb) (by rw [hX.sc]; exact ld) ll ll2 (nm_ne hX.nd ia ib hij) (nm_ne hX.nd ia id hil) (nm_ne hX.nd ib id hjl) pl1 pl2 pl3 (of_not g5) (of_not g4))) fun D σ H ⟨F, ρ, τ, s, st, sl, h⟩ => ?_
          refine ⟨F, ρ, τ, s, st, sl, (h.st sl).imp fun ds s1 F1 H1 ρ1 e1 st1 h4 ws hws => ?_⟩
          cases hp : setAll τ [i, j, l] ds with
          | none => rw [hp] at h4; exact h4.elim
          | some τ1 =>
            rw [hp] at h4
            have hl := setAll_len hp
            cases hws with
            | nil => cases hl
            | cons hv hws =>
              cases hws with
              | nil => cases hl
              | cons hw hws =>
                cases hws with
                | nil => cases hl
                | cons hq hws =>
                cases hws with
                | cons _ _ => simp at hl
                | nil =>
                  have hp := Option.some.inj hp
                  subst hp
                  exact ⟨_, _, _, rfl, h4 F1 H1 ρ1 _ (Ext.refl _ _ _) st1 ((((sl.mono e1).set hv).set hw).set hq)⟩
  · cases h3
/-- name = [..] -/
theorem z_lc (hX : XS T G Wh k c W X) {i : Nat} {y : Str} {py p : Pos} {l : L} {elt : Expr} {gs : List Comprehension} {scope : Scope} (hy : c.N[i]? = some y) (ho : lcOk c y py scope p = true) (hsto : storable c y = true) (hl : ckL T c l (.ListComp elt gs scope p) = true) :
    PS X (.Assign [.Name y py] (.ListComp elt gs scope p) pos) (L2.tAsg (tL X.K (xcOf T X.K) W (evL G l)) (L2.gName i)) := by
  unfold lcOk at ho
  split at ho
  · rename_i hloc
    obtain ⟨o1, o2⟩ := ba ho
    have o2 : (scope.names.any fun (n, k) => n == y && (k == .local || k == .cell)) = false := by simpa using o2
    have hcomp : ∃ tg it cs elt2 vs, l = .comp tg it cs elt2 vs := by
      cases l <;> first | exact ⟨_, _, _, _, _, rfl⟩ | (simp [ckL] at hl)
    obtain ⟨tg, it, cs, elt2, vs, rfl⟩ := hcomp
    unfold ckL at hl
    split at hl
    all_goals first | (cases hl; done) | skip
    rename_i ex tx ix ifs sc2 pos2 hz
    cases hz
    obtain ⟨h1, h⟩ := ba hl
    obtain ⟨h2, h⟩ := ba h
    obtain ⟨h3, h⟩ := ba h
    obtain ⟨h4, h⟩ := ba h
    obtain ⟨h5, h⟩ := ba h
    obtain ⟨h6, h7⟩ := ba h
    have hs : ∀ i ∈ tg.slots, i ∈ vs := fun i hi => by
      have := List.all_eq_true.mp h7 i hi
      obtain ⟨j, hj, e⟩ := List.any_eq_true.mp this
      rw [← of_decide_eq_true e]; exact hj
    cases cs with
    | none =>
      cases ifs with
      | nil =>
        have r := s_compS (pos := p) (spos := pos) hX.toXE hX.kind hy hloc o1 o2 (snI it hX.toXE h1) (fun s H C cl fp => s_tg (hX.toXE.blk scope s H C cl fp) h3) (fun s H C cl fp => L2.pts_nil) (fun s H C cl fp => snE elt2 (hX.toXE.blk scope s H C cl fp) h5) (step_none (xc := xcOf T X.K) (W := fun _ _ _ _ => False)) h6 hs h2
        have e : evL G (.comp tg it .none elt2 vs) = _ := funext fun τ => funext fun s => by rw [evL]
        rw [e]; exact r
      | cons _ _ => simp [ckIfs] at h4
    | some q =>
      cases ifs with
      | nil => simp [ckIfs] at h4
      | cons y ys =>
        cases ys with
        | cons _ _ => simp [ckIfs] at h4
        | nil =>
          rw [ckIfs] at h4
          obtain ⟨g1, g2⟩ := ba h4
          have r := s_compS (pos := p) (spos := pos) hX.toXE hX.kind hy hloc o1 o2 (snI it hX.toXE h1) (fun s H C cl fp => s_tg (hX.toXE.blk scope s H C cl fp) h3) (fun s H C cl fp => L2.pts_one (snT q (hX.toXE.blk scope s H C cl fp) g2 g1)) (fun s H C cl fp => snE elt2 (hX.toXE.blk scope s H C cl fp) h5) (step_some (xc := xcOf T X.K) (W := fun _ _ _ _ => False) (W' := fun _ _ _ _ => False)) h6 hs h2
          have e : evL G (.comp tg it (.some q) elt2 vs) = _ := funext fun τ => funext fun s => by rw [evL]
          rw [e]; exact r
  · rename_i hcell
    obtain ⟨l1, l2⟩ := hX.toXE.sto hsto
    refine L2.ps_set (i := i) (by rw [hX.hN]; exact hX.nd) (by rw [hX.hN]; exact hy) l1 (snL l hX.toXE hl) ?_ l2
    have kb : X.env.blockKind = .function := by unfold Env.blockKind; rw [hX.sc, hX.kind]; rfl
    have ky : X.env.kindOf y = some .cell := by show X.env.scope.names.lookup y = _; rw [hX.sc]; exact hcell
    unfold swapsWith
    simp [kb, ky]
    rfl
  · cases ho
theorem ck_comp {e : E} {elt : Expr} {gs : List Comprehension} {scope : Scope} {p : Pos} (h : ckE T c e (.ListComp elt gs scope p) = true) : ∃ l, (e = .fz l ∨ e = .own l) ∧ ckL T c l (.ListComp elt gs scope p) = true := by
  cases e <;> first | (simp [ckE, notComp] at h; done) | skip
  · rename_i l; exact ⟨l, .inl rfl, by rw [ckE] at h; exact h⟩
  · rename_i l; exact ⟨l, .inr rfl, by rw [ckE] at h; exact h⟩
theorem z_assign (hX : XS T G Wh k c W X) {tg : Tg} {e : E} {t v : Expr} (h1 : ckTg c tg t = true) (h2 : ckE T c e v = true) (h3 : asgOk c t v = true) : PS X (.Assign [t] v pos) (tS X.K (xcOf T X.K) W fun τ s => (ev G e τ s).st τ fun d s => (match tg.put d τ with
    | some τ1 => .nx τ1 s
    | none => .bad)) := by
  cases hn : notComp v with
  | true => exact z_asg hX.toXE h1 (snE e hX.toXE h2) hn h3
  | false =>
    unfold notComp at hn
    split at hn
    · rename_i elt gs scope p
      obtain ⟨l, he, hl⟩ := ck_comp h2
      cases t with
      | Name y py =>
        have h3 : lcOk c y py scope p = true := h3
        cases tg with
        | names is => simp [ckTg] at h1
        | nest i is => simp [ckTg] at h1
        | name i =>
          have h1 : (decide (c.N[i]? = some y) && storable c y) = true := h1
          obtain ⟨n1, n2⟩ := ba h1
          refine PS.imp (z_lc hX (of_decide_eq_true n1) h3 n2 hl) fun D σ H h => ?_
          have h := t_asg (K := X.K) (tg := .name i) (fa := ev G e) (xc := xcOf T X.K) (W := W) h
          rcases he with he | he
          · subst he
            have e : ev G (.fz l) = _ := funext fun τ => funext fun s => by rw [ev]
            rw [e] at h
            have h := t_fz h
            obtain ⟨F, ρ, τ, s, st, sl, h⟩ := h
            exact ⟨F, ρ, τ, s, st, sl, h.imp fun xs s1 F1 H1 ρ1 e1 st1 h1 p vs hp hz hr => gname_of (h1 p vs hp hz hr)⟩
          · subst he
            have e : ev G (.own l) = _ := funext fun τ => funext fun s => by rw [ev]
            rw [e] at h
            have h := t_own h
            obtain ⟨F, ρ, τ, s, st, sl, h⟩ := h
            exact ⟨F, ρ, τ, s, st, sl, h.imp fun xs s1 F1 H1 ρ1 e1 st1 h1 p vs hp hz hr => gname_of (h1 p vs hp hz hr)⟩
      | _ => simp [asgOk, notComp] at h3
    · cases e <;> first | (simp [ckE, notComp] at h2; done) | (rename_i l; cases l <;> simp [ckE, ckL] at h2)
    · cases e <;> first | (simp [ckE, notComp] at h2; done) | (rename_i l; cases l <;> simp [ckE, ckL] at h2)
    · cases hn
end
end G7

namespace G7
open PySem PySem.Spec
open L2 (V Hp HO St WX TE TS R2 OpR CallR MtR MtM SlR IxR Inv RelV Vals upd upd_same upd_ne ne_of_none SqL SqT Cx Room EP VK PE PT PA PI PG PGs PO PS PSs Sp XK It TI TG TGs FnOk thn Ends)
variable [WW]

section
variable {T : Tabs} {G : Fns} {Wh : Wh} {k : Nat} {c : Ct} {W : WX} {X : Cx} {xc : Nat → Value} {pos : Pos} {fa : Sl → Sto → R D} {sa sb : Sl → Sto → RS}
def whichR (T : Tabs) (Wh : Nat → Option Int) (K : PySem.W.Frag) (i : Nat) (a : Addr) (cls : Value) (d : Option Addr) : TE := fun σ H Q =>
  ∃ j kk, Wh j = some kk ∧ cls = xcOf T K j ∧ d = none ∧ σ[i]? = some (some (.ref a)) ∧ ∀ (H' : Hp) (q : Addr), Sub H H' → H' q = none → Q (.ref q) (upd H' q (.tup [.str "refused", .int kk]))
theorem which_pe (hX : XS T G Wh k c W X) (hw : T.which = true) {i : Nat} {n f : Str} {p p2 : Pos} (hf : f = "_law_which") (hgf : isGl c.sc f = true) (hn : c.N[i]? = some n) (hl : isLoc c n = true) (hok : okn n = true) {a : Addr} {oe : Obj} {cls : Value} {d : Option Addr} {pn : List (Addr × Obj)}
    (hz : L2N.Zn cls d oe) (hd : ∃ vs, oe.data = .fields vs) : PE (X.suite a ((a, oe) :: pn)) (.Call (.Name f p) [.Name n p2] [] pos) (whichR T Wh X.K i a cls d) := by
  obtain ⟨fA, fd, ps, hm, hk, hb, hps, hrun⟩ := hX.wch hw
  have hvis : vis c.sc n = true := by
    unfold isLoc at hl
    unfold G7.vis
    split at hl
    · rename_i e; rw [e]
    · cases hl
  refine ⟨fun pins s σ H Q I h => ?_⟩
  obtain ⟨j, kk, hj, hcls, hdn, hs, hq⟩ := h
  subst hf; subst hcls; subst hdn
  have hv : L2.Vis (X.suite a ((a, oe) :: pn)).env.scope n := hX.toXE.vis hvis
  have ha : PA (X.suite a ((a, oe) :: pn)) [.Name n p2] _ := L2.pa_cons (L2.pe_var (i := i) (by show X.N[i]? = _; rw [hX.hN]; exact hn) hv (okn1 hok).1 (okn1 hok).2.1) L2.pa_nil
  refine wpAny_Call_Name_kw (L2.ld_glob I (hX.toXE.gl hgf) hm ?_ (by decide))
  refine PySem.W.callWith_K (h₀ := X.base) I.ok.mod.kin hk (thn (ha.run pos pins s σ H (fun vs H1 => vs = [V.ref a] ∧ H = H1) I ⟨_, hs, rfl, rfl⟩) fun us s1 hh => ?_) (by rfl) (by rfl)
  obtain ⟨vs, H1, I1, r1, ev, eH⟩ := hh
  subst ev; subst eH
  refine ⟨I1.kIn, ?_⟩
  cases r1 with
  | cons ru rn =>
    cases rn
    obtain rfl : _ = Value.ref a := ru
    have hr : L2H.RoomH k (X.suite a ((a, oe) :: pn)).A := ⟨hX.room.dp, hX.room.un⟩
    have hot : L2H.Hot1 (X.suite a ((a, oe) :: pn)).A (a, oe) := ⟨rfl, by
      obtain ⟨vs, e⟩ := hd
      exact ⟨vs, e, hz.2.2 vs e⟩⟩
    have P1 := I1.pin (a, oe) (List.mem_append_left _ List.mem_cons_self)
    have hpin : L2H.PinOk (X.suite a ((a, oe) :: pn)).stack H s1 (a, oe) := ⟨P1.1, P1.2.1, fun hm => (List.mem_cons.mp (I1.stkSub a hm)).elim P1.2.2.1 P1.2.2.2.1, P1.2.2.2.2⟩
    have b := hb s1 [.ref a] I1.kIn (by rw [List.append_nil]; exact hps.symm)
    rw [List.append_nil] at b
    refine wpAny_call (codeAny_mono (hrun j kk hj (X.suite a ((a, oe) :: pn)).A (X.suite a ((a, oe) :: pn)).stack s1 H (a, oe) ⟨[.ref a], []⟩ Q (fun _ _ _ => False) hr hot hpin hz I1.env0 b hq) fun r s' hq => ?_)
    cases r with
    | error e =>
      obtain ⟨_, _, _, _, _, _, _, _, _, _, _, _, z⟩ := hq
      exact z.elim
    | ok fl =>
      cases fl with
      | ret u => exact I1.after hq
      | next => exact False.elim hq
      | brk => exact False.elim hq
      | cont => exact False.elim hq
theorem z_tryW (hX : XS T G Wh k c W X) (hfa : T.fall = true) (hw : T.which = true) {x f n : Str} {i : Nat} {body : List Stmt} {p1 p2 p3 p4 p5 p6 : Pos} (hx : x = "FallError") (hgx : isGl c.sc x = true) (hf : f = "_law_which") (hgf : isGl c.sc f = true) (hn : c.N[i]? = some n) (hl : isLoc c n = true) (hok : okn n = true)
    (hb : ∀ (W' : WX) (X' : Cx), X'.K = X.K → XS T G Wh k c W' X' → PSs X' body (tS X'.K (xcOf T X'.K) W' sb)) :
    PS X (.Try body [.ExceptHandler (some (.Name x p1)) (some n) [.Return (some (.Call (.Name f p2) [.Name n p3] [] p4)) p5] p6] [] [] pos) (tS X.K (xcOf T X.K) W fun τ s => (match sb τ s with
    | .ex c τ s => (match Wh c with
      | some k => if i < τ.length then .rt (.p (.tup [.str "refused", .int k])) s else .bad
      | none => .bad)
    | .nx σ s => .nx σ s
    | .rt d s => .rt d s
    | .bk σ s => .bk σ s
    | .bad => .bad)) := by
  obtain ⟨q, hq, hex⟩ := hX.fal hfa
  have hloc : X.env.kindOf n = some .local := by
    unfold isLoc at hl
    show X.env.scope.names.lookup n = _
    rw [hX.sc]
    split at hl
    · rename_i e; exact e
    · cases hl
  subst hx
  refine PS.imp (L2N.ps_try_as (i := i) (ts := fun a cls d => L2.tRet (whichR T Wh X.K i a cls d)) (tb := fun W' => tS X.K (xcOf T X.K) W' sb) hX.stk hX.frm (by rw [hX.hN]; exact hX.nd) (by rw [hX.hN]; exact hn) hloc ⟨hX.toXE.gl hgx, by decide, .inl hq⟩ hX.tk
    (fun W' pn xe tk hp => hb W' (X.tr pn xe) rfl (hX.tr tk hp)) (fun a oe cls d pn hz hd => L2.pss_one (L2.ps_ret (which_pe hX hw hf hgf hn hl hok hz hd)))) fun D σ H ⟨F, ρ, τ, s, st, sl, h⟩ => ?_
  refine ⟨F, ρ, τ, s, st, sl, ?_⟩
  simp only at h
  cases e : sb τ s with
  | nx τ1 s1 => rw [e] at h; exact h
  | bk τ1 s1 => rw [e] at h; exact h
  | rt d s1 => rw [e] at h; exact h
  | bad => rw [e] at h; exact h
  | ex j τ1 s1 =>
    rw [e] at h
    simp only at h
    cases hk : Wh j with
    | none => rw [hk] at h; exact h.elim
    | some kk =>
      rw [hk] at h
      simp only at h
      have hil : i < τ1.length := Classical.byContradiction fun hn => by rw [if_neg hn] at h; exact h.elim
      rw [if_pos hil] at h
      intro F1 H1 ρ1 σ1 e1 st1 sl1
      refine ⟨true, hex j kk hk, fun _ a ha => ?_, fun z => nomatch z⟩
      refine ⟨j, kk, hk, rfl, rfl, ?_, fun H2 q2 hsub hq2 => ?_⟩
      · have hlen : i < σ1.length := by
          rw [sl1.len]; exact hil
        rw [List.getElem?_set_self hlen]
      · have st2 := st1.more hsub
        have e2 : Ext F1 H1 ρ1 F1 H2 ρ1 := Ext.more hsub
        have st3 := st2.new (o := .tup [.str "refused", .int kk]) hq2
        have e3 := st2.xnew (o := .tup [.str "refused", .int kk]) hq2
        exact h _ _ _ (e1.trans (e2.trans e3)) st3 _ (.p (.tup upd_same (by show 2 ≤ sizeLine; decide) (.cons (.str _) (.cons (.int _) .nil))))
theorem z_tryR (hX : XS T G Wh k c W X) (hfa : T.fall = true) {x y : Str} {kk : Nat} {body : List Stmt} {p1 p2 p3 p4 : Pos} (hx : x = "FallError") (hgx : isGl c.sc x = true)
    (hb : ∀ (W' : WX) (X' : Cx), X'.K = X.K → XS T G Wh k c W' X' → PSs X' body (tS X'.K (xcOf T X'.K) W' sb)) :
    PS X (.Try body [.ExceptHandler (some (.Name x p1)) none [.Return (some (.Constant (.str y) kk p2)) p3] p4] [] [] pos) (tS X.K (xcOf T X.K) W fun τ s => (match sb τ s with
    | .ex c _ s => (match Wh c with
      | some _ => .rt (.p (.str y)) s
      | none => .bad)
    | .nx σ s => .nx σ s
    | .rt d s => .rt d s
    | .bk σ s => .bk σ s
    | .bad => .bad)) := by
  obtain ⟨q, hq, hex⟩ := hX.fal hfa
  subst hx
  refine PS.imp (L2N.ps_try_many (Wout := W) (tb := fun W' => tS X.K (xcOf T X.K) W' sb) hX.stk hX.frm hX.tk
    (fun W' pn xe tk hp => hb W' (X.tr pn xe) rfl (hX.tr tk hp)) (.cons ⟨hX.toXE.gl hgx, by decide, .inl hq⟩ (fun a oe cls d pn hz hd => L2.pss_one (L2.ps_ret L2.pe_str)) .nil)) fun D σ H ⟨F, ρ, τ, s, st, sl, h⟩ => ?_
  refine ⟨F, ρ, τ, s, st, sl, ?_⟩
  simp only at h
  cases e : sb τ s with
  | nx τ1 s1 => rw [e] at h; exact h
  | bk τ1 s1 => rw [e] at h; exact h
  | rt d s1 => rw [e] at h; exact h
  | bad => rw [e] at h; exact h
  | ex j τ1 s1 =>
    rw [e] at h
    simp only at h
    cases hk : Wh j with
    | none => rw [hk] at h; exact h.elim
    | some kk =>
      rw [hk] at h
      intro F1 H1 ρ1 σ1 e1 st1 sl1
      refine ⟨true, hex j kk hk, fun _ a ha => ?_, fun z => nomatch z⟩
      exact h F1 H1 ρ1 e1 st1 _ (.p (.str _))
mutual
theorem snS : ∀ (st : S) {c : Ct} {W : WX} {X : Cx} {x : Stmt}, XS T G Wh k c W X → ckS T c st x = true → PS X x (tS X.K (xcOf T X.K) W (ex G Wh st))
  | .nev, c, W, X, x, hX, h => PS.eq z_nev fun τ s => by rw [ex]
  | .fput a y e, c, W, X, x, hX, h => by
    unfold ckS at h; split at h
    all_goals first | (cases h; done) | (rename_i hz; cases hz; done) | skip
    rename_i hz; cases hz
    obtain ⟨h1, h2⟩ := ba h
    obtain ⟨h2, h3⟩ := ba h2
    obtain ⟨h3, h4⟩ := ba h3
    have h1 := of_decide_eq_true h1
    subst h1
    exact PS.eq (z_fput hX.toXE h2 (snE a hX.toXE h3) (snE e hX.toXE h4)) fun τ s => by rw [ex]; try rfl
  | .gfz i st, c, W, X, x, hX, h => by
    have h : ckS T c st x = true := by unfold ckS at h; exact h
    exact PS.eq (z_gfz (i := i) (snS st hX h)) fun τ s => by rw [ex]; try rfl
  | .iput a b e, c, W, X, x, hX, h => by
    unfold ckS at h; split at h
    all_goals first | (cases h; done) | (rename_i hz; cases hz; done) | skip
    rename_i hz; cases hz
    obtain ⟨h1, h2⟩ := ba h
    obtain ⟨h2, h3⟩ := ba h2
    exact PS.eq (z_iput (snE a hX.toXE h1) (snE b hX.toXE h2) (snE e hX.toXE h3)) fun τ s => by rw [ex]; try rfl
  | .sput a b e j, c, W, X, x, hX, h => by exfalso; unfold ckS at h; cases h
  | .dput a b e, c, W, X, x, hX, h => by
    unfold ckS at h; split at h
    all_goals first | (cases h; done) | (rename_i hz; cases hz; done) | skip
    rename_i hz; cases hz
    obtain ⟨h1, h2⟩ := ba h
    obtain ⟨h2, h3⟩ := ba h2
    exact PS.eq (z_dput hX.toXE (snE a hX.toXE h1) (snE b hX.toXE h2) (snE e hX.toXE h3)) fun τ s => by rw [ex]; try rfl
  | .asg tg e, c, W, X, x, hX, h => by
    unfold ckS at h; split at h
    all_goals first | (cases h; done) | (rename_i hz; cases hz; done) | skip
    rename_i hz; cases hz
    obtain ⟨h1, h2⟩ := ba h
    obtain ⟨h2, h3⟩ := ba h2
    exact PS.eq (z_assign hX h1 h2 h3) fun τ s => by rw [ex]; try rfl
  | .par is es, c, W, X, x, hX, h => by
    unfold ckS at h; split at h
    all_goals first | (cases h; done) | (rename_i hz; cases hz; done) | skip
    rename_i hz; cases hz
    obtain ⟨h1, h2⟩ := ba h
    obtain ⟨h2, h3⟩ := ba h2
    obtain ⟨h3, h4⟩ := ba h3
    exact PS.eq (z_par hX h1 h2 h3 (of_decide_eq_true h4) (snEs es hX.toXE h2)) fun τ s => by rw [ex]; try rfl
  | .exp e, c, W, X, x, hX, h => by
    unfold ckS at h; split at h
    all_goals first | (cases h; done) | (rename_i hz; cases hz; done) | skip
    rename_i hz; cases hz
    obtain ⟨h1, h2⟩ := ba h
    exact PS.eq (z_exp (snE e hX.toXE h1) h2) fun τ s => by rw [ex]; try rfl
  | .ret e, c, W, X, x, hX, h => by
    unfold ckS at h; split at h
    all_goals first | (cases h; done) | (rename_i hz; cases hz; done) | skip
    rename_i hz; cases hz
    exact PS.eq (z_ret (snE e hX.toXE h)) fun τ s => by rw [ex]; try rfl
  | .ife q a b, c, W, X, x, hX, h => by
    unfold ckS at h; split at h
    all_goals first | (cases h; done) | (rename_i hz; cases hz; done) | skip
    rename_i hz; cases hz
    obtain ⟨h1, h2⟩ := ba h
    obtain ⟨h2, h3⟩ := ba h2
    obtain ⟨h3, h4⟩ := ba h3
    exact PS.eq (z_if (snT q hX.toXE h2 h1) (snSs a hX h3) (snSs b hX h4)) fun τ s => by rw [ex]; try rfl
  | .loop tg it b, c, W, X, x, hX, h => by
    unfold ckS at h; split at h
    all_goals first | (cases h; done) | (rename_i hz; cases hz; done) | skip
    rename_i hz; cases hz
    obtain ⟨h1, h2⟩ := ba h
    obtain ⟨h2, h3⟩ := ba h2
    obtain ⟨h3, h4⟩ := ba h3
    exact PS.eq (z_loop hX (snI it hX.toXE h1) h2 h3 (snSs b hX h4)) fun τ s => by rw [ex]; try rfl
  | .whl n q b, c, W, X, x, hX, h => by
    unfold ckS at h; split at h
    all_goals first | (cases h; done) | (rename_i hz; cases hz; done) | skip
    rename_i hz; cases hz
    obtain ⟨h1, h2⟩ := ba h
    obtain ⟨h2, h3⟩ := ba h2
    exact PS.eq (z_while hX (snT q hX.toXE h2 h1) (snSs b hX h3)) fun τ s => by rw [ex]; try rfl
  | .brk, c, W, X, x, hX, h => by
    unfold ckS at h; split at h
    all_goals first | (cases h; done) | (rename_i hz; cases hz; done) | skip
    exact PS.eq z_brk fun τ s => by rw [ex]
  | .pass, c, W, X, x, hX, h => by
    unfold ckS at h; split at h
    all_goals first | (cases h; done) | (rename_i hz; cases hz; done) | skip
    exact PS.eq z_pass fun τ s => by rw [ex]
  | .rais j, c, W, X, x, hX, h => by
    unfold ckS at h; split at h
    all_goals first | (cases h; done) | (rename_i hz; cases hz; done) | skip
    rename_i hz; cases hz
    obtain ⟨h1, h2⟩ := ba h
    obtain ⟨h2, h3⟩ := ba h2
    exact PS.eq (z_raise hX (of_decide_eq_true h1) h2 h3) fun τ s => by rw [ex]
  | .tryW b i, c, W, X, x, hX, h => by
    unfold ckS at h; split at h
    all_goals first | (cases h; done) | (rename_i hz; cases hz; done) | skip
    rename_i hz; cases hz
    obtain ⟨h1, h⟩ := ba h
    obtain ⟨h2, h⟩ := ba h
    obtain ⟨h3, h⟩ := ba h
    obtain ⟨h4, h⟩ := ba h
    obtain ⟨h5, h⟩ := ba h
    obtain ⟨h6, h⟩ := ba h
    obtain ⟨h7, h⟩ := ba h
    obtain ⟨h8, h⟩ := ba h
    obtain ⟨h9, h⟩ := ba h
    obtain ⟨ha, hb⟩ := ba h
    have h7 := of_decide_eq_true h7
    subst h7
    exact PS.eq (z_tryW hX h1 h2 (of_decide_eq_true h3) h4 (of_decide_eq_true h5) h6 (of_decide_eq_true h8) h9 ha (fun W' X' _ hX' => snSs b hX' hb)) fun τ s => by rw [ex]; try rfl
  | .tryR b y, c, W, X, x, hX, h => by
    unfold ckS at h; split at h
    all_goals first | (cases h; done) | (rename_i hz; cases hz; done) | skip
    rename_i hz; cases hz
    obtain ⟨h1, h⟩ := ba h
    obtain ⟨h2, h⟩ := ba h
    obtain ⟨h3, h⟩ := ba h
    obtain ⟨h4, hb⟩ := ba h
    have h4 := of_decide_eq_true h4
    subst h4
    exact PS.eq (z_tryR hX h1 (of_decide_eq_true h2) h3 (fun W' X' _ hX' => snSs b hX' hb)) fun τ s => by rw [ex]; try rfl
theorem snSs : ∀ (ss : Ss) {c : Ct} {W : WX} {X : Cx} {xs : List Stmt}, XS T G Wh k c W X → ckSs T c ss xs = true → PSs X xs (tS X.K (xcOf T X.K) W (exs G Wh ss))
  | .nil, c, W, X, [], hX, h => PSs.eq z_nil fun τ s => by rw [exs]
  | .nil, c, W, X, _ :: _, hX, h => by simp [ckSs] at h
  | .cons _ _, c, W, X, [], hX, h => by simp [ckSs] at h
  | .cons st ss, c, W, X, x :: xs, hX, h => by
    rw [ckSs] at h
    obtain ⟨h1, h2⟩ := ba h
    exact PSs.eq (z_seq (snS st hX h1) (snSs ss hX h2)) fun τ s => by rw [exs]
end
end
end G7

namespace G7
open PySem PySem.Spec
open L2 (V Hp HO St WX TE TS R2 OpR CallR MtR MtM SlR IxR Inv RelV Vals upd upd_same upd_ne ne_of_none SqL SqT Cx Room EP VK PE PT PA PI PG PGs PO PS PSs Sp XK It TI TG TGs FnOk thn Ends)
variable [WW]

/-! ### arguments -/
theorem lookup_zip {α : Type} : ∀ {ps : List Str} {us : List α} {i : Nat} {x : Str} {u : α}, ps.Nodup → ps[i]? = some x → us[i]? = some u → (ps.zip us).lookup x = some u
  | [], _, _, _, _, _, h, _ => by simp at h
  | _ :: _, [], _, _, _, _, _, h => by simp at h
  | p :: ps, w :: us, 0, x, u, _, h1, h2 => by
    simp at h1 h2; subst h1; subst h2
    simp [List.lookup]
  | p :: ps, w :: us, i + 1, x, u, nd, h1, h2 => by
    have ne : x ≠ p := fun e => by
      subst e
      exact (List.nodup_cons.mp nd).1 (List.mem_of_getElem? (by simpa using h1))
    have ne' : (x == p) = false := by simpa using ne
    simp only [List.zip_cons_cons, List.lookup_cons, ne']
    exact lookup_zip (i := i) (List.nodup_cons.mp nd).2 (by simpa using h1) (by simpa using h2)
theorem filt_zip {α : Type} {ps : List Str} {us : List α} (nd : ps.Nodup) (hl : us.length = ps.length) : ∀ (qs : List Str) (ws : List α), qs.length = ws.length → (∀ (i : Nat) (x : Str), qs[i]? = some x → ∃ u, ws[i]? = some u ∧ (ps.zip us).lookup x = some u) → qs.filterMap (fun n => ((ps.zip us).lookup n).map (n, ·)) = qs.zip ws
  | [], ws, _, _ => by simp
  | q :: qs, [], h, _ => by simp at h
  | q :: qs, w :: ws, h, hx => by
    obtain ⟨u, h1, h2⟩ := hx 0 q rfl
    simp at h1; subst h1
    rw [List.filterMap_cons, h2]
    simp only [Option.map_some, List.zip_cons_cons]
    rw [filt_zip nd hl qs ws (by simpa using h) fun i x e => hx (i + 1) x (by simpa using e)]
theorem bind_plain {fd : FuncData} {ps : List Str} (h1 : fd.params.posonlyargs = []) (h2 : fd.params.args.map (·.arg) = ps) (h3 : fd.params.vararg = none) (h4 : fd.params.kwonlyargs = []) (h5 : fd.params.kwarg = none) (hd : fd.defaults = .none) (nd : ps.Nodup) (us : List Value) (hl : us.length = ps.length) :
    bindArgs fd ⟨us, []⟩ = pure (ps.zip us) := by
  have hf : ps.filterMap (fun n => ((ps.zip us).lookup n).map (n, ·)) = ps.zip us := filt_zip nd hl ps us hl.symm fun i x e => by
    have hi : i < us.length := by rw [hl]; exact (List.getElem?_eq_some_iff.mp e).1
    exact ⟨us[i], List.getElem?_eq_getElem hi, lookup_zip nd e (List.getElem?_eq_getElem hi)⟩
  have hm : ps.filter (fun n => ((ps.zip us).lookup n).isNone) = [] := by
    rw [List.filter_eq_nil_iff]
    intro x hx
    obtain ⟨i, hi, e⟩ := List.mem_iff_getElem.mp hx
    have := lookup_zip (us := us) (u := us[i]'(by rw [hl]; exact hi)) nd (List.getElem?_eq_some_iff.mpr ⟨hi, e⟩) (List.getElem?_eq_getElem _)
    rw [this]; simp
  unfold bindArgs
  simp only [h1, h2, h3, h4, h5, hd, List.map_nil, List.nil_append]
  have hsi : seqItems? Value.none = pure none := rfl
  have hgt : ¬ (us.length > ps.length) := by omega
  simp [hsi, hl, hm, hf]

/-! ### a def's end: its own lists are frozen -/
/-- the heap of what is not changed any more, behind the def -/
def frzF (F H : Hp) (ts : List Addr) : Hp := fun a => match F a with
  | some o => some o
  | none => if a ∈ ts then H a else none
def Rho.back (ρ : Rho) (n : Nat) : Rho := ⟨ρ.t.take n, ρ.m, ρ.C, ρ.u⟩
section
variable {K : PySem.W.Frag} {F H F0 H0 : Hp} {ρ ρ0 : Rho} {s : Sto} {n : Nat}
theorem frz_sub (ts : List Addr) : Sub F (frzF F H ts) := fun a o h => by unfold frzF; rw [h]
theorem frz_new {ts : List Addr} {a : Addr} (h : F a = none) (ha : a ∈ ts) : frzF F H ts a = H a := by unfold frzF; rw [h]; exact if_pos ha
theorem frz_none {ts : List Addr} {a : Addr} (h : F a = none) (ha : a ∉ ts) : frzF F H ts a = none := by unfold frzF; rw [h]; exact if_neg ha
theorem frz_of {ts : List Addr} {a : Addr} {o : HO} (h : frzF F H ts a = some o) : F a = some o ∨ (F a = none ∧ a ∈ ts ∧ H a = some o) := by
  cases e : F a with
  | some o' =>
    unfold frzF at h; rw [e] at h
    exact .inl h
  | none =>
    by_cases ha : a ∈ ts
    · rw [frz_new e ha] at h; exact .inr ⟨rfl, ha, h⟩
    · rw [frz_none e ha] at h; cases h
theorem take_drop_not {l : List Addr} (nd : l.Nodup) {a : Addr} (h1 : a ∈ l.take n) (h2 : a ∈ l.drop n) : False := by
  have := nd
  rw [← List.take_append_drop n l, List.nodup_append] at this
  exact this.2.2 a h1 a h2 rfl
theorem Stt.back (st : Stt F H ρ s) : Stt (frzF F H (ρ.t.drop n)) H (ρ.back n) (s.back n) := by
  have nd := List.nodup_append.mp st.nd
  have ht : ∀ a, a ∈ ρ.t.take n → a ∈ ρ.t := fun a h => List.mem_of_mem_take h
  have hd : ∀ a, a ∈ ρ.t.drop n → a ∈ ρ.t := fun a h => List.mem_of_mem_drop h
  refine ⟨fun a o h => ?_, by simp [Rho.back, Sto.back, st.tl], by simp [Rho.back, Sto.back, st.ml], ?_, fun a ha => ?_, fun i o a e1 e2 => ?_, fun i o a e1 e2 => ?_, fun b hb => ?_, st.uw⟩
  · rcases frz_of h with h | ⟨_, _, h⟩
    · exact st.sub a o h
    · exact h
  · show (ρ.t.take n ++ ρ.m).Nodup
    rw [List.nodup_append]
    exact ⟨nd.1.sublist (List.take_sublist _ _), nd.2.1, fun a ha b hb => nd.2.2 a (ht a ha) b hb⟩
  · have ha' : a ∈ ρ.t ++ ρ.m := by
      rcases List.mem_append.mp ha with h | h
      · exact List.mem_append_left _ (ht a h)
      · exact List.mem_append_right _ h
    rcases st.out a ha' with hf | ⟨od, u, hf⟩
    · refine .inl (frz_none hf fun hx => ?_)
      rcases List.mem_append.mp ha with h | h
      · exact take_drop_not nd.1 h hx
      · exact nd.2.2 a (hd a hx) a h rfl
    · exact .inr ⟨od, u, frz_sub _ _ _ hf⟩
  · have e1' : s.t[i]? = some o := by
      have e1 : (s.t.take n)[i]? = some o := e1
      rw [List.getElem?_take] at e1
      split at e1
      · exact e1
      · cases e1
    have e2' : ρ.t[i]? = some a := by
      have e2 : (ρ.t.take n)[i]? = some a := e2
      rw [List.getElem?_take] at e2
      split at e2
      · exact e2
      · cases e2
    exact (st.ot i o a e1' e2').mono (frz_sub _) SameAt.refl
  · exact (st.om i o a e1 e2).mono (frz_sub _) SameAt.refl
  · obtain ⟨h1, h2, h3⟩ := st.uo b hb
    refine ⟨frz_none h1 fun z => h2 (List.mem_append_left _ (hd b z)), fun z => h2 ?_, h3⟩
    rcases List.mem_append.mp z with z | z
    · exact List.mem_append_left _ (ht b z)
    · exact List.mem_append_right _ z
theorem Ext.back (e : Ext F0 H0 ρ0 F H ρ) (st : Stt F H ρ s) (hn : n = ρ0.t.length) : Ext F0 H0 ρ0 (frzF F H (ρ.t.drop n)) H (ρ.back n) := by
  have nd := List.nodup_append.mp st.nd
  obtain ⟨r, hr⟩ := e.t
  obtain ⟨q, hq⟩ := e.m
  have htk : ρ.t.take n = ρ0.t := by rw [hr, hn]; simp
  refine ⟨e.f.trans (frz_sub _), ⟨[], by rw [List.append_nil]; exact htk⟩, ⟨q, hq⟩, e.k, fun a ha => ?_, fun a o h => ?_, e.w, e.c, e.nu, fun b q k hb => ?_⟩
  · refine e.n a ?_
    rcases List.mem_append.mp ha with h | h
    · exact List.mem_append_left _ (List.mem_of_mem_take h)
    · exact List.mem_append_right _ h
  · rcases frz_of h with h | ⟨_, hx, _⟩
    · exact e.g a o h
    · refine .inr (.inl ?_)
      have hm : a ∈ ρ.t := List.mem_of_mem_drop hx
      rcases e.n a (List.mem_append_left _ hm) with h | h
      · exfalso
        rcases List.mem_append.mp h with h | h
        · exact take_drop_not nd.1 (by rw [htk]; exact h) hx
        · exact nd.2.2 a hm a (by rw [hq]; exact List.mem_append_left _ h) rfl
      · exact h
  · rcases e.um b q k hb with z | z
    · exact .inl z
    · refine .inr ?_
      cases ef : F q with
      | none => exact absurd ef z
      | some o => rw [frz_sub _ _ _ ef]; exact fun z => nomatch z
mutual
theorem HasD.back (st : Stt F H ρ s) : ∀ (d d' : D) (v : V), s.frz n d = some d' → HasD K F ρ v d → HasD K (frzF F H (ρ.t.drop n)) (ρ.back n) v d'
  | .p a, d', v, e, h => by
    cases e
    cases h with | p h => exact .p (HasP.mono (frz_sub _) _ _ h)
  | .scr xs, d', v, e, h => by
    cases e
    cases h with | scr h => exact .scr (SqL.sub (frz_sub _) h)
  | .ref i, d', v, e, h => by
    cases e
    cases h with | ref h => exact .ref h
  | .tmp i, d', v, e, h => by
    cases h with | @tmp a _ h =>
    rw [Sto.frz] at e
    by_cases hi : i < n
    · rw [if_pos hi] at e
      cases e
      exact .tmp (by show (ρ.t.take n)[i]? = _; rw [List.getElem?_take, if_pos hi]; exact h)
    · rw [if_neg hi] at e
      split at e
      · rename_i xs hx
        cases e
        obtain ⟨z, vs, h1, h2⟩ := st.ot i _ a hx h
        have hm : a ∈ ρ.t.drop n := by
          obtain ⟨hl, e⟩ := List.getElem?_eq_some_iff.mp h
          rw [List.mem_iff_getElem?]
          exact ⟨i - n, by rw [List.getElem?_drop, show n + (i - n) = i by omega]; exact h⟩
        have hf : F a = none := st.free (List.mem_append_left _ (List.mem_of_getElem? h)) h1 (fun _ _ z => nomatch z)
        exact .p (.lst (by rw [frz_new hf hm]; exact h1) z (HasPs.mono (frz_sub _) _ _ h2))
      · cases e
  | .tup ds, d', v, e, h => by
    rw [Sto.frz, Option.map_eq_some_iff] at e
    obtain ⟨es, e1, rfl⟩ := e
    cases h with | @tup a vs _ h1 z hr =>
    obtain ⟨hl, hs⟩ := HasDs.back st ds es vs e1 hr
    exact HasD.mkTup (frz_sub _ _ _ h1) (by rw [hl]; exact z) hs
  | .fn _, _, _, _, h => by cases h
  | .dct ks ds, d', v, e, h => by
    rw [Sto.frz, Option.map_eq_some_iff] at e
    obtain ⟨es, e1, rfl⟩ := e
    cases h with | dct h1 n z r w hr =>
    obtain ⟨hl, hs⟩ := HasDs.back st ds es _ e1 hr
    exact .dct (frz_sub _ _ _ h1) n z (r.mono (frz_sub _)) w hs
theorem HasDs.back (st : Stt F H ρ s) : ∀ (ds es : List D) (vs : List V), s.frzs n ds = some es → HasDs K F ρ vs ds → es.length = ds.length ∧ HasDs K (frzF F H (ρ.t.drop n)) (ρ.back n) vs es
  | [], es, vs, e, h => by
    cases e
    cases h
    exact ⟨rfl, .nil⟩
  | d :: ds, es, vs, e, h => by
    cases h with | cons h1 h2 =>
    rw [Sto.frzs] at e
    cases q : s.frz n d with
    | none => rw [q] at e; cases e
    | some d' =>
      rw [q] at e
      simp only [Option.map_eq_some_iff] at e
      obtain ⟨es', e1, rfl⟩ := e
      obtain ⟨l, r⟩ := HasDs.back st ds es' _ e1 h2
      exact ⟨by rw [List.length_cons, List.length_cons, l], .cons (HasD.back st d d' _ q h1) r⟩
end
end
end G7

namespace G7
open PySem PySem.Spec
open L2 (V Hp HO St WX TE TS R2 OpR CallR MtR MtM SlR IxR Inv RelV Vals upd upd_same upd_ne ne_of_none SqL SqT Cx Room EP VK PE PT PA PI PG PGs PO PS PSs Sp XK It TI TG TGs FnOk thn Ends)
variable [WW]

def isCellLocal : Option NameKind → Bool
  | some .local => true
  | some .cell => true
  | _ => false
def notFree : NameKind → Bool
  | .free => false
  | _ => true
def scopeC (N ps : List Str) (sc : Scope) : Bool := decide (sc.kind = .function) && (!sc.isCoroutine && (!sc.isGenerator && (decide N.Nodup && (decide (N.take ps.length = ps) && (ps.all (fun x => isCellLocal (sc.names.lookup x)) && sc.names.all (fun y => notFree y.2))))))
theorem scopeC_ok {N ps : List Str} {sc : Scope} (h : scopeC N ps sc = true) : L2.FnScope N ps sc := by
  obtain ⟨h1, h⟩ := ba h
  obtain ⟨h2, h⟩ := ba h
  obtain ⟨h3, h⟩ := ba h
  obtain ⟨h4, h⟩ := ba h
  obtain ⟨h5, h⟩ := ba h
  obtain ⟨h6, h7⟩ := ba h
  refine ⟨of_decide_eq_true h1, of_not h2, of_not h3, of_decide_eq_true h4, of_decide_eq_true h5, fun x hx => ?_, fun y hy e => ?_⟩
  · have := List.all_eq_true.mp h6 x hx
    unfold isCellLocal at this
    split at this
    · rename_i e; exact .inl e
    · rename_i e; exact .inr e
    · cases this
  · have := List.all_eq_true.mp h7 y hy
    rw [e] at this
    cases this
def argsC (p : Arguments) (ps : List Str) : Bool := p.posonlyargs.isEmpty && (decide (p.args.map (·.arg) = ps) && (p.vararg.isNone && (p.kwonlyargs.isEmpty && (p.kwarg.isNone && decide ps.Nodup))))
/-- a def's term is its text's -/
def ckD (T : Tabs) (d : He.DefD) (fe : FE) (fd : Fd) (N : List Str) : Bool :=
  decide (fe.at_ = d.at_) && (scopeC N fe.ps d.scope && (argsC d.params fe.ps && (decide (fd.np = fe.ps.length) && (decide (fd.ns = N.length) && (d.dfl.isEmpty && (d.kwd.isEmpty && ckSs T ⟨N, d.scope, fun _ => true⟩ fd.body d.body))))))
def ckAll (T : Tabs) : List He.DefD → List FE → List Fd → List (List Str) → Bool
  | d :: ds, fe :: fes, fd :: fds, N :: Ns => ckD T d fe fd N && ckAll T ds fes fds Ns
  | [], [], [], [] => true
  | _, _, _, _ => false
theorem ckAll_get {T : Tabs} : ∀ {ds : List He.DefD} {fes : List FE} {fds : List Fd} {Ns : List (List Str)} {f : Nat} {fe : FE}, ckAll T ds fes fds Ns = true → fes[f]? = some fe → ∃ d fd N, ds[f]? = some d ∧ fds[f]? = some fd ∧ ckD T d fe fd N = true
  | d :: ds, e :: fes, fd :: fds, N :: Ns, 0, fe, h, hf => by
    simp at hf; subst hf
    exact ⟨d, fd, N, rfl, rfl, (ba h).1⟩
  | d :: ds, e :: fes, fd :: fds, N :: Ns, f + 1, fe, h, hf => by
    obtain ⟨d', fd', N', h1, h2, h3⟩ := ckAll_get (f := f) (ba h).2 (by simpa using hf)
    exact ⟨d', fd', N', by simpa using h1, by simpa using h2, h3⟩
  | [], [], [], [], _, _, _, hf => by simp at hf
  | [], _ :: _, _, _, _, _, h, _ => by simp [ckAll] at h
  | _ :: _, [], _, _, _, _, _, hf => by simp at hf
  | _ :: _, _ :: _, [], _, _, _, h, _ => by simp [ckAll] at h
  | _ :: _, _ :: _, _ :: _, [], _, _, h, _ => by simp [ckAll] at h
  | [], [], _ :: _, _, _, _, h, hf => by simp at hf
  | [], [], [], _ :: _, _, _, h, hf => by simp at hf
/-- what the head is to tell -/
structure Facts (T : Tabs) (Wh : Wh) (fn : List He.DefD) (tab : List Fd) (Ns : List (List Str)) (K : PySem.W.Frag) (mg : Str → Option Value) : Prop where
  free : ∀ x ∈ T.frees, mg x = none
  con : ∀ q ∈ T.cons, ∃ u v, mg q.1 = some u ∧ RelV v u ∧ HasP (fun _ => none) v q.2
  glo : ∀ fe ∈ T.fns, fe.at_.2 = none → mg fe.at_.1 = some (.ref (He.fAd K fe.at_))
  exc : ∀ (j : Nat) (x : Str), T.exs[j]? = some x → PySem.W.excIn K (He.ga K x) He.veBase "ValueError.__new__" = true ∧ mg x = some (.ref (He.ga K x)) ∧ PySem.W.keepIn K (.ref (He.ga K x)) = true ∧ PySem.W.subIn K (.ref (He.ga K x)) (.type "BaseException") = some true ∧ PySem.W.typeIn K (.ref (He.ga K x)) = some (.type "type")
  fal : T.fall = true → ∃ q, mg "FallError" = some q ∧ ∀ (j : Nat) (kk : Int), Wh j = some kk → PySem.W.exmOne K (xcOf T K j) q = some true
  fun_ : ∀ d ∈ fn, ∃ fd, L2.FunD K d.name d.qual d.params d.body d.scope (d.dvs K) (d.kws K) (He.fAd K d.at_) fd
  ck : ckAll T fn T.fns tab Ns = true
  cls : T.cls = true → L2.Cls K (He.ga K (Str.ofString "House")) ∧ mg (Str.ofString "House") = some (.ref (He.ga K (Str.ofString "House")))
  noat : T.cls = true → ∀ x ∈ T.fields, L2.NoAttr K (He.ga K (Str.ofString "House")) x
  tab : ∀ q ∈ T.dts, TabOk K mg q
  mth : T.cls = true → ∀ fe ∈ T.fns, ∀ m, fe.at_ = (Str.ofString "House", some m) → (m ≠ Str.ofString "__init__" → L2.Meth K (He.ga K (Str.ofString "House")) m (He.fAd K fe.at_)) ∧ (m = Str.ofString "__init__" → L2.Mk K (He.ga K (Str.ofString "House")) (He.fAd K fe.at_))
theorem slStart {K : PySem.W.Frag} {F : Hp} {ρ : Rho} {vs : List V} {ds : List D} (hC : ρ.C = He.ga K (Str.ofString "House")) (h : HasDs K F ρ vs ds) (m : Nat) : SlOk K F ρ (vs.map some ++ List.replicate m none) (ds.map some ++ List.replicate m none) := by
  have hl := h.length
  refine ⟨hC, by simp [hl], fun i d e => ?_⟩
  by_cases hi : i < ds.length
  · rw [List.getElem?_append_left (by simpa using hi), List.getElem?_map] at e
    cases q : ds[i]? with
    | none => rw [q] at e; cases e
    | some d' =>
      rw [q] at e
      cases e
      obtain ⟨v, h1, h2⟩ := h.get q
      exact ⟨v, by rw [List.getElem?_append_left (by simpa [hl] using hi), List.getElem?_map, h1]; rfl, h2⟩
  · rw [List.getElem?_append_right (by simpa using hi), List.getElem?_replicate] at e
    split at e
    · cases e
    · cases e
theorem fin_ok {K : PySem.W.Frag} {xc : Nat → Value} {F H : Hp} {ρ : Rho} {n : Nat} {r : RS} {Q : VK} {E : XK} (hn : n = ρ.t.length) (h : RP xc (fun cls d _ H => E cls d H) [] F H ρ (fin n r) (CV K Q)) :
    RPS K xc (fun cls d _ H => E cls d H) F H ρ r { nx := fun _ H' => Q .non H', rt := Q } := by
  cases r with
  | nx τ s => exact fun F' H' ρ' σ' e st sl => h _ _ _ (e.back (s := s) st hn) st.back _ (.p .non)
  | bk τ s => exact h.elim
  | bad => exact h.elim
  | ex c τ s => exact fun F' H' ρ' σ' e st sl => h _ _ _ (e.back (s := s) st hn) st.back
  | rt d s =>
    simp only [fin] at h
    cases q : s.frz n d with
    | none => rw [q] at h; exact h.elim
    | some d' =>
      rw [q] at h
      exact fun F' H' ρ' e st v hv => h _ _ _ (e.back (s := s) st hn) st.back v (HasD.back st d d' v q hv)
section
variable {T : Tabs} {Wh : Wh} {fn : List He.DefD} {tab : List Fd} {Ns : List (List Str)} {K : PySem.W.Frag} {mg : Str → Option Value} {P : Program} {w : World} {base : Heap}
theorem empty_of {α : Type} {l : List α} (h : l.isEmpty = true) : l = [] := by
  cases l with
  | nil => rfl
  | cons _ _ => cases h
theorem none_of {α : Type} {l : Option α} (h : l.isNone = true) : l = none := by
  cases l with
  | none => rfl
  | some _ => cases h
/-- what is said of one def -/
structure OneD (T : Tabs) (fn : List He.DefD) (tab : List Fd) (K : PySem.W.Frag) (f : Nat) (fe : FE) (d : He.DefD) (fdr : Fd) (N : List Str) (fd : FuncData) : Prop where
  hd : fn[f]? = some d
  ht : tab[f]? = some fdr
  ck : ckD T d fe fdr N = true
  fu : L2.FunD K d.name d.qual d.params d.body d.scope [] (d.kws K) (He.fAd K fe.at_) fd
theorem Facts.one (Fc : Facts T Wh fn tab Ns K mg) {f : Nat} {fe : FE} (hf : T.fns[f]? = some fe) : ∃ d fdr N fd, OneD T fn tab K f fe d fdr N fd := by
  obtain ⟨d, fdr, N, h1, h2, h3⟩ := ckAll_get Fc.ck hf
  have h30 := h3
  obtain ⟨c1, h3⟩ := ba h3
  obtain ⟨c2, h3⟩ := ba h3
  obtain ⟨c3, h3⟩ := ba h3
  obtain ⟨c4, h3⟩ := ba h3
  obtain ⟨c5, h3⟩ := ba h3
  obtain ⟨c6, h3⟩ := ba h3
  have c1 := of_decide_eq_true c1
  obtain ⟨fd, F⟩ := Fc.fun_ d (List.mem_of_getElem? h1)
  have hb0 : d.dvs K = [] := by unfold He.DefD.dvs; rw [empty_of c6]; rfl
  rw [hb0, ← c1] at F
  exact ⟨d, fdr, N, fd, h1, h2, h30, F⟩
theorem OneD.binds {f : Nat} {fe : FE} {d : He.DefD} {fdr : Fd} {N : List Str} {fd : FuncData} (o : OneD T fn tab K f fe d fdr N fd) : L2.Binds K fd fe.ps [] ∧ PySem.W.keepIn K (.ref (He.fAd K fe.at_)) = true ∧ ∀ (s : Shared) (us : List Value), us.length = fe.ps.length → BindsTo s fd ⟨us, []⟩ (fe.ps.zip us) := by
  obtain ⟨c1, h3⟩ := ba o.ck
  obtain ⟨c2, h3⟩ := ba h3
  obtain ⟨c3, h3⟩ := ba h3
  obtain ⟨a1, a⟩ := ba c3
  obtain ⟨a2, a⟩ := ba a
  obtain ⟨a3, a⟩ := ba a
  obtain ⟨a4, a⟩ := ba a
  obtain ⟨a5, a6⟩ := ba a
  exact ⟨o.fu.bindsN fun kV doc pm an cdv ct us hl => bind_plain (empty_of a1) (of_decide_eq_true a2) (none_of a3) (empty_of a4) (none_of a5) rfl (of_decide_eq_true a6) us hl, o.fu.kp,
    o.fu.bindsA fun kV doc pm an cdv ct us hl => bind_plain (empty_of a1) (of_decide_eq_true a2) (none_of a3) (empty_of a4) (none_of a5) rfl (of_decide_eq_true a6) us hl⟩
/-- every def does as its term -/
theorem defs_ok (hww : WW.w = w) (Fc : Facts T Wh fn tab Ns K mg) (hw : T.which = true → ∀ k, WhichOk T Wh P w K mg base k) : ∀ (k : Nat) (f : Nat) (fe : FE) (d : He.DefD) (fdr : Fd) (N : List Str) (fd : FuncData), OneD T fn tab K f fe d fdr N fd →
    FnOk P w K mg base (L2N.CX P w) (2 * k) (He.fAd K fe.at_) fd fe.ps (spD K (xcOf T K) (run tab Wh k f) fe.ps.length) := by
  intro k
  induction k with
  | zero =>
    intro f fe d fdr N fd o
    refine ⟨fun vs H Q E h => h.1, fun A outer s H args us vs Q E hr e0 hb r h => ?_⟩
    obtain ⟨_, F0, ρ0, s0, ds, hC0, st0, hd0, h0⟩ := h
    exact h0.elim
  | succ k ih =>
    intro f fe d fdr N fd o
    have h2 := o.ht
    obtain ⟨c1, h3⟩ := ba o.ck
    obtain ⟨c2, h3⟩ := ba h3
    obtain ⟨c3, h3⟩ := ba h3
    obtain ⟨c4, h3⟩ := ba h3
    obtain ⟨c5, h3⟩ := ba h3
    obtain ⟨c6, h3⟩ := ba h3
    obtain ⟨c7, c8⟩ := ba h3
    have c4 := of_decide_eq_true c4
    have c5 := of_decide_eq_true c5
    have S := scopeC_ok c2
    rw [show 2 * (k + 1) = (2 * k + 1) + 1 by omega]
    refine o.fu.ok S (fun vs H Q E h => h.1) fun cdv A outer s H vs Q E hr h => ?_
    obtain ⟨hl, F0, ρ0, s0, ds, hC0, st0, hd0, h0⟩ := h
    refine ⟨tS K (xcOf T K) (fun cls d _ H => E cls d H) (exs (run tab Wh k) Wh fdr.body), ?_, ?_⟩
    · refine snSs (X := L2.cxOf (L2N.CX P w) P w K mg base N d.qual d.scope (He.fAd K fe.at_) cdv A outer s H E) (k := 2 * k) fdr.body (c := ⟨N, d.scope, fun _ => true⟩) ?_ c8
      exact {
        hN := rfl
        nd := S.nd
        sc := rfl
        fn := rfl
        calm := rfl
        room1 := hr
        free := Fc.free
        con := Fc.con
        fns := fun g ge hg hn => by
          obtain ⟨d', fdr', N', fd', o'⟩ := Fc.one hg
          obtain ⟨b1, b2, _⟩ := o'.binds
          exact ⟨fd', ih g ge d' fdr' N' fd' o', b1, Fc.glo ge (List.mem_of_getElem? hg) hn, b2⟩
        tk := L2N.takes_of rfl rfl rfl rfl
        ww := hww
        cls := Fc.cls
        noat := Fc.noat
        tab := Fc.tab
        mth := fun hc g ge m hg hat => by
          obtain ⟨d', fdr', N', fd', o'⟩ := Fc.one hg
          obtain ⟨b1, b2, _⟩ := o'.binds
          exact ⟨fd', ih g ge d' fdr' N' fd' o', b1, Fc.mth hc ge (List.mem_of_getElem? hg) m hat⟩
        kind := S.kind
        hp := L2.passes_of rfl
        stk := rfl
        frm := rfl
        exc := fun j x hj => by
          obtain ⟨e1, e2, e3, e4, e5⟩ := Fc.exc j x hj
          exact ⟨_, _, _, _, PySem.F.excBase_ValueError, e1, e2, e3, L2.raises_own e4 e5⟩
        fal := Fc.fal
        wch := fun hh => hw hh (2 * k) }
    · have hnp : ds.length = fdr.np := by rw [← hd0.length, hl, c4]
      have hN : N.length - vs.length = fdr.ns - fdr.np := by rw [c5, c4, hl]
      refine ⟨F0, ρ0, ds.map some ++ List.replicate (fdr.ns - fdr.np) none, s0, st0, ?_, ?_⟩
      · unfold L2.start
        rw [hN]
        exact slStart hC0 hd0 _
      · refine fin_ok (n := s0.t.length) st0.tl.symm ?_
        unfold run at h0
        rw [h2] at h0
        simp only [if_pos hnp] at h0
        exact h0
end
end G7

namespace G7
open PySem PySem.Spec PyProof.Rows
open L2 (V Hp HO St WX TE TS R2 OpR CallR MtR MtM SlR IxR Inv RelV Vals upd upd_same upd_ne ne_of_none SqL SqT Cx Room EP VK PE PT PA PI PG PGs PO PS PSs Sp XK It TI TG TGs FnOk thn Ends)
variable [WW]

section
variable {X : Cx}
/-- isinstance(e, c), e the exception that is pinned -/
theorem call_isP {a D : Addr} {oe : Obj} (hp : (a, oe) ∈ X.pn) (C : L2.ExcC X.K D) (hz : L2.Zc (.ref D) none oe) (hf : ∃ vs, oe.data = .fields vs) : CallR X (.builtin "isinstance") (L2.rIsE X.K D a) := by
  intro pins s σ H xs us Q I r h
  obtain ⟨c, cv, b, rfl, hcv, e, q⟩ := h
  cases r with
  | cons rx rr =>
    cases rr with
    | cons rt rr =>
      cases rr
      cases rx
      have ec := hcv _ rt
      subst ec
      obtain ⟨hget, _⟩ := I.pin (a, oe) (List.mem_append.mpr (.inl hp))
      obtain ⟨vs, hv⟩ := hf
      have J : PySem.W.InstAt s.heap a oe D none := by
        obtain ⟨oc, od, oda, osl⟩ := oe
        obtain ⟨h1, h2⟩ := hz
        dsimp only at h1 h2 hv
        subst h1 h2 hv
        exact ⟨hget, rfl, rfl, trivial⟩
      exact PySem.W.kia_one (PySem.W.handS_kitx_exc C.hg C.hk C.hs C.hd C.ha C.hn C.ht C.hm) I.kIn J e (fun z => nomatch z) fun tk => ⟨.bl b, H, I.kept (t' := tk) fun _ _ z => z, rfl, q⟩
end
end G7

namespace G7
open PySem PySem.Spec PyProof.Rows
open L2 (V Hp HO St WX TE TS R2 OpR CallR MtR MtM SlR IxR Inv RelV Vals upd upd_same upd_ne ne_of_none SqL SqT Cx Room EP VK PE PT PA PI PG PGs PO PS PSs Sp XK It TI TG TGs FnOk thn Ends)
variable [WW]

def names1 : List Str := ["NoFall", "NoPiece", "NoRules", "NoKey"]
def names2 : List Str := ["NoMoment", "NoVersion", "NoCount", "Twice"]
def names3 : List Str := ["Across", "Full", "NoDeed", "NoText"]
def names4 : List Str := ["NoAsk", "Unlike"]
def whichNames : List Str := ["NoFall", "NoPiece", "NoRules", "NoKey", "NoMoment", "NoVersion", "NoCount", "Twice", "Across", "Full", "NoDeed", "NoText", "NoAsk", "Unlike"]
def isIs (nm : Str) : Expr → Bool
  | .Call (.Name f _) [.Name e _, .Name c _] [] _ => decide (f = "isinstance") && (decide (e = "e") && decide (c = nm))
  | _ => false
def isIss : List Str → List Expr → Bool
  | [], [] => true
  | n :: ns, e :: es => isIs n e && isIss ns es
  | _, _ => false
def isOwn : Expr → Bool
  | .Name x _ => decide (x = "own")
  | _ => false
def isTrue1 : Expr → Bool
  | .Constant (.bool b) _ _ => b
  | _ => false
/-- the text of _law_which -/
def whichC : List Stmt → Bool
  | [.Assign [.Name o1 _] (.List es1 _) _, .Expr (.Call (.Attribute w1 m1 p1) [.List es2 _] [] q1) _, .Expr (.Call (.Attribute w2 m2 p2) [.List es3 _] [] q2) _, .Expr (.Call (.Attribute w6 m6 p6) [.List es6 _] [] q6) _,
     .If (.BoolOp .Or [.Compare (.Call (.Attribute w3 m3 p3) [c1] [] q3) [.NotEq] [.Constant (.int k1) _ _] _, .UnaryOp .Not e4 _] _) _ [] _,
     .Return (some (.Tuple [.Constant (.str s5) _ _, .Call (.Attribute w5 m5 p5) [c5] [] q5] _ _)) _] =>
    decide (o1 = "own") && (isIss names1 es1 && (isOwn w1 && (decide (m1 = "extend") && ((p1.endLine == q1.line) && (isIss names2 es2 && (isOwn w2 && (decide (m2 = "extend") && ((p2.endLine == q2.line) && (isIss names3 es3 && (isOwn w6 && (decide (m6 = "extend") && ((p6.endLine == q6.line) && (isIss names4 es6 &&
    (isOwn w3 && (decide (m3 = "count") && ((p3.endLine == q3.line) && (isTrue1 c1 && (decide (k1 = 1) && (isIs "ValueError" e4 && (decide (s5 = "refused") && (isOwn w5 && (decide (m5 = "index") && ((p5.endLine == q5.line) && isTrue1 c5)))))))))))))))))))))))
  | _ => false
def whichSc (sc : Scope) : Bool := isLoc ⟨[], sc, fun _ => true⟩ "e" && (isLoc ⟨[], sc, fun _ => true⟩ "own" && (isGl sc "isinstance" && (isGl sc "ValueError" && whichNames.all fun x => isGl sc x)))
structure HotW (X : Cx) (a : Addr) (oe : Obj) (j : Nat) (xj : Str) : Prop where
  hN : X.N = ([Str.ofString "e", Str.ofString "own"] : List Str)
  sc : whichSc X.env.scope = true
  pn : (a, oe) ∈ X.pn
  hz : L2.Zc (.ref (He.ga X.K xj)) none oe
  hf : ∃ vs, oe.data = .fields vs
  fi : X.mg "isinstance" = none
  fv : X.mg "ValueError" = none
  glo : ∀ (i : Nat) (x : Str), whichNames[i]? = some x → X.mg x = some (.ref (He.ga X.K x))
  exC : L2.ExcC X.K (He.ga X.K xj)
  kit : ∀ (i : Nat) (x : Str), whichNames[i]? = some x → PySem.W.kitOne X.K (.ref (He.ga X.K xj)) (.ref (He.ga X.K x)) = some (decide (i = j))
  kv : PySem.W.kitOne X.K (.ref (He.ga X.K xj)) (.type "ValueError") = some true
  un : X.A.units + 64 < cLine
  hj : j < 14
section
variable {X : Cx} {a : Addr} {oe : Obj} {j : Nat} {xj : Str}
theorem isLoc1 {c : Ct} {x : Str} (h : isLoc c x = true) : c.sc.names.lookup x = some .local := by
  unfold isLoc at h
  split at h
  · assumption
  · cases h
theorem isGl1 {sc : Scope} {x : Str} (h : isGl sc x = true) : sc.names.lookup x = some .globalImplicit := by
  unfold isGl at h
  split at h
  · assumption
  · cases h
theorem HotW.loc0 (h : HotW X a oe j xj) : X.env.scope.names.lookup (Str.ofString "e") = some .local := isLoc1 (ba h.sc).1
theorem HotW.loc1 (h : HotW X a oe j xj) : X.env.scope.names.lookup (Str.ofString "own") = some .local := isLoc1 (ba (ba h.sc).2).1
theorem HotW.gi (h : HotW X a oe j xj) : L2.Gl X "isinstance" := isGl1 (ba (ba (ba h.sc).2).2).1
theorem HotW.gv (h : HotW X a oe j xj) : L2.Gl X "ValueError" := isGl1 (ba (ba (ba (ba h.sc).2).2).2).1
theorem HotW.gn (h : HotW X a oe j xj) {x : Str} (hx : x ∈ whichNames) : L2.Gl X x := isGl1 (List.all_eq_true.mp (ba (ba (ba (ba h.sc).2).2).2).2 x hx)
theorem names_dbg {x : Str} (hx : x ∈ whichNames) : (x == ("__debug__" : Str)) = false := by
  have : whichNames.all (fun x => !(x == ("__debug__" : Str))) = true := by decide +kernel
  simpa using List.all_eq_true.mp this x hx
def tIs (a : Addr) (b : Bool) : TE := fun σ H Q => σ[0]? = some (some (.ref a)) ∧ Q (.bl b) H
def tIss (a : Addr) (bs : List Bool) : L2.TA := fun σ H Q => σ[0]? = some (some (.ref a)) ∧ Q (bs.map V.bl) H
theorem isIs_shape {nm : Str} {e : Expr} (h : isIs nm e = true) : ∃ p1 p2 p3 p4, e = .Call (.Name "isinstance" p1) [.Name "e" p2, .Name nm p3] [] p4 := by
  unfold isIs at h
  split at h
  · obtain ⟨h1, h⟩ := ba h
    obtain ⟨h2, h3⟩ := ba h
    have h1 := of_decide_eq_true h1
    have h2 := of_decide_eq_true h2
    have h3 := of_decide_eq_true h3
    subst h1; subst h2; subst h3
    exact ⟨_, _, _, _, rfl⟩
  · cases h
theorem pe_is (h : HotW X a oe j xj) {i : Nat} {nm : Str} {e : Expr} (hi : whichNames[i]? = some nm) (he : isIs nm e = true) : PE X e (tIs a (decide (i = j))) := by
  obtain ⟨p1, p2, p3, p4, rfl⟩ := isIs_shape he
  have hm := List.mem_of_getElem? hi
  refine PE.imp (L2.pe_callB (call_isP h.pn h.exC h.hz h.hf) h.gi h.fi (by decide +kernel) (L2.pa_cons (L2.pe_var (i := 0) (by rw [h.hN]; rfl) (.inl h.loc0)) (L2.pa_cons (L2.pe_glob (v := .ref (He.ga X.K nm)) (h.gn hm) (h.glo i nm hi) rfl (names_dbg hm)) L2.pa_nil))) fun σ H Q q => ?_
  exact ⟨_, q.1, _, _, _, rfl, fun u hu => hu, h.kit i nm hi, q.2⟩
theorem pe_isV (h : HotW X a oe j xj) {e : Expr} (he : isIs "ValueError" e = true) : PE X e (tIs a true) := by
  obtain ⟨p1, p2, p3, p4, rfl⟩ := isIs_shape he
  refine PE.imp (L2.pe_callB (call_isP h.pn h.exC h.hz h.hf) h.gi h.fi (by decide +kernel) (L2.pa_cons (L2.pe_var (i := 0) (by rw [h.hN]; rfl) (.inl h.loc0)) (L2.pa_cons (L2.pe_bltn (v := .ty "ValueError") h.gv h.fv (by decide +kernel) rfl) L2.pa_nil))) fun σ H Q q => ?_
  exact ⟨_, q.1, _, _, _, rfl, fun u hu => hu, h.kv, q.2⟩
theorem pa_is (h : HotW X a oe j xj) : ∀ (ns : List Str) (k : Nat) (es : List Expr), (∀ (i : Nat) (x : Str), ns[i]? = some x → whichNames[k + i]? = some x) → isIss ns es = true → PA X es (tIss a ((List.range' k ns.length).map fun i => decide (i = j)))
  | [], k, [], hk, he => by
    exact ⟨fun pos pins s σ H Q I q => L2.pa_nil.run pos pins s σ H Q I q.2⟩
  | [], _, _ :: _, _, he => by simp [isIss] at he
  | _ :: _, _, [], _, he => by simp [isIss] at he
  | n :: ns, k, e :: es, hk, he => by
    obtain ⟨h1, h2⟩ := ba he
    have r := pa_is h ns (k + 1) es (fun i x hx => by rw [show k + 1 + i = k + (i + 1) by omega]; exact hk (i + 1) x (by simpa using hx)) h2
    have hsh := isIs_shape h1
    obtain ⟨p1, p2, p3, p4, rfl⟩ := hsh
    refine PA.imp (L2.pa_cons (pe_is h (hk 0 n rfl) h1) r) fun σ H Q q => ?_
    exact ⟨q.1, q.1, q.2⟩
theorem dps_bl {K : PySem.W.Frag} {H : Hp} : ∀ bs : List Bool, L2.DpAll K H (bs.map V.bl) (bs.map PyData.bool)
  | [] => .nil
  | b :: bs => .cons (.bl b) (dps_bl bs)
theorem plain_bl : ∀ bs : List Bool, PyData.plainAll (bs.map PyData.bool) = true
  | [] => rfl
  | b :: bs => by simp [PyData.plainAll, PyData.plain, plain_bl bs]
def bs1 (j : Nat) : List Bool := (List.range' 0 4).map fun i => decide (i = j)
def bs2 (j : Nat) : List Bool := (List.range' 4 4).map fun i => decide (i = j)
def bs3 (j : Nat) : List Bool := (List.range' 8 4).map fun i => decide (i = j)
def bs4 (j : Nat) : List Bool := (List.range' 12 2).map fun i => decide (i = j)
theorem bs_count : ∀ j < 14, ((((bs1 j ++ bs2 j) ++ bs3 j) ++ bs4 j).map PyData.bool).countP (fun z => PyData.eqv z (.bool true)) = 1 := by decide +kernel
theorem bs_at : ∀ j < 14, ((((bs1 j ++ bs2 j) ++ bs3 j) ++ bs4 j).map PyData.bool)[j]? = some (.bool true) := by
  intro j hj
  have : ∀ j < 14, (((bs1 j ++ bs2 j) ++ bs3 j) ++ bs4 j)[j]? = some true := by decide +kernel
  rw [List.getElem?_map, this j hj]; rfl
theorem bs_not : ∀ j < 14, ∀ m < j, (((bs1 j ++ bs2 j) ++ bs3 j) ++ bs4 j)[m]? = some false := by decide +kernel
theorem isOwn_shape {e : Expr} (h : isOwn e = true) : ∃ p, e = .Name "own" p := by
  unfold isOwn at h
  split at h
  · have h := of_decide_eq_true h
    subst h
    exact ⟨_, rfl⟩
  · cases h
theorem isTrue_shape {e : Expr} (h : isTrue1 e = true) : ∃ k p, e = .Constant (.bool true) k p := by
  unfold isTrue1 at h
  split at h
  · subst h
    exact ⟨_, _, rfl⟩
  · cases h
theorem iss1 : ∀ (i : Nat) (x : Str), names1[i]? = some x → whichNames[0 + i]? = some x := by
  intro i x h
  have hi := (List.getElem?_eq_some_iff.mp h).1
  have hi : i < 4 := hi
  match i, hi with
  | 0, _ => exact h
  | 1, _ => exact h
  | 2, _ => exact h
  | 3, _ => exact h
theorem iss2 : ∀ (i : Nat) (x : Str), names2[i]? = some x → whichNames[4 + i]? = some x := by
  intro i x h
  have hi := (List.getElem?_eq_some_iff.mp h).1
  have hi : i < 4 := hi
  match i, hi with
  | 0, _ => exact h
  | 1, _ => exact h
  | 2, _ => exact h
  | 3, _ => exact h
theorem iss3 : ∀ (i : Nat) (x : Str), names3[i]? = some x → whichNames[8 + i]? = some x := by
  intro i x h
  have hi := (List.getElem?_eq_some_iff.mp h).1
  have hi : i < 4 := hi
  match i, hi with
  | 0, _ => exact h
  | 1, _ => exact h
  | 2, _ => exact h
  | 3, _ => exact h
theorem iss4 : ∀ (i : Nat) (x : Str), names4[i]? = some x → whichNames[12 + i]? = some x := by
  intro i x h
  have hi := (List.getElem?_eq_some_iff.mp h).1
  have hi : i < 2 := hi
  match i, hi with
  | 0, _ => exact h
  | 1, _ => exact h
theorem sub_new {H : Hp} {p : Addr} {o : HO} (h : H p = none) : Sub H (upd H p o) := sub_upd h
theorem which_body (h : HotW X a oe j xj) {body : List Stmt} (hb : whichC body = true) {H : Hp} {Q : VK} (hq : ∀ (H' : Hp) (q : Addr), Sub H H' → H' q = none → Q (.ref q) (upd H' q (.tup [.str "refused", .int j]))) :
    ∃ t, PSs X body t ∧ t { nx := fun _ H' => Q .non H', rt := Q } [some (.ref a), none] H := by
  unfold whichC at hb
  split at hb
  · obtain ⟨h1, hb⟩ := ba hb
    obtain ⟨h2, hb⟩ := ba hb
    obtain ⟨h3, hb⟩ := ba hb
    obtain ⟨h4, hb⟩ := ba hb
    obtain ⟨h5, hb⟩ := ba hb
    obtain ⟨h6, hb⟩ := ba hb
    obtain ⟨h7, hb⟩ := ba hb
    obtain ⟨h8, hb⟩ := ba hb
    obtain ⟨h9, hb⟩ := ba hb
    obtain ⟨g1, hb⟩ := ba hb
    obtain ⟨n1', hb⟩ := ba hb
    obtain ⟨n2', hb⟩ := ba hb
    obtain ⟨n3', hb⟩ := ba hb
    obtain ⟨n4', hb⟩ := ba hb
    obtain ⟨g2, hb⟩ := ba hb
    obtain ⟨g3, hb⟩ := ba hb
    obtain ⟨g4, hb⟩ := ba hb
    obtain ⟨g5, hb⟩ := ba hb
    obtain ⟨g6, hb⟩ := ba hb
    obtain ⟨g7, hb⟩ := ba hb
    obtain ⟨g8, hb⟩ := ba hb
    obtain ⟨g9, hb⟩ := ba hb
    obtain ⟨k1, hb⟩ := ba hb
    obtain ⟨k2, k3⟩ := ba hb
    have h1 := of_decide_eq_true h1
    have h4 := of_decide_eq_true h4
    have h8 := of_decide_eq_true h8
    have n2' := of_decide_eq_true n2'
    have g3 := of_decide_eq_true g3
    have g6 := of_decide_eq_true g6
    have g8 := of_decide_eq_true g8
    have k1 := of_decide_eq_true k1
    obtain ⟨_, e3⟩ := isOwn_shape h3
    obtain ⟨_, e7⟩ := isOwn_shape h7
    obtain ⟨_, en1⟩ := isOwn_shape n1'
    obtain ⟨_, eg2⟩ := isOwn_shape g2
    obtain ⟨_, eg9⟩ := isOwn_shape g9
    obtain ⟨_, _, eg5⟩ := isTrue_shape g5
    obtain ⟨_, _, ek3⟩ := isTrue_shape k3
    subst h1; subst h4; subst h8; subst n2'; subst en1; subst g3; subst g6; subst g8; subst k1; subst e3; subst e7; subst eg2; subst eg9; subst eg5; subst ek3
    have nd : X.N.Nodup := by rw [h.hN]; decide +kernel
    have n1 : X.N[1]? = some (Str.ofString "own") := by rw [h.hN]; rfl
    have vo : ∀ {p : Pos}, PE X (.Name "own" p) (L2.tVar 1) := L2.pe_var n1 (.inl h.loc1)
    have hnot := isIs_shape g7
    have pt : PT X _ _ := L2.pt_val (pe_isV h g7) (by obtain ⟨p1, p2, p3, p4, e⟩ := hnot; subst e; intro _; rfl)
    refine ⟨_, L2.pss_cons (L2.ps_set (i := 1) nd n1 (.inl h.loc1) (L2.pe_lst (pa_is h names1 0 _ iss1 h2)) rfl (.inr h.loc1))
      (L2.pss_cons (L2.ps_expr (L2.pe_bm PySem.F.plainAttrs_list PySem.F.slot_list_extend PySem.F.type_list_extend L2.mt_extend vo (L2.pa_cons (L2.pe_lst (pa_is h names2 4 _ iss2 h6)) L2.pa_nil) (hline := h5)))
      (L2.pss_cons (L2.ps_expr (L2.pe_bm PySem.F.plainAttrs_list PySem.F.slot_list_extend PySem.F.type_list_extend L2.mt_extend vo (L2.pa_cons (L2.pe_lst (pa_is h names3 8 _ iss3 g1)) L2.pa_nil) (hline := h9)))
      (L2.pss_cons (L2.ps_expr (L2.pe_bm PySem.F.plainAttrs_list PySem.F.slot_list_extend PySem.F.type_list_extend L2.mt_extend vo (L2.pa_cons (L2.pe_lst (pa_is h names4 12 _ iss4 n4')) L2.pa_nil) (hline := n3')))
      (L2.pss_cons (L2.ps_if (L2.PW.pt (L2.pw_or (L2.pt_cmpR L2.op_ne (L2.pe_bm PySem.F.plainAttrs_list PySem.F.slot_list_count PySem.F.type_list_count (mt_count h.un) vo (L2.pa_cons L2.pe_bl L2.pa_nil) (hline := g4)) L2.pe_int rfl) (L2.pw_or1 (L2.pt_not pt)))) L2.pss_never L2.pss_nil)
      (L2.pss_one (L2.ps_ret (L2.pe_tup (L2.pa_cons L2.pe_str (L2.pa_cons (L2.pe_bm PySem.F.plainAttrs_list PySem.F.slot_list_index PySem.F.type_list_index (mt_index h.un) vo (L2.pa_cons L2.pe_bl L2.pa_nil) (hline := k2)) L2.pa_nil))))))))), ?_⟩
    have sz : ∀ n, n ≤ 14 → n ≤ sizeLine := fun n hn => by rw [sizeLine_eq]; omega
    refine ⟨rfl, sz _ (by simp [names1]), fun p hp => ?_⟩
    generalize hH1 : upd H p (.lst (List.map V.bl (bs1 j))) = H1
    have p1 : H1 p = some (.lst (List.map V.bl (bs1 j))) := by rw [← hH1, upd_same]
    have s1 : Sub H H1 := by rw [← hH1]; exact sub_upd hp
    have hH1' : upd H p (.lst (List.map V.bl (List.map (fun i => decide (i = j)) (List.range' 0 names1.length)))) = H1 := hH1
    rw [hH1']
    refine ⟨.ref p, rfl, .inl ⟨rfl, _, SqL.of p1⟩, rfl, sz _ (by simp [names2]), fun p2 hp2 => ?_⟩
    generalize hH2 : upd H1 p2 (.lst (List.map V.bl (bs2 j))) = H2
    have hH2' : upd H1 p2 (.lst (List.map V.bl (List.map (fun i => decide (i = j)) (List.range' 4 names2.length)))) = H2 := hH2
    rw [hH2']
    have ne2 : p ≠ p2 := fun e => by rw [e, hp2] at p1; cases p1
    have q1 : H2 p = some (.lst (List.map V.bl (bs1 j))) := by rw [← hH2, upd_ne ne2]; exact p1
    have q2 : H2 p2 = some (.lst (List.map V.bl (bs2 j))) := by rw [← hH2, upd_same]
    have s2 : Sub H H2 := by rw [← hH2]; exact s1.trans (sub_upd hp2)
    refine ⟨p, p2, _, _, rfl, rfl, q1, q2, sz _ (by simp [bs1, bs2]), ?_⟩
    rw [← List.map_append]
    generalize hH3 : upd H2 p (.lst (List.map V.bl (bs1 j ++ bs2 j))) = H3
    have p3 : H3 p = some (.lst (List.map V.bl (bs1 j ++ bs2 j))) := by rw [← hH3, upd_same]
    have s3 : Sub H H3 := fun b o e => by
      have nb : b ≠ p := fun z => by rw [z, hp] at e; cases e
      rw [← hH3, upd_ne nb]; exact s2 b o e
    refine ⟨.ref p, rfl, .inl ⟨rfl, _, SqL.of p3⟩, rfl, sz _ (by simp [names3]), fun p4 hp4 => ?_⟩
    generalize hH4 : upd H3 p4 (.lst (List.map V.bl (bs3 j))) = H4
    have hH4' : upd H3 p4 (.lst (List.map V.bl (List.map (fun i => decide (i = j)) (List.range' 8 names3.length)))) = H4 := hH4
    rw [hH4']
    have ne4 : p ≠ p4 := fun e => by rw [e, hp4] at p3; cases p3
    have r1 : H4 p = some (.lst (List.map V.bl (bs1 j ++ bs2 j))) := by rw [← hH4, upd_ne ne4]; exact p3
    have r2 : H4 p4 = some (.lst (List.map V.bl (bs3 j))) := by rw [← hH4, upd_same]
    have s4 : Sub H H4 := by rw [← hH4]; exact s3.trans (sub_upd hp4)
    refine ⟨p, p4, _, _, rfl, rfl, r1, r2, sz _ (by simp [bs1, bs2, bs3]), ?_⟩
    rw [← List.map_append]
    generalize hH5 : upd H4 p (.lst (List.map V.bl ((bs1 j ++ bs2 j) ++ bs3 j))) = H5
    have p5 : H5 p = some (.lst (List.map V.bl ((bs1 j ++ bs2 j) ++ bs3 j))) := by rw [← hH5, upd_same]
    have s5 : Sub H H5 := fun b o e => by
      have nb : b ≠ p := fun z => by rw [z, hp] at e; cases e
      rw [← hH5, upd_ne nb]; exact s4 b o e
    refine ⟨.ref p, rfl, .inl ⟨rfl, _, SqL.of p5⟩, rfl, sz _ (by simp [names4]), fun p6 hp6 => ?_⟩
    generalize hH6 : upd H5 p6 (.lst (List.map V.bl (bs4 j))) = H6
    have hH6' : upd H5 p6 (.lst (List.map V.bl (List.map (fun i => decide (i = j)) (List.range' 12 names4.length)))) = H6 := hH6
    rw [hH6']
    have ne6 : p ≠ p6 := fun e => by rw [e, hp6] at p5; cases p5
    have r3 : H6 p = some (.lst (List.map V.bl ((bs1 j ++ bs2 j) ++ bs3 j))) := by rw [← hH6, upd_ne ne6]; exact p5
    have r4 : H6 p6 = some (.lst (List.map V.bl (bs4 j))) := by rw [← hH6, upd_same]
    have s6 : Sub H H6 := by rw [← hH6]; exact s5.trans (sub_upd hp6)
    refine ⟨p, p6, _, _, rfl, rfl, r3, r4, sz _ (by simp [bs1, bs2, bs3, bs4]), ?_⟩
    rw [← List.map_append]
    generalize hH7 : upd H6 p (.lst (List.map V.bl (((bs1 j ++ bs2 j) ++ bs3 j) ++ bs4 j))) = H7
    have p7 : H7 p = some (.lst (List.map V.bl (((bs1 j ++ bs2 j) ++ bs3 j) ++ bs4 j))) := by rw [← hH7, upd_same]
    have s7 : Sub H H7 := fun b o e => by
      have nb : b ≠ p := fun z => by rw [z, hp] at e; cases e
      rw [← hH7, upd_ne nb]; exact s6 b o e
    have dp : L2.Dp X.K H7 (.ref p) (.list ((((bs1 j ++ bs2 j) ++ bs3 j) ++ bs4 j).map PyData.bool)) := .lst (SqL.of p7) (dps_bl _)
    have tyl : L2.tyV X.K "list" (.ref p) H7 := .inl ⟨rfl, _, SqL.of p7⟩
    refine ⟨.ref p, rfl, tyl, .bl true, .bool true, _, rfl, dp, .bl true, plain_bl _, rfl, by simp [PyData.depth], ?_⟩
    rw [bs_count j h.hj]
    refine ⟨rfl, false, by simp, ?_⟩
    show if false = true then _ else _
    rw [if_neg (by decide)]
    refine ⟨rfl, true, rfl, ?_⟩
    show if false = true then _ else _
    rw [if_neg (by decide)]
    refine ⟨.ref p, rfl, tyl, .bl true, .bool true, _, j, .bool true, rfl, dp, .bl true, plain_bl _, rfl, by simp [PyData.depth], bs_at j h.hj, rfl, fun m z hm hz => ?_, sz _ (by simp), fun q hq5 => ?_⟩
    · rw [List.getElem?_map, bs_not j h.hj m hm] at hz
      cases hz
      rfl
    · exact hq H7 q s7 hq5
  · cases hb
end
end G7

namespace G7
open PySem PySem.Spec PyProof.Rows
open L2 (V Hp HO St WX TE TS R2 OpR CallR MtR MtM SlR IxR Inv RelV Vals upd upd_same upd_ne ne_of_none SqL SqT Cx Room EP VK PE PT PA PI PG PGs PO PS PSs Sp XK It TI TG TGs FnOk thn Ends)
variable [WW]

def whN : List Str := [Str.ofString "e", Str.ofString "own"]
def whP : List Str := [Str.ofString "e"]
def whichD (d : He.DefD) : Bool := decide (d.at_ = (Str.ofString "_law_which", none)) && (scopeC whN whP d.scope && (argsC d.params whP && (d.dfl.isEmpty && (whichSc d.scope && whichC d.body))))
def excCB (K : PySem.W.Frag) (D : Addr) : Bool :=
  He.eqO (PySem.W.findIn K (.ref D) "__getattribute__") (some (some (.builtin "BaseException.__getattribute__"))) && (He.eqO (PySem.W.findIn K (.ref D) "__getattr__") (some none) && (decide (PySem.W.subIn K (.ref D) (.type "BaseException") = some true) && (PySem.W.hasDictIn K D &&
  (He.eqO (PySem.W.findIn K (.ref D) "__class__") (some (some (.builtin "object.__class__"))) && (He.eqO (PySem.W.specialIn K (.builtin "object.__class__") "__get__") (some (some (.builtin "getset_descriptor.__get__"))) && (decide (PySem.W.takesIn K (.builtin "object.__class__") = some true) && decide (PySem.W.mroIn K D (.type "object") = some true)))))))
theorem excCB_ok {K : PySem.W.Frag} {D : Addr} (h : excCB K D = true) : L2.ExcC K D := by
  obtain ⟨h1, h⟩ := ba h
  obtain ⟨h2, h⟩ := ba h
  obtain ⟨h3, h⟩ := ba h
  obtain ⟨h4, h⟩ := ba h
  obtain ⟨h5, h⟩ := ba h
  obtain ⟨h6, h⟩ := ba h
  obtain ⟨h7, h8⟩ := ba h
  exact ⟨He.eqO_ok h1, He.eqO_ok h2, of_decide_eq_true h3, h4, He.eqO_ok h5, He.eqO_ok h6, of_decide_eq_true h7, of_decide_eq_true h8⟩
def kitRow (K : PySem.W.Frag) (C : Value) (j : Nat) : Nat → List Str → Bool
  | _, [] => true
  | i, x :: xs => decide (PySem.W.kitOne K C (.ref (He.ga K x)) = some (decide (i = j))) && kitRow K C j (i + 1) xs
theorem kitRow_ok {K : PySem.W.Frag} {C : Value} {j : Nat} : ∀ (xs : List Str) (n i : Nat) (x : Str), kitRow K C j n xs = true → xs[i]? = some x → PySem.W.kitOne K C (.ref (He.ga K x)) = some (decide (n + i = j))
  | [], _, _, _, _, h => by simp at h
  | y :: xs, n, 0, x, h, e => by
    simp at e; subst e
    exact of_decide_eq_true (ba h).1
  | y :: xs, n, i + 1, x, h, e => by
    rw [show n + (i + 1) = n + 1 + i by omega]
    exact kitRow_ok xs (n + 1) i x (ba h).2 (by simpa using e)
def kitAll (K : PySem.W.Frag) : Nat → List Str → Bool
  | _, [] => true
  | j, x :: xs => excCB K (He.ga K x) && (decide (PySem.W.kitOne K (.ref (He.ga K x)) (.type "ValueError") = some true) && (kitRow K (.ref (He.ga K x)) j 0 whichNames && kitAll K (j + 1) xs))
theorem kitAll_ok {K : PySem.W.Frag} : ∀ (xs : List Str) (n j : Nat) (x : Str), kitAll K n xs = true → xs[j]? = some x → L2.ExcC K (He.ga K x) ∧ PySem.W.kitOne K (.ref (He.ga K x)) (.type "ValueError") = some true ∧ kitRow K (.ref (He.ga K x)) (n + j) 0 whichNames = true
  | [], _, _, _, _, h => by simp at h
  | y :: xs, n, 0, x, h, e => by
    simp at e; subst e
    obtain ⟨h1, h⟩ := ba h
    obtain ⟨h2, h⟩ := ba h
    exact ⟨excCB_ok h1, of_decide_eq_true h2, (ba h).1⟩
  | y :: xs, n, j + 1, x, h, e => by
    rw [show n + (j + 1) = n + 1 + j by omega]
    obtain ⟨h1, h⟩ := ba h
    obtain ⟨h2, h⟩ := ba h
    exact kitAll_ok xs (n + 1) j x (ba h).2 (by simpa using e)
def whichK (K : PySem.W.Frag) : Bool := kitAll K 0 whichNames
def whI : Wh := fun j => if j < 14 then some (j : Int) else none
section
variable {T : Tabs} {K : PySem.W.Frag} {mg : Str → Option Value} {P : Program} {w : World} {base : Heap}
theorem which_ok {d : He.DefD} {fd : FuncData} (hT : T.exs = whichNames) (F : L2.FunD K d.name d.qual d.params d.body d.scope (d.dvs K) (d.kws K) (He.fAd K d.at_) fd) (hd : whichD d = true) (hk : whichK K = true)
    (hm : mg "_law_which" = some (.ref (He.ga K "_law_which"))) (fi : mg "isinstance" = none) (fv : mg "ValueError" = none) (glo : ∀ x ∈ whichNames, mg x = some (.ref (He.ga K x))) (k : Nat) : WhichOk T whI P w K mg base k := by
  obtain ⟨c1, hd⟩ := ba hd
  obtain ⟨c2, hd⟩ := ba hd
  obtain ⟨c3, hd⟩ := ba hd
  obtain ⟨c4, hd⟩ := ba hd
  obtain ⟨c5, c6⟩ := ba hd
  have c1 := of_decide_eq_true c1
  have hb0 : d.dvs K = [] := by unfold He.DefD.dvs; rw [empty_of c4]; rfl
  rw [hb0, c1] at F
  have F : L2.FunD K d.name d.qual d.params d.body d.scope [] (d.kws K) (He.ga K "_law_which") fd := F
  have S := scopeC_ok c2
  obtain ⟨a1, a⟩ := ba c3
  obtain ⟨a2, a⟩ := ba a
  obtain ⟨a3, a⟩ := ba a
  obtain ⟨a4, a⟩ := ba a
  obtain ⟨a5, a6⟩ := ba a
  have hbi : L2.Binds K fd whP [] := F.bindsN fun kV doc pm an cdv ct us hl => bind_plain (empty_of a1) (of_decide_eq_true a2) (none_of a3) (empty_of a4) (none_of a5) rfl (of_decide_eq_true a6) us hl
  refine ⟨_, fd, whP, hm, F.kp, hbi, rfl, fun j kk hj A outer s H p args Q E hr hot hpin hz e0 hb hq => ?_⟩
  unfold whI at hj
  have hj11 : j < 14 := Classical.byContradiction fun hn => by rw [if_neg hn] at hj; cases hj
  rw [if_pos hj11] at hj
  cases hj
  obtain ⟨xj, hxj⟩ : ∃ x, whichNames[j]? = some x := ⟨_, List.getElem?_eq_getElem (show j < whichNames.length from hj11)⟩
  have hxc : xcOf T K j = .ref (He.ga K xj) := by unfold xcOf; rw [hT, hxj]
  rw [hxc] at hz
  obtain ⟨x1, x2, x3⟩ := kitAll_ok whichNames 0 j xj hk hxj
  rw [Nat.zero_add] at x3
  obtain ⟨oc, od, dV, kV, doc, pm, an, cdv, ct, osl, rfl, lk, hcd, _, _⟩ := F.ex
  have KX : K.In s.heap := e0.mod.kin.keeps fun b o e => (e0.bs b o e).1
  have lim : s.heap.NoLimit := e0.mod.nolimit.keeps fun b o e => (e0.bs b o e).1
  have hkind : ∀ y ∈ whP.zip [Value.ref p.1], d.scope.names.lookup y.1 = some .local ∨ (d.scope.names.lookup y.1 = some .cell ∧ ((cellsFrom (s.heap.objs.size + 1) d.scope.names []).lookup y.1).isSome = true) := fun ⟨n, v⟩ hy => by
    rcases S.par n (List.of_mem_zip hy).1 with q | q
    · exact .inl q
    · exact .inr ⟨q, PySem.W.cellsFrom_some _ _ _ (.inl q)⟩
  refine codeAny_call_function hr.depth (KX _ _ lk) rfl S.co S.gen rfl (PySem.W.codeRec_of KX hcd) (hb _ _ _ _ ?_)
  refine wpAny_newFunctionEnv_cells S.kind hkind fun env he s1 x => ?_
  subst he
  refine ⟨lim.keeps x.toInCall.keep, codeAny_func ?_⟩
  have r : Vals [V.ref p.1] [Value.ref p.1] := .cons rfl .nil
  have I := L2H.inv_startH (CX := L2N.CX P w) (E := E) S hpin e0 (vs := [V.ref p.1]) rfl r x
  obtain ⟨vs, hvs, _⟩ := hot.2
  have hW : HotW (L2H.cxH (L2N.CX P w) P w K mg base whN d.qual d.scope (He.ga K "_law_which") cdv A outer s H E p) p.1 p.2 j xj :=
    { hN := rfl, sc := c5, pn := List.mem_cons_self, hz := hz.zc, hf := ⟨vs, hvs⟩, fi := fi, fv := fv, glo := fun i x hx => glo x (List.mem_of_getElem? hx), exC := x1,
      kit := fun i x hx => by
        have := kitRow_ok whichNames 0 i x x3 hx
        rw [Nat.zero_add] at this
        exact this
      kv := x2, un := by have := hr.un; show A.units + 3 + 64 < cLine; omega, hj := hj11 }
  obtain ⟨t, ht, hqt⟩ := which_body hW c6 hq
  refine wpAny_mono (ht.run [] s1 _ H _ I hqt) (fun fl s' hs => ?_) fun e s' hs => hs
  have fin : ∀ {σ' : L2.St} {H' : Hp} {v : V} {u : Value}, Inv (L2H.cxH (L2N.CX P w) P w K mg base whN d.qual d.scope (He.ga K "_law_which") cdv A outer s H E p) [] σ' H' s' → RelV v u → Q v H' → L2.CE outer P w H s Q u s' :=
    fun {σ' H' v u} J rv q => ⟨v, H', J.os, J.bare, J.base, J.hok, rv, q⟩
  cases fl with
  | ret u =>
    obtain ⟨v, σ', H', J, rv, q⟩ := hs
    exact fin J rv q
  | next =>
    obtain ⟨σ', H', J, q⟩ := hs
    exact fin (v := V.non) (u := Value.none) J rfl q
  | brk =>
    obtain ⟨_, _, _, q⟩ := hs
    exact False.elim q
  | cont =>
    obtain ⟨_, _, _, q⟩ := hs
    exact False.elim q
end
end G7

namespace G7
open PySem PySem.Spec PyProof.Rows
open L2 (V Hp HO WX TE TS R2 OpR CallR MtR MtM SlR IxR Inv RelV Vals upd upd_same upd_ne ne_of_none SqL SqT Cx Room EP VK PE PT PA PI PG PGs PO PS PSs Sp XK It TI TG TGs FnOk thn Ends)
variable [WW]

def gloF (fe : FE) : Option He.Fa := match fe.at_.2 with
  | none => some (.glo fe.at_.1)
  | some _ => none
def methF (fe : FE) : Option He.Fa := match fe.at_.2 with
  | none => none
  | some m => if m = Str.ofString "__init__" then none else some (.meth fe.at_.1 m)
def conF : Str × P → Option He.Fa
  | (x, .int i) => some (.int x i)
  | (x, .str z) => some (.str x z)
  | _ => none
def conOk (q : Str × P) : Bool := match q.2 with
  | .int _ => true
  | .str _ => true
  | _ => false
def faOf0 (T : Tabs) : List He.Fa := T.fns.filterMap gloF ++ (T.frees.map .free ++ (T.cons.filterMap conF ++ (T.exs.map .glo ++ (T.exs.map .exc ++ ((if T.fall then .glo (Str.ofString "FallError") :: T.exs.map (fun x => .exm x (Str.ofString "FallError") true) else []) ++ ((if T.which then [.glo (Str.ofString "_law_which")] else []) ++ (if T.cls then .glo (Str.ofString "House") :: .cls (Str.ofString "House") :: .mkr (Str.ofString "House") :: (T.fields.map (.noat (Str.ofString "House")) ++ T.fns.filterMap methF) else [])))))))
def faOf (T : Tabs) : List He.Fa := faOf0 T ++ T.dts.map fun q => .glo q.1
/-- the module's tables -/
def tabsOf (T : Tabs) : List He.Tab := T.dts.map fun q => (fun K => He.ga K q.1, q.2.map (·.1))
def dvI (kvs : List (Str × Int)) : List (Str × He.Dv) := kvs.map fun q => (q.1, He.Dv.int q.2)
def tabB (T : Tabs) (K : PySem.W.Frag) : Bool := T.dts.all fun q => He.valsB K (He.ga K q.1) (dvI q.2)
theorem look_mem {x : Str} {i : Int} : ∀ {kvs : List (Str × Int)}, kvs.lookup x = some i → (x, i) ∈ kvs
  | [], h => by cases h
  | (y, j) :: r, h => by
    rw [List.lookup_cons] at h
    split at h
    · rename_i e
      cases h
      rw [eq_of_beq e]
      exact List.mem_cons_self
    · exact List.mem_cons_of_mem _ (look_mem h)
theorem look_none {x : Str} : ∀ {kvs : List (Str × Int)}, kvs.lookup x = none → ∀ k ∈ kvs.map (·.1), (k == x) = false
  | [], _, k, hk => by cases hk
  | (y, j) :: r, h, k, hk => by
    rw [List.lookup_cons] at h
    split at h
    · cases h
    · rename_i e
      rcases List.mem_cons.mp hk with hk | hk
      · rw [show k = y from hk]
        cases q : (y == x) with
        | false => rfl
        | true =>
          rw [show x = y from (eq_of_beq q).symm] at e
          simp at e
      · exact look_none h k hk
theorem dicW_find {K : PySem.W.Frag} {P : Params} {dd : Addr} {ks : List Str} {z : Str} (h : He.dicW K dd = some (He.keysIn P ks)) (hz : ∀ k ∈ ks, (k == z) = false) : PySem.W.nsIn K dd z = some none := by
  unfold He.dicW at h
  unfold PySem.W.nsIn
  cases q : K.lookup dd with
  | none => rw [q] at h; cases h
  | some o =>
    obtain ⟨oc, od, dt, osl⟩ := o
    rw [q] at h
    cases oc with
    | type c =>
      cases od with
      | none =>
        cases dt with
        | dict es n =>
          have h1 : (match decide (c = "dict") && (osl.isEmpty && !(dd == sysModules)) with
            | true => some (es.toList.map He.keyOf)
            | false => none) = some (He.keysIn P ks) := h
          split at h1
          · have hk := Option.some.inj h1
            have all : ∀ e ∈ es.toList, ∃ k t, k ∈ ks ∧ e.key = .str k t := fun e he => by
              have hm : He.keyOf e ∈ He.keysIn P ks := by rw [← hk]; exact List.mem_map.mpr ⟨e, he, rfl⟩
              obtain ⟨k, hk1, hk2⟩ := List.mem_map.mp hm
              unfold He.keyOf at hk2
              split at hk2
              · rename_i x t e2
                have := (Prod.mk.inj (Option.some.inj hk2)).1
                exact ⟨k, t, hk1, by rw [e2, this]⟩
              · cases hk2
            have f1 : es.toList.find? (·.key.isStr z) = none := List.find?_eq_none.mpr fun e he => by
              obtain ⟨k, t, hk1, hk2⟩ := all e he
              rw [hk2]
              have := hz k hk1
              simp only [Value.isStr, this]
              exact Bool.false_ne_true
            have f2 : es.toList.any (·.refKey) = false := List.any_eq_false.mpr fun e he => by
              obtain ⟨k, t, hk1, hk2⟩ := all e he
              simp [DictEntry.refKey, hk2]
            show (match es.toList.find? (·.key.isStr z) with
              | some e => some (some e.val)
              | none => if es.toList.any (·.refKey) then none else some none) = some none
            rw [f1]
            simp [f2]
          · cases h1
        | _ => cases h
      | some b => cases dt <;> cases h
    | _ => cases od <;> cases dt <;> cases h
section
variable {T : Tabs} {Wh : Wh} {fn fnX : List He.DefD} {tab : List Fd} {Ns : List (List Str)} {K : PySem.W.Frag} {mg : Str → Option Value} {P : Program} {w : World} {base h : Heap}
theorem mCls (hc : T.cls = true) : ∀ f, f ∈ (He.Fa.glo (Str.ofString "House") :: He.Fa.cls (Str.ofString "House") :: He.Fa.mkr (Str.ofString "House") :: (T.fields.map (He.Fa.noat (Str.ofString "House")) ++ T.fns.filterMap methF)) → f ∈ faOf0 T := fun f hm =>
  List.mem_append_right _ (List.mem_append_right _ (List.mem_append_right _ (List.mem_append_right _ (List.mem_append_right _ (List.mem_append_right _ (List.mem_append_right _ (by rw [if_pos hc]; exact hm)))))))
theorem facts_of (X : K.In h) (G : h.Ns mainGlobals mg) (c' : He.SaysD (faOf T) fnX K) (htb : ∀ q ∈ T.dts, TabOk K mg q) (hfn : ∀ d ∈ fn, d ∈ fnX) (ck : ckAll T fn T.fns tab Ns = true) (hc : T.cons.all conOk = true) (hWh : ∀ (j : Nat) (kk : Int), Wh j = some kk → ∃ x, T.exs[j]? = some x) : Facts T Wh fn tab Ns K mg where
  free := fun x hx => He.free_ok X G (c'.facts (List.mem_append_left _ (List.mem_append_right _ (List.mem_append_left _ (List.mem_map.mpr ⟨x, hx, rfl⟩)))))
  con := fun q hq => by
    have ho := List.all_eq_true.mp hc q hq
    obtain ⟨x, a⟩ := q
    have m : ∀ f, conF (x, a) = some f → f ∈ faOf0 T := fun f e => List.mem_append_right _ (List.mem_append_right _ (List.mem_append_left _ (List.mem_filterMap.mpr ⟨_, hq, e⟩)))
    cases a with
    | int i =>
      obtain ⟨t, e⟩ := He.int_ok X G (c'.facts (List.mem_append_left _ (m _ rfl)))
      exact ⟨_, .int i, e, ⟨t, rfl⟩, .int i⟩
    | str z =>
      obtain ⟨t, e⟩ := He.str_ok X G (c'.facts (List.mem_append_left _ (m _ rfl)))
      exact ⟨_, .str z, e, ⟨t, rfl⟩, .str z⟩
    | _ => cases ho
  glo := fun fe hfe hn => by
    have e : gloF fe = some (.glo fe.at_.1) := by unfold gloF; rw [hn]
    have := He.glo_ok X G (c'.facts (List.mem_append_left _ (List.mem_append_left _ (List.mem_filterMap.mpr ⟨fe, hfe, e⟩))))
    rw [this]
    unfold He.fAd
    rw [hn]
  exc := fun j x hx => by
    have hm := List.mem_of_getElem? hx
    have m1 : He.Fa.glo x ∈ faOf0 T := List.mem_append_right _ (List.mem_append_right _ (List.mem_append_right _ (List.mem_append_left _ (List.mem_map.mpr ⟨x, hm, rfl⟩))))
    have m2 : He.Fa.exc x ∈ faOf0 T := List.mem_append_right _ (List.mem_append_right _ (List.mem_append_right _ (List.mem_append_right _ (List.mem_append_left _ (List.mem_map.mpr ⟨x, hm, rfl⟩)))))
    obtain ⟨e1, e2, e3, e4⟩ := He.exc_ok (c'.facts (List.mem_append_left _ m2))
    exact ⟨e1, He.glo_ok X G (c'.facts (List.mem_append_left _ m1)), e2, e3, e4⟩
  fal := fun hf => by
    have m0 : ∀ f, f ∈ (He.Fa.glo (Str.ofString "FallError") :: T.exs.map (fun x => He.Fa.exm x (Str.ofString "FallError") true)) → f ∈ faOf0 T := fun f hm =>
      List.mem_append_right _ (List.mem_append_right _ (List.mem_append_right _ (List.mem_append_right _ (List.mem_append_right _ (List.mem_append_left _ (by rw [if_pos hf]; exact hm))))))
    refine ⟨_, He.glo_ok X G (c'.facts (List.mem_append_left _ (m0 _ List.mem_cons_self))), fun j kk hj => ?_⟩
    obtain ⟨x, hx⟩ := hWh j kk hj
    have e : xcOf T K j = .ref (He.ga K x) := by unfold xcOf; rw [hx]
    rw [e]
    exact He.exm_ok (c'.facts (List.mem_append_left _ (m0 _ (List.mem_cons_of_mem _ (List.mem_map.mpr ⟨x, List.mem_of_getElem? hx, rfl⟩)))))
  fun_ := fun d hd => c'.defs (hfn d hd)
  ck := ck
  cls := fun hc => ⟨He.cls_ok (c'.facts (List.mem_append_left _ (mCls hc _ (List.mem_cons_of_mem _ List.mem_cons_self)))), He.glo_ok X G (c'.facts (List.mem_append_left _ (mCls hc _ List.mem_cons_self)))⟩
  tab := htb
  noat := fun hc x hx => He.noat_ok (c'.facts (List.mem_append_left _ (mCls hc _ (List.mem_cons_of_mem _ (List.mem_cons_of_mem _ (List.mem_cons_of_mem _ (List.mem_append_left _ (List.mem_map.mpr ⟨x, hx, rfl⟩))))))))
  mth := fun hc fe hfe m hat => by
    refine ⟨fun hn => ?_, fun hn => ?_⟩
    · have e : methF fe = some (.meth (Str.ofString "House") m) := by unfold methF; rw [hat]; exact if_neg hn
      have := He.meth_ok (c'.facts (List.mem_append_left _ (mCls hc _ (List.mem_cons_of_mem _ (List.mem_cons_of_mem _ (List.mem_cons_of_mem _ (List.mem_append_right _ (List.mem_filterMap.mpr ⟨fe, hfe, e⟩))))))))
      rw [hat]; exact this
    · have := He.mkr_ok (c'.facts (List.mem_append_left _ (mCls hc _ (List.mem_cons_of_mem _ (List.mem_cons_of_mem _ List.mem_cons_self)))))
      rw [hat, hn]; exact this
theorem to0 {k : Nat} {f : Addr} {fd : FuncData} {ps : List Str} {sp : Sp} (h : FnOk P w K mg base (L2N.CX P w) k f fd ps sp) : FnOk P w K mg base L2.CX0 k f fd ps (fun vs H Q _ => sp vs H Q (fun _ _ _ => False)) := by
  refine ⟨fun vs H Q E hs => h.len vs H Q _ hs, fun A outer s H args us vs Q E hr e0 hb r hs => ?_⟩
  refine codeAny_mono (h.run A outer s H args us vs Q _ hr e0 hb r hs) fun r s' hq => ?_
  cases r with
  | error e =>
    obtain ⟨_, _, _, _, _, _, _, _, _, _, _, _, z⟩ := hq
    exact z.elim
  | ok fl => cases fl <;> exact hq
end
/-- the law's own data -/
structure Row where
  T : Tabs
  fn : List He.DefD
  tab : List Fd
  Ns : List (List Str)
  wd : List He.DefD
  lawIx : Nat
def Row.fnX (r : Row) : List He.DefD := r.fn ++ r.wd
def Row.exB (r : Row) : PySem.W.Frag → Bool := fun K => (if r.T.which then whichK K else true) && tabB r.T K
def Row.wh (r : Row) : Wh := if r.T.which then whI else fun j => if j < r.T.exs.length then some 0 else none
def lawFE : FE := ⟨(Str.ofString "law", none), [Str.ofString "script"]⟩
def sameFE (a b : FE) : Bool := decide (a.at_ = b.at_) && decide (a.ps = b.ps)
def isLaw (r : Row) : Bool := match r.T.fns[r.lawIx]? with
  | some fe => sameFE fe lawFE
  | none => false
/-- all that the kernel is to see -/
def Row.ok (r : Row) : Bool := ckAll r.T r.fn r.T.fns r.tab r.Ns && (r.T.cons.all conOk && (isLaw r && (if r.T.which then decide (r.T.exs = whichNames) && (r.T.frees.any (fun x => decide (x = Str.ofString "isinstance")) && (r.T.frees.any (fun x => decide (x = Str.ofString "ValueError")) && (match r.wd with
  | [d] => whichD d
  | _ => false))) else true)))
section
variable {P : Program}
theorem law_F0 (r : Row) {k n : Nat} (hok : r.ok = true) (hlaw : ∀ xs : List Int, xs.length ≤ n → ∃ s, run r.tab r.wh k r.lawIx [.scr xs] ⟨[], []⟩ = .ok (.p (.bl true)) s) (w : World) (mg : Str → Option Value) (fa : Addr) (h : Heap)
    (Y : ∃ K : PySem.W.Frag, K.In h ∧ He.SaysX (faOf r.T) r.fnX (tabsOf r.T) [] r.exB w h K) (G : h.Ns mainGlobals mg) (hmg : mg (Str.ofString "law") = some (.ref fa)) (hww : WW.w = w) :
    ∃ (K : PySem.W.Frag) (fd : FuncData) (sp : Sp), K.In h ∧ (∀ (s : Shared) (u : Value), BindsTo s fd ⟨[u], []⟩ [(Str.ofString "script", u)]) ∧
        (∀ (H : Hp) (a : Addr) (ns : List Int), ns.length ≤ n → L2.Only H → SqL K H a (ns.map V.int) → sp [.ref a] H (fun v _ => v = .bl true) fun _ _ _ => False) ∧
        ∀ base : Heap, K.In base → base.Ns mainGlobals mg → FnOk P w K mg base L2.CX0 (2 * k) fa fd [Str.ofString "script"] sp := by
  obtain ⟨K, KX, c⟩ := Y
  obtain ⟨o1, hok⟩ := ba hok
  obtain ⟨o2, hok⟩ := ba hok
  obtain ⟨o3, o4⟩ := ba hok
  have cd : He.SaysD (faOf r.T) r.fnX K := c.t.d
  have hWh : ∀ (j : Nat) (kk : Int), r.wh j = some kk → ∃ x, r.T.exs[j]? = some x := fun j kk hj => by
    unfold Row.wh at hj
    by_cases hw : r.T.which = true
    · rw [if_pos hw] at hj o4
      unfold whI at hj
      have e := of_decide_eq_true (ba o4).1
      have hj11 : j < 14 := Classical.byContradiction fun hn => by rw [if_neg hn] at hj; cases hj
      rw [e]
      exact ⟨_, List.getElem?_eq_getElem (show j < whichNames.length from hj11)⟩
    · rw [if_neg hw] at hj
      have hjl : j < r.T.exs.length := Classical.byContradiction fun hn => by rw [if_neg hn] at hj; cases hj
      exact ⟨_, List.getElem?_eq_getElem hjl⟩
  obtain ⟨mo1, mo2⟩ := ba (show ((if r.T.which then whichK K else true) && tabB r.T K) = true from c.more)
  have htb : ∀ q ∈ r.T.dts, TabOk K mg q := fun q hq => by
    obtain ⟨i, hi, e⟩ := List.mem_iff_getElem.mp hq
    have ei : (tabsOf r.T)[i]? = some (fun K => He.ga K q.1, q.2.map (·.1)) := by
      unfold tabsOf
      rw [List.getElem?_map, List.getElem?_eq_getElem hi, e]
      rfl
    obtain ⟨es, n, D⟩ := c.t.tab i ei
    have hd : He.dicW K (He.ga K q.1) = some (He.keysIn w.params (q.2.map (·.1))) := by
      have e1 : (tabsOf r.T).map (fun t => He.dicW K (t.1 K)) = (tabsOf r.T).map fun t => some (He.keysIn w.params t.2) := congrArg (fun z : He.AlT => z.2) c.t
      have e2 : ((tabsOf r.T).map fun t => He.dicW K (t.1 K))[i]? = ((tabsOf r.T).map fun t => some (He.keysIn w.params t.2))[i]? := by rw [e1]
      rw [List.getElem?_map, List.getElem?_map, ei] at e2
      exact Option.some.inj e2
    have gm : He.Fa.glo q.1 ∈ faOf r.T := List.mem_append_right _ (List.mem_map.mpr ⟨q, hq, rfl⟩)
    refine ⟨_, es, n, He.glo_ok KX G (cd.facts gm), by rw [hww]; exact D, fun z => ?_⟩
    cases hl : q.2.lookup z with
    | some i =>
      have hm := look_mem hl
      have hv := List.all_eq_true.mp mo2 q hq
      obtain ⟨u, hu, ru⟩ := He.valsB_ok hv (q := (z, .int i)) (List.mem_map.mpr ⟨(z, i), hm, rfl⟩)
      obtain ⟨t, rfl⟩ := ru
      exact ⟨t, hu⟩
    | none => exact dicW_find hd (look_none hl)
  have Fc : Facts r.T r.wh r.fn r.tab r.Ns K mg := facts_of KX G cd htb (fun d hd => List.mem_append_left _ hd) o1 o2 hWh
  have hWk : ∀ base : Heap, r.T.which = true → ∀ k, WhichOk r.T r.wh P w K mg base k := fun base hw k => by
    rw [if_pos hw] at o4
    obtain ⟨w1, o4⟩ := ba o4
    obtain ⟨w2, o4⟩ := ba o4
    obtain ⟨w3, w4⟩ := ba o4
    have ew : r.wh = whI := by unfold Row.wh; rw [if_pos hw]
    rw [ew]
    obtain ⟨y2, m2, e2⟩ := List.any_eq_true.mp w2
    obtain ⟨y3, m3, e3⟩ := List.any_eq_true.mp w3
    rw [of_decide_eq_true e2] at m2
    rw [of_decide_eq_true e3] at m3
    split at w4
    · rename_i d hwd
      obtain ⟨fd, F⟩ := cd.defs (d := d) (List.mem_append_right _ (by rw [hwd]; exact List.mem_cons_self))
      have hk : whichK K = true := by
        rw [if_pos hw] at mo1
        exact mo1
      have mw : He.Fa.glo (Str.ofString "_law_which") ∈ faOf r.T := List.mem_append_left _ (List.mem_append_right _ (List.mem_append_right _ (List.mem_append_right _ (List.mem_append_right _ (List.mem_append_right _ (List.mem_append_right _ (List.mem_append_left _ (by rw [if_pos hw]; exact List.mem_cons_self))))))))
      refine which_ok (of_decide_eq_true w1) F w4 hk (He.glo_ok KX G (cd.facts mw)) (Fc.free _ m2) (Fc.free _ m3) (fun x hx => ?_) k
      rw [← of_decide_eq_true w1] at hx
      obtain ⟨j, hj, e⟩ := List.mem_iff_getElem.mp hx
      exact (Fc.exc j x (List.getElem?_eq_some_iff.mpr ⟨hj, e⟩)).2.1
    · cases w4
  unfold isLaw at o3
  split at o3
  · rename_i fe hfe
    obtain ⟨l1, l2⟩ := ba o3
    have l1 := of_decide_eq_true l1
    have l2 := of_decide_eq_true l2
    have l1 : fe.at_ = (Str.ofString "law", none) := l1
    have l2 : fe.ps = [Str.ofString "script"] := l2
    obtain ⟨d, fdr, N, fd, o⟩ := Fc.one hfe
    obtain ⟨b1, b2, b3⟩ := o.binds
    have hfa : He.fAd K fe.at_ = fa := by
      have e := Fc.glo fe (List.mem_of_getElem? hfe) (by rw [l1])
      rw [show fe.at_.1 = Str.ofString "law" by rw [l1], hmg] at e
      have e := Option.some.inj e
      exact (Value.ref.inj e).symm
    refine ⟨K, fd, (fun vs H Q _ => spD K (xcOf r.T K) (run r.tab r.wh k r.lawIx) 1 vs H Q (fun _ _ _ => False)), KX, fun s u => ?_, fun H a ns hl _ hS => ?_, fun base hK hN => ?_⟩
    · have b := b3 s [u] (by rw [l2]; rfl)
      rw [l2] at b
      exact b
    · obtain ⟨s', e⟩ := hlaw ns hl
      refine ⟨rfl, H, ⟨[], [], He.ga K (Str.ofString "House"), ⟨fun _ => none, fun _ => []⟩⟩, ⟨[], []⟩, [.scr ns], rfl, ⟨Sub.refl H, rfl, rfl, List.nodup_nil, fun a ha => (nomatch ha), fun i o a e => (by simp at e), fun i o a e => (by simp at e), fun b hb => absurd rfl hb, fun b q k hb => (nomatch hb)⟩, .cons (.scr hS) .nil, ?_⟩
      rw [e]
      intro F' H' ρ' e' st' v hv
      exact hv.bl
    · have D := defs_ok (P := P) (w := w) (base := base) hww Fc (hWk base) k r.lawIx fe d fdr N fd o
      rw [hfa, l2] at D
      exact to0 D
  · cases o3
omit [WW] in
theorem law_F (r : Row) {k n : Nat} (hok : r.ok = true) (hlaw : ∀ xs : List Int, xs.length ≤ n → ∃ s, run r.tab r.wh k r.lawIx [.scr xs] ⟨[], []⟩ = .ok (.p (.bl true)) s) (w : World) (mg : Str → Option Value) (fa : Addr) (h : Heap)
    (Y : ∃ K : PySem.W.Frag, K.In h ∧ He.SaysX (faOf r.T) r.fnX (tabsOf r.T) [] r.exB w h K) (G : h.Ns mainGlobals mg) (hmg : mg (Str.ofString "law") = some (.ref fa)) :
    ∃ (K : PySem.W.Frag) (fd : FuncData) (sp : Sp), K.In h ∧ (∀ (s : Shared) (u : Value), BindsTo s fd ⟨[u], []⟩ [(Str.ofString "script", u)]) ∧
        (∀ (H : Hp) (a : Addr) (ns : List Int), ns.length ≤ n → L2.Only H → SqL K H a (ns.map V.int) → sp [.ref a] H (fun v _ => v = .bl true) fun _ _ _ => False) ∧
        ∀ base : Heap, K.In base → base.Ns mainGlobals mg → FnOk P w K mg base L2.CX0 (2 * k) fa fd [Str.ofString "script"] sp :=
  @law_F0 ⟨w⟩ P r k n hok hlaw w mg fa h Y G hmg rfl
end
end G7

/-! the evaluator, in equations for simp -/
namespace G7
open PySem
def D.cond {α : Type} (d : D) (x y : α) (z : α) : α := match d with
  | .p (.bl true) => x
  | .p (.bl false) => y
  | _ => z
@[simp] theorem cond_bl {α : Type} (b : Bool) (x y z : α) : (D.p (.bl b)).cond x y z = if b = true then x else y := by cases b <;> rfl
theorem cond_t {α : Type} (x y z : α) : (D.p (.bl true)).cond x y z = x := rfl
theorem cond_f {α : Type} (x y z : α) : (D.p (.bl false)).cond x y z = y := rfl
section
variable {F : Fns} {W : Wh} {σ : Sl} {s : Sto}
theorem e_var (i : Nat) {d : D} (h : σ[i]? = some (some d)) : ev F (.var i) σ s = .ok d s := by rw [ev, h]
@[simp] theorem e_con (a : P) : ev F (.con a) σ s = .ok (.p a) s := by rw [ev]
@[simp] theorem e_glb (x : Str) (a : P) : ev F (.glb x a) σ s = .ok (.p a) s := by rw [ev]
@[simp] theorem e_tup (es : Es) : ev F (.tup es) σ s = (evs F es σ s).bind fun ds s => .ok (mkTup ds) s := by rw [ev]
@[simp] theorem e_fz (l : L) : ev F (.fz l) σ s = (evL F l σ s).bind fun xs s => .ok (.p (.lst xs)) s := by rw [ev]
@[simp] theorem e_own (l : L) : ev F (.own l) σ s = (evL F l σ s).bind fun xs s => .ok (.tmp s.t.length) (s.pushT (.lst xs)) := by rw [ev]
/-- two data -/
def binD (op : Operator) (d e : D) (s : Sto) : R D := match s.get d, s.get e with
  | some x, some y => R.of ((binP op x y).map .p) s
  | _, _ => .bad
@[simp] theorem e_bin (op : Operator) (a b : E) : ev F (.bin op a b) σ s = (ev F a σ s).bind fun d s => (ev F b σ s).bind fun e s => binD op d e s := by rw [ev]; rfl
def negD (d : D) (s : Sto) : R D := match d with
    | .p (.int i) => .ok (.p (.int (-i))) s
    | _ => .bad
@[simp] theorem e_neg (a : E) : ev F (.neg a) σ s = (ev F a σ s).bind fun d s => negD d s := by rw [ev]; rfl
@[simp] theorem e_cmp (op : CmpOp) (a b : E) : ev F (.cmp op a b) σ s = (ev F a σ s).bind fun d s => (ev F b σ s).bind fun e s => cmpD op d e s := by rw [ev]
@[simp] theorem e_chain (o1 o2 : CmpOp) (a b c : E) : ev F (.chain o1 o2 a b c) σ s = (ev F a σ s).bind fun d s => (ev F b σ s).bind fun e s => (cmpD o1 d e s).bind fun k s => k.cond ((ev F c σ s).bind fun f s => cmpD o2 e f s) (.ok (.p (.bl false)) s) .bad := by
  rw [ev]; rfl
def notD (d : D) (s : Sto) : R D := match d with
    | .p (.bl b) => .ok (.p (.bl (!b))) s
    | _ => .bad
@[simp] theorem e_not (a : E) : ev F (.not a) σ s = (ev F a σ s).bind fun d s => notD d s := by rw [ev]; rfl
@[simp] theorem e_ite (c a b : E) : ev F (.ite c a b) σ s = (ev F c σ s).bind fun d s => d.cond (ev F a σ s) (ev F b σ s) .bad := by rw [ev]; rfl
@[simp] theorem e_and1 (a : E) : ev F (.and (.cons a .nil)) σ s = ev F a σ s := by
  rw [ev, evAnd]; cases ev F a σ s <;> rfl
@[simp] theorem e_and (a b : E) (es : Es) : ev F (.and (.cons a (.cons b es))) σ s = (ev F a σ s).bind fun d s => d.cond (ev F (.and (.cons b es)) σ s) (.ok (.p (.bl false)) s) .bad := by
  rw [ev, evAnd]
  congr 1
@[simp] theorem e_or1 (a : E) : ev F (.or (.cons a .nil)) σ s = ev F a σ s := by
  rw [ev, evOr]; cases ev F a σ s <;> rfl
@[simp] theorem e_or (a b : E) (es : Es) : ev F (.or (.cons a (.cons b es))) σ s = (ev F a σ s).bind fun d s => d.cond (.ok (.p (.bl true)) s) (ev F (.or (.cons b es)) σ s) .bad := by
  rw [ev, evOr]
  congr 1
  funext d s
  rw [ev]
  cases d with
  | p a => cases a with
    | bl b => cases b <;> rfl
    | _ => rfl
  | _ => rfl
@[simp] theorem e_idx (a i : E) : ev F (.idx a i) σ s = (ev F a σ s).bind fun d s => (ev F i σ s).bind fun e s => idxD d e s := by rw [ev]
def slcD (d : D) (l h : Option Int) (s : Sto) : R D := match s.get d with
  | some x => R.of ((slcP x l h).map .p) s
  | none => .bad
@[simp] theorem e_slc (a : E) (lo hi : Eo) : ev F (.slc a lo hi) σ s = (ev F a σ s).bind fun d s => (evo F lo σ s).bind fun l s => (evo F hi σ s).bind fun h s => slcD d l h s := by rw [ev]; rfl
@[simp] theorem e_on : evo F .none σ s = .ok none s := by rw [evo]
def intD (d : D) (s : Sto) : R (Option Int) := match d with
  | .p (.int i) => .ok (some i) s
  | _ => .bad
@[simp] theorem e_os (e : E) : evo F (.some e) σ s = (ev F e σ s).bind fun d s => intD d s := by rw [evo]; rfl
@[simp] theorem e_call (f : Nat) (es : Es) : ev F (.call f es) σ s = (evs F es σ s).bind fun ds s => F f ds s := by rw [ev]
def isiD (t : Ty) (d : D) (s : Sto) : R D := R.of ((isTy s t d).map fun b => .p (.bl b)) s
@[simp] theorem e_isi (a : E) (t : Ty) : ev F (.isi a t) σ s = (ev F a σ s).bind fun d s => isiD t d s := by rw [ev]; rfl
@[simp] theorem e_b1 (f : B1) (a : E) : ev F (.b1 f a) σ s = (ev F a σ s).bind fun d s => b1D f d s := by rw [ev]
def b2D (f : B2) (d e : D) (s : Sto) : R D := match d, e with
  | .p x, .p y => R.of ((b2P f x y).map .p) s
  | _, _ => .bad
@[simp] theorem e_b2 (f : B2) (a b : E) : ev F (.b2 f a b) σ s = (ev F a σ s).bind fun d s => (ev F b σ s).bind fun e s => b2D f d e s := by rw [ev]; rfl
def m1D (f : M1) (x : Str) (e : D) (s : Sto) : R D := match s.get e with
  | some y => R.of ((m1P f (.str x) y).map .p) s
  | _ => .bad
def strD {α : Type} (d : D) (f : Str → R α) : R α := match d with
  | .p (.str x) => f x
  | _ => .bad
@[simp] theorem strD_str {α : Type} (x : Str) (f : Str → R α) : strD (.p (.str x)) f = f x := rfl
@[simp] theorem e_m1 (f : M1) (a b : E) : ev F (.m1 f a b) σ s = (ev F a σ s).bind fun d s => strD d fun x => (ev F b σ s).bind fun e s => m1D f x e s := by rw [ev]; rfl
def jrD (sep y z : Str) (d : D) (s : Sto) : R D := match s.get d with
    | some (.lst ys) => (match allStr ys with
      | some zs => if joinFits sep zs then .ok (.p (.str (Txt.replace (Txt.join sep zs) y z))) s else .bad
      | none => .bad)
    | _ => .bad
@[simp] theorem e_jr (sep y z : Str) (a : E) : ev F (.jr sep a y z) σ s = (ev F a σ s).bind fun d s => jrD sep y z d s := by rw [ev]; rfl
def isLstD (d : D) (s : Sto) : Bool := match s.get d with
  | some (.lst _) => true
  | _ => false
@[simp] theorem e_app (a b : E) : ev F (.app a b) σ s = (ev F a σ s).bind fun d s => if isLstD d s = true then (ev F b σ s).bind fun e s => appD d e s else .bad := by
  rw [ev]; congr 1; funext d s
  unfold isLstD
  cases s.get d with
  | none => rfl
  | some x => cases x <;> rfl
@[simp] theorem e_pop (a b : E) : ev F (.pop a b) σ s = (ev F a σ s).bind fun d s => if isLstD d s = true then (ev F b σ s).bind fun e s => popD d e s else .bad := by
  rw [ev]; congr 1; funext d s
  unfold isLstD
  cases s.get d with
  | none => rfl
  | some x => cases x <;> rfl
@[simp] theorem e_ext (a b : E) : ev F (.ext a b) σ s = (ev F a σ s).bind fun d s => if isLstD d s = true then (ev F b σ s).bind fun e s => extD d e s else .bad := by
  rw [ev]; congr 1; funext d s
  unfold isLstD
  cases s.get d with
  | none => rfl
  | some x => cases x <;> rfl
@[simp] theorem e_nev : ev F .nev σ s = .bad := by rw [ev]
@[simp] theorem e_fld (a : E) (x : Str) : ev F (.fld a x) σ s = (ev F a σ s).bind fun d s => fldD d x s := by rw [ev]
/-- a method's receiver -/
def recvD (d : D) (m : Str) (s : Sto) (f : R D) : R D := match s.ins d with
  | some fs => if (fs.lookup m).isNone then f else .bad
  | none => .bad
@[simp] theorem e_meth (f : Nat) (m : Str) (a : E) (es : Es) : ev F (.meth f m a es) σ s = (ev F a σ s).bind fun d s => recvD d m s ((evs F es σ s).bind fun ds s => F f (d :: ds) s) := by rw [ev]; rfl
def madeD (n : Nat) (r : D) (s : Sto) : R D := match r with
  | .p .non => .ok (.ref n) s
  | _ => .bad
@[simp] theorem madeD_non (n : Nat) : madeD n (.p .non) s = .ok (.ref n) s := rfl
@[simp] theorem e_make (f : Nat) (es : Es) : ev F (.make f es) σ s = (evs F es σ s).bind fun ds s => (F f (.ref s.m.length :: ds) (s.pushM (.ins []))).bind fun r s' => madeD s.m.length r s' := by rw [ev]; rfl
@[simp] theorem e_ownD : ev F .ownD σ s = .ok (.tmp s.t.length) (s.pushT (.dct [])) := by rw [ev]
@[simp] theorem e_permD : ev F .permD σ s = .ok (.ref s.m.length) (s.pushM (.dct [])) := by rw [ev]
@[simp] theorem e_perm (l : L) : ev F (.perm l) σ s = (evL F l σ s).bind fun xs s => .ok (.ref s.m.length) (s.pushM (.lst xs)) := by rw [ev]
@[simp] theorem e_dix (a b : E) : ev F (.dix a b) σ s = (ev F a σ s).bind fun d s => (ev F b σ s).bind fun e s => dixD d e s := by rw [ev]
@[simp] theorem e_ftab (fs : List Nat) (a : E) (es : Es) : ev F (.ftab fs a es) σ s = (ev F a σ s).bind fun d s => (tabF fs d s).bind fun f s => (evs F es σ s).bind fun ds s => F f ds s := by rw [ev]
@[simp] theorem e_b1k (f : B1) (i : Nat) (l : L) : ev F (.b1k f i l) σ s = (lockL i (fun σ s => evL F l σ s) σ s).bind fun xs s => b1D f (.p (.lst xs)) s := by rw [ev]
@[simp] theorem e_dlen (a : E) : ev F (.dlen a) σ s = (ev F a σ s).bind fun d s => dlenD d s := by rw [ev]
def addL (d e : D) (s : Sto) : R (List P) := match s.get d, s.get e with
  | some (.lst xs), some (.lst ys) => if xs.length + ys.length ≤ sizeLine then .ok (xs ++ ys) s else .bad
  | _, _ => .bad
@[simp] theorem l_addL (a b : E) : evL F (.add a b) σ s = (ev F a σ s).bind fun d s => (ev F b σ s).bind fun e s => addL d e s := by rw [evL]; rfl
def lodD (d : D) (s : Sto) : R (List P) := match s.dctU d with
  | some kvs => .ok (kvs.map fun kv => kP kv.1) s
  | none => keysD d s
@[simp] theorem l_lodD (a : E) : evL F (.lod a) σ s = (ev F a σ s).bind fun d s => lodD d s := by rw [evL]; rfl
def srtD (d : D) (s : Sto) : R (List P) := match s.get d with
  | some (.lst xs) => (match intsP xs with
    | some is => .ok ((is.mergeSort (fun a b => decide (a ≤ b))).map .int) s
    | none => if srtOk xs = true then .ok (srtP xs) s else .bad)
  | _ => .bad
@[simp] theorem l_srtD (a : E) : evL F (.srt a) σ s = (ev F a σ s).bind fun d s => srtD d s := by rw [evL]; rfl
@[simp] theorem l_repE (a b : E) : evL F (.rep a b) σ s = (ev F a σ s).bind fun d s => (ev F b σ s).bind fun e s => repD d e s := by rw [evL]
@[simp] theorem s_iput (a b e : E) : ex F W (.iput a b e) σ s = (ev F e σ s).st σ fun x s => (ev F a σ s).st σ fun d s => (ev F b σ s).st σ fun k s => (iputD d k x s).st σ fun _ s => .nx σ s := by rw [ex]
@[simp] theorem l_revE (a : E) : evL F (.rev a) σ s = (ev F a σ s).bind fun d s => revD d s := by rw [evL]
@[simp] theorem l_ssetE (a : E) : evL F (.sset a) σ s = (ev F a σ s).bind fun d s => ssetD d s := by rw [evL]
@[simp] theorem e_m2 (f : M2) (a b : E) : ev F (.m2 f a b) σ s = (ev F a σ s).bind fun d s => if isLstD d s = true then (ev F b σ s).bind fun e s => m2D f d e s else .bad := by
  rw [ev]; congr 1; funext d s
  unfold isLstD
  cases s.get d with
  | none => rfl
  | some x => cases x <;> rfl
@[simp] theorem e_gnew : ev F .gnew σ s = .ok (.tmp s.t.length) (s.pushT (.dg [])) := by rw [ev]
@[simp] theorem e_gget (a b c : E) : ev F (.gget a b c) σ s = (ev F a σ s).bind fun d s => if isDct s d = true then (ev F b σ s).bind fun k s => (ev F c σ s).bind fun x s => ggetD d k x s else .bad := by rw [ev]
@[simp] theorem e_gset (a b c : E) : ev F (.gset a b c) σ s = (ev F a σ s).bind fun d s => if isDct s d = true then (ev F b σ s).bind fun k s => (ev F c σ s).bind fun x s => gsetD d k x s else .bad := by rw [ev]
@[simp] theorem e_sapp (a b c : E) : ev F (.sapp a b c) σ s = (ev F a σ s).bind fun d s => if isDct s d = true then (ev F b σ s).bind fun k s => (sdefD (.l []) d k s).bind fun _ s => (ev F c σ s).bind fun x s => sappD d k x s else .bad := by rw [ev]
@[simp] theorem e_lset (a : E) : ev F (.lset a) σ s = (ev F a σ s).bind fun d s => lsetD d s := by rw [ev]
@[simp] theorem e_tget (x : Str) (kvs : List (Str × Int)) (a b : E) : ev F (.tget x kvs a b) σ s = (ev F a σ s).bind fun d s => (ev F b σ s).bind fun e s => tgetD kvs d e s := by rw [ev]
@[simp] theorem e_mkd (pm : Bool) (a : E) : ev F (.mkd pm a) σ s = (ev F a σ s).bind fun d s => mkdD pm d s := by rw [ev]
@[simp] theorem l_dvlE (a : E) : evL F (.dvl a) σ s = (ev F a σ s).bind fun d s => dvlD d s := by rw [evL]
@[simp] theorem e_nil : evs F .nil σ s = .ok [] s := by rw [evs]
@[simp] theorem e_cons (e : E) (es : Es) : evs F (.cons e es) σ s = (ev F e σ s).bind fun d s => (evs F es σ s).bind fun ds s => .ok (d :: ds) s := by rw [evs]
@[simp] theorem l_disp (es : Es) : evL F (.disp es) σ s = (evs F es σ s).bind fun ds s => R.of (allP ds) s := by rw [evL]
def lofD (d : D) (s : Sto) : R (List P) := match s.get d with
    | some (.lst xs) => .ok xs s
    | some (.tup xs) => .ok xs s
    | _ => .bad
@[simp] theorem l_lof (a : E) : evL F (.lof a) σ s = (ev F a σ s).bind fun d s => lofD d s := by rw [evL]; rfl
def splD (x : Str) (e : D) (s : Sto) : R (List P) := match e with
  | .p (.str y) => if (y.length == 0) = false ∧ x.length + 2 ≤ sizeLine then .ok ((Txt.split x y).map .str) s else .bad
  | _ => .bad
@[simp] theorem l_split (a b : E) : evL F (.split a b) σ s = (ev F a σ s).bind fun d s => strD d fun x => (ev F b σ s).bind fun e s => splD x e s := by rw [evL]; rfl
/-- an element of a comprehension -/
def eltD (x : D) (s : Sto) : R (Option P) := match x with
  | .p a => .ok (some a) s
  | _ => .bad
def putD {α : Type} (o : Option Sl) (f : Sl → R α) : R α := match o with
  | none => .bad
  | some τ => f τ
@[simp] theorem l_comp0 (tg : Tg) (it : I) (e : E) (vs : List Nat) : evL F (.comp tg it .none e vs) σ s = (evI F it σ s).bind fun r s => lcLoop r (fun d s => putD (tg.put d (wipe σ vs)) fun τ => (ev F e τ s).bind eltD) (r.len s + 1) 0 [] s := by
  rw [evL]; congr 1
@[simp] theorem l_comp1 (tg : Tg) (it : I) (c e : E) (vs : List Nat) : evL F (.comp tg it (.some c) e vs) σ s = (evI F it σ s).bind fun r s => lcLoop r (fun d s => putD (tg.put d (wipe σ vs)) fun τ => (ev F c τ s).bind fun k s => k.cond ((ev F e τ s).bind eltD) (.ok none s) .bad) (r.len s + 1) 0 [] s := by
  rw [evL]; congr 1
def dkD (d : D) (s : Sto) : R Src := match s.dctW d with
  | some kvs => .ok (.fix (kvs.map fun kv => .p (kP kv.1))) s
  | none => .bad
@[simp] theorem i_dk (e : E) : evI F (.dk e) σ s = (ev F e σ s).bind fun d s => dkD d s := by rw [evI]; rfl
def dksD (d : D) (s : Sto) : R Src := match d with
  | .dct ks _ => .ok (.fix (ks.map .p)) s
  | _ => .bad
@[simp] theorem i_dks (e : E) : evI F (.dks e) σ s = (ev F e σ s).bind fun d s => dksD d s := by rw [evI]; rfl
def ditD (d : D) (s : Sto) : R Src := match d with
  | .dct ks vs => .ok (.fix (itemsL ks vs)) s
  | _ => .bad
@[simp] theorem i_dit (e : E) : evI F (.dit e) σ s = (ev F e σ s).bind fun d s => ditD d s := by rw [evI]; rfl
@[simp] theorem i_val (e : E) : evI F (.val e) σ s = (ev F e σ s).bind fun d s => R.of (srcOf s d) s := by rw [evI]
def rng1D (d : D) (s : Sto) : R Src := match d with
    | .p (.int j) => if -1000000 ≤ j ∧ j ≤ 1000000 then .ok (.fix (rangeL 0 j.toNat)) s else .bad
    | _ => .bad
@[simp] theorem i_rng1 (e : E) : evI F (.rng1 e) σ s = (ev F e σ s).bind fun d s => rng1D d s := by rw [evI]; rfl
def rng2D (d e : D) (s : Sto) : R Src := match d, e with
    | .p (.int i), .p (.int j) => if -1000000 ≤ i ∧ i ≤ 1000000 ∧ -1000000 ≤ j ∧ j ≤ 1000000 then .ok (.fix (rangeL i (j - i).toNat)) s else .bad
    | _, _ => .bad
@[simp] theorem i_rng2 (a b : E) : evI F (.rng2 a b) σ s = (ev F a σ s).bind fun d s => (ev F b σ s).bind fun e s => rng2D d e s := by rw [evI]; rfl
def enumD (d : D) (s : Sto) : R Src := match d with
    | .p a => R.of (enumOf a) s
    | _ => .bad
@[simp] theorem i_enum (e : E) : evI F (.enum e) σ s = (ev F e σ s).bind fun d s => enumD d s := by rw [evI]; rfl
def zipD (d e : D) (s : Sto) : R Src := match d, e with
    | .p x, .p y => R.of (zipOf x y) s
    | _, _ => .bad
@[simp] theorem i_zip (a b : E) : evI F (.zip a b) σ s = (ev F a σ s).bind fun d s => (ev F b σ s).bind fun e s => zipD d e s := by rw [evI]; rfl
/-! statements -/
def putS (o : Option Sl) (s : Sto) : RS := match o with
  | some τ => .nx τ s
  | none => .bad
@[simp] theorem s_asg (tg : Tg) (e : E) : ex F W (.asg tg e) σ s = (ev F e σ s).st σ fun d s => putS (tg.put d σ) s := by
  rw [ex]; congr 1
@[simp] theorem s_par (is : List Nat) (es : Es) : ex F W (.par is es) σ s = (evs F es σ s).st σ fun ds s => putS (setAll σ is ds) s := by
  rw [ex]; congr 1
@[simp] theorem s_nevS : ex F W .nev σ s = .bad := by rw [ex]
@[simp] theorem s_fput (a : E) (x : Str) (e : E) : ex F W (.fput a x e) σ s = (ev F e σ s).st σ fun d s => (ev F a σ s).st σ fun o s => (fputD o x d s).st σ fun _ s => .nx σ s := by rw [ex]
@[simp] theorem s_dput (a b e : E) : ex F W (.dput a b e) σ s = (ev F e σ s).st σ fun x s => (ev F a σ s).st σ fun d s => (ev F b σ s).st σ fun k s => (dputX d k x s).st σ fun _ s => .nx σ s := by rw [ex]
@[simp] theorem dputX_ref (n : Nat) (e x : D) : dputX (.ref n) e x s = dputD (.ref n) e x s := rfl
theorem dputX_tmp {n : Nat} {kvs : List (L2.Key × P)} (h : s.t[n]? = some (.dct kvs)) (e x : D) : dputX (.tmp n) e x s = dputD (.tmp n) e x s := by
  simp [dputX, Sto.dg, h]
theorem dputX_dg {n : Nat} {kvs : List (P × IV)} (h : s.t[n]? = some (.dg kvs)) (e x : D) : dputX (.tmp n) e x s = gputD (.tmp n) e x s := by
  simp [dputX, Sto.dg, h]
def gfzS (o : Option (Sl × Sto)) (f : Sl → Sto → RS) : RS := match o with
  | some (τ1, s1) => f τ1 s1
  | none => .bad
@[simp] theorem s_gfz (i : Nat) (st : S) : ex F W (.gfz i st) σ s = gfzS (frzSl i σ s) (ex F W st) := by rw [ex]; rfl
@[simp] theorem s_exp (e : E) : ex F W (.exp e) σ s = (ev F e σ s).st σ fun _ s => .nx σ s := by rw [ex]
@[simp] theorem s_ret (e : E) : ex F W (.ret e) σ s = (ev F e σ s).st σ fun d s => .rt d s := by rw [ex]
@[simp] theorem s_ife (c : E) (a b : Ss) : ex F W (.ife c a b) σ s = (ev F c σ s).st σ fun d s => d.cond (exs F W a σ s) (exs F W b σ s) .bad := by rw [ex]; rfl
@[simp] theorem s_loop (tg : Tg) (it : I) (b : Ss) : ex F W (.loop tg it b) σ s = (evI F it σ s).st σ fun r s => forLoop r tg (exs F W b) (r.len s + 1) 0 σ s := by rw [ex]
@[simp] theorem s_whl (n : Nat) (c : E) (b : Ss) : ex F W (.whl n c b) σ s = whileLoop (ev F c) (exs F W b) n σ s := by rw [ex]
@[simp] theorem s_brk : ex F W .brk σ s = .bk σ s := by rw [ex]
@[simp] theorem s_pass : ex F W .pass σ s = .nx σ s := by rw [ex]
@[simp] theorem s_rais (c : Nat) : ex F W (.rais c) σ s = .ex c σ s := by rw [ex]
@[simp] theorem ss_nil : exs F W .nil σ s = .nx σ s := by rw [exs]
@[simp] theorem ss_cons (st : S) (ss : Ss) : exs F W (.cons st ss) σ s = (ex F W st σ s).then fun σ s => exs F W ss σ s := by rw [exs]
end
section
variable {α β : Type}
@[simp] theorem bind_ok' (a : α) (s : Sto) (f : α → Sto → R β) : (R.ok a s).bind f = f a s := rfl
@[simp] theorem bind_exc' (c : Nat) (s : Sto) (f : α → Sto → R β) : (R.exc c s : R α).bind f = .exc c s := rfl
@[simp] theorem bind_bad' (f : α → Sto → R β) : (R.bad : R α).bind f = .bad := rfl
@[simp] theorem st_ok' (a : α) (s : Sto) (σ : Sl) (f : α → Sto → RS) : (R.ok a s).st σ f = f a s := rfl
@[simp] theorem st_exc' (c : Nat) (s : Sto) (σ : Sl) (f : α → Sto → RS) : (R.exc c s : R α).st σ f = .ex c σ s := rfl
@[simp] theorem then_nx' (σ : Sl) (s : Sto) (f : Sl → Sto → RS) : (RS.nx σ s).then f = f σ s := rfl
@[simp] theorem then_rt' (d : D) (s : Sto) (f : Sl → Sto → RS) : (RS.rt d s).then f = .rt d s := rfl
@[simp] theorem then_bk' (σ : Sl) (s : Sto) (f : Sl → Sto → RS) : (RS.bk σ s).then f = .bk σ s := rfl
@[simp] theorem then_ex' (c : Nat) (σ : Sl) (s : Sto) (f : Sl → Sto → RS) : (RS.ex c σ s).then f = .ex c σ s := rfl
@[simp] theorem of_some' (a : α) (s : Sto) : R.of (some a) s = .ok a s := rfl
/-! a test between two ends -/
@[simp] theorem ite_bind (b : Prop) [Decidable b] (x y : R α) (f : α → Sto → R β) : (if b then x else y).bind f = if b then x.bind f else y.bind f := by by_cases h : b <;> simp [h]
@[simp] theorem ite_st (b : Prop) [Decidable b] (x y : R α) (σ : Sl) (f : α → Sto → RS) : (if b then x else y).st σ f = if b then x.st σ f else y.st σ f := by by_cases h : b <;> simp [h]
@[simp] theorem ite_then (b : Prop) [Decidable b] (x y : RS) (f : Sl → Sto → RS) : (if b then x else y).then f = if b then x.then f else y.then f := by by_cases h : b <;> simp [h]
@[simp] theorem ite_fin (b : Prop) [Decidable b] (n : Nat) (x y : RS) : fin n (if b then x else y) = if b then fin n x else fin n y := by by_cases h : b <;> simp [h]
/-- an answer true or false -/
@[simp] theorem ite_ok_f (b c : Bool) (s : Sto) : (if b = true then R.ok (D.p (.bl c)) s else R.ok (D.p (.bl false)) s) = R.ok (D.p (.bl (b && c))) s := by cases b <;> rfl
@[simp] theorem ite_ok_t (b c : Bool) (s : Sto) : (if b = true then R.ok (D.p (.bl true)) s else R.ok (D.p (.bl c)) s) = R.ok (D.p (.bl (b || c))) s := by cases b <;> rfl
end
section
variable {σ : Sl} {s : Sto}
@[simp] theorem fin_nx (n : Nat) : fin n (.nx σ s) = .ok (.p .non) (s.back n) := rfl
@[simp] theorem fin_rt_p (n : Nat) (a : P) : fin n (.rt (.p a) s) = .ok (.p a) (s.back n) := rfl
@[simp] theorem fin_ex (n c : Nat) : fin n (.ex c σ s) = .exc c (s.back n) := rfl
theorem back_self (s : Sto) : s.back s.t.length = s := by unfold Sto.back; rw [List.take_length]
@[simp] theorem back_len (s : Sto) : s.back s.t.length = s := back_self s
@[simp] theorem get_p (a : P) : s.get (.p a) = some a := rfl
@[simp] theorem get'_p (a : P) : s.get' (.p a) = some a := rfl
@[simp] theorem get'_scr (xs : List Int) : s.get' (.scr xs) = some (.lst (xs.map .int)) := rfl
theorem bin_p (op : Operator) (a b : P) : binD op (.p a) (.p b) s = R.of ((binP op a b).map .p) s := rfl
@[simp] theorem add_ii (i j : Int) : binD .Add (.p (.int i)) (.p (.int j)) s = .ok (.p (.int (i + j))) s := rfl
@[simp] theorem sub_ii (i j : Int) : binD .Sub (.p (.int i)) (.p (.int j)) s = .ok (.p (.int (i - j))) s := rfl
@[simp] theorem neg_i (i : Int) : negD (.p (.int i)) s = .ok (.p (.int (-i))) s := rfl
@[simp] theorem not_b (b : Bool) : notD (.p (.bl b)) s = .ok (.p (.bl (!b))) s := rfl
@[simp] theorem le_ii (i j : Int) : cmpD .LtE (.p (.int i)) (.p (.int j)) s = .ok (.p (.bl (decide (i ≤ j)))) s := rfl
@[simp] theorem lt_ii (i j : Int) : cmpD .Lt (.p (.int i)) (.p (.int j)) s = .ok (.p (.bl (decide (i < j)))) s := rfl
@[simp] theorem ge_ii (i j : Int) : cmpD .GtE (.p (.int i)) (.p (.int j)) s = .ok (.p (.bl (decide (j ≤ i)))) s := rfl
@[simp] theorem gt_ii (i j : Int) : cmpD .Gt (.p (.int i)) (.p (.int j)) s = .ok (.p (.bl (decide (j < i)))) s := rfl
@[simp] theorem eq_ii (i j : Int) : cmpD .Eq (.p (.int i)) (.p (.int j)) s = .ok (.p (.bl (i == j))) s := rfl
@[simp] theorem ne_ii (i j : Int) : cmpD .NotEq (.p (.int i)) (.p (.int j)) s = .ok (.p (.bl (!(i == j)))) s := rfl
@[simp] theorem eq_ss (i j : Str) : cmpD .Eq (.p (.str i)) (.p (.str j)) s = .ok (.p (.bl (i == j))) s := rfl
@[simp] theorem ne_ss (i j : Str) : cmpD .NotEq (.p (.str i)) (.p (.str j)) s = .ok (.p (.bl (!(i == j)))) s := rfl
theorem eq_pp (a b : P) (h : (a.lim 20 || b.lim 20) = true) : cmpD .Eq (.p a) (.p b) s = .ok (.p (.bl (a.eqv b))) s := by
  simp only [cmpD, get'_p, cmpP, h, if_true]; rfl
theorem ne_pp (a b : P) (h : (a.lim 20 || b.lim 20) = true) : cmpD .NotEq (.p a) (.p b) s = .ok (.p (.bl (!a.eqv b))) s := by
  simp only [cmpD, get'_p, cmpP, h, if_true]; rfl
@[simp] theorem isi_p (t : Ty) (a : P) : isiD t (.p a) s = .ok (.p (.bl (match t, a with
  | .int, .int _ => true
  | .int, .bl _ => true
  | .bool, .bl _ => true
  | .str, .str _ => true
  | .tuple, .tup _ => true
  | .list, .lst _ => true
  | _, _ => false))) s := by cases t <;> cases a <;> rfl
@[simp] theorem len_tup (xs : List P) : b1D .len (.p (.tup xs)) s = .ok (.p (.int xs.length)) s := rfl
@[simp] theorem len_lst (xs : List P) : b1D .len (.p (.lst xs)) s = .ok (.p (.int xs.length)) s := rfl
@[simp] theorem len_scr (xs : List Int) : b1D .len (.scr xs) s = .ok (.p (.int xs.length)) s := rfl
theorem len_str (x : Str) (h : x.length ≤ sizeLine) : b1D .len (.p (.str x)) s = .ok (.p (.int x.length)) s := by
  simp only [b1D, get_p, b1P, if_pos h]; rfl
@[simp] theorem tuple_lst (xs : List P) : b1D .tuple (.p (.lst xs)) s = .ok (.p (.tup xs)) s := rfl
@[simp] theorem min_ii (i j : Int) : b2D .min (.p (.int i)) (.p (.int j)) s = .ok (.p (.int (if j < i then j else i))) s := rfl
@[simp] theorem max_ii (i j : Int) : b2D .max (.p (.int i)) (.p (.int j)) s = .ok (.p (.int (if j > i then j else i))) s := rfl
@[simp] theorem intD_i (i : Int) : intD (.p (.int i)) s = .ok (some i) s := rfl
@[simp] theorem slc_tup (xs : List P) (l h : Option Int) : slcD (.p (.tup xs)) l h s = .ok (.p (.tup (cut xs l h))) s := rfl
@[simp] theorem slc_lst (xs : List P) (l h : Option Int) : slcD (.p (.lst xs)) l h s = .ok (.p (.lst (cut xs l h))) s := rfl
theorem idx_tup (xs : List P) (k : Int) {a : P} (h : L2.atI xs k = some a) : idxD (.p (.tup xs)) (.p (.int k)) s = .ok (.p a) s := by
  simp only [idxD, get_p, atP, h]; rfl
theorem idx_lst (xs : List P) (k : Int) {a : P} (h : L2.atI xs k = some a) : idxD (.p (.lst xs)) (.p (.int k)) s = .ok (.p a) s := by
  simp only [idxD, get_p, atP, h]; rfl
@[simp] theorem elt_p (a : P) : eltD (.p a) s = .ok (some a) s := rfl
@[simp] theorem putS_some (τ : Sl) : putS (some τ) s = .nx τ s := rfl
@[simp] theorem putD_some {α : Type} (τ : Sl) (f : Sl → R α) : putD (some τ) f = f τ := rfl
@[simp] theorem put_name (i : Nat) (d : D) : (Tg.name i).put d σ = some (σ.set i (some d)) := rfl
@[simp] theorem put_nest (i : Nat) (is : List Nat) (a : P) (xs : List P) : (Tg.nest i is).put (.p (.tup [a, .tup xs])) σ = setAll (σ.set i (some (.p a))) is (xs.map .p) := rfl
@[simp] theorem put_names (is : List Nat) (xs : List P) : (Tg.names is).put (.p (.tup xs)) σ = setAll σ is (xs.map .p) := rfl
@[simp] theorem mkTup_nil : mkTup [] = .p (.tup []) := rfl
theorem allP_p (ds : List D) (ps : List P) (h : ds = ps.map .p) : allP ds = some ps := by
  subst h
  induction ps with
  | nil => rfl
  | cons a ps ih => simp [allP, ih]
theorem mkTup_p (ps : List P) : mkTup (ps.map .p) = .p (.tup ps) := by unfold mkTup; rw [allP_p _ ps rfl]
end
theorem run_eq {tab : List Fd} {W : Wh} {n f : Nat} {ds : List D} {s : Sto} {fd : Fd} (h : tab[f]? = some fd) (hl : ds.length = fd.np) : run tab W (n + 1) f ds s = fin s.t.length (exs (run tab W n) W fd.body (ds.map some ++ List.replicate (fd.ns - fd.np) none) s) := by
  rw [run, h]
  simp only [if_pos hl]
@[simp] theorem src_lst (xs : List P) (s : Sto) : R.of (srcOf s (.p (.lst xs))) s = .ok (.fix (xs.map .p)) s := rfl
@[simp] theorem src_tup (xs : List P) (s : Sto) : R.of (srcOf s (.p (.tup xs))) s = .ok (.fix (xs.map .p)) s := rfl
theorem src_str (x : Str) (s : Sto) (h : x.length ≤ sizeLine) : R.of (srcOf s (.p (.str x))) s = .ok (.fix (x.cps.toList.map fun c => .p (.str ⟨#[c]⟩))) s := by simp only [srcOf, if_pos h]; rfl
theorem mul_ii (i j : Int) (s : Sto) (h : -(2 ^ 64) < i ∧ i < 2 ^ 64) : binD .Mult (.p (.int i)) (.p (.int j)) s = .ok (.p (.int (i * j))) s := by simp only [binD, get_p, binP, if_pos (Or.inl h)]; rfl
theorem mod_ii (i j : Int) (s : Sto) (h : 0 < j) : binD .Mod (.p (.int i)) (.p (.int j)) s = .ok (.p (.int (i % j))) s := by simp only [binD, get_p, binP, if_pos h]; rfl
theorem add_ss (x y : Str) (s : Sto) (h : x.length + y.length ≤ sizeLine) : binD .Add (.p (.str x)) (.p (.str y)) s = .ok (.p (.str (x ++ y))) s := by simp only [binD, get_p, binP, if_pos h]; rfl
theorem add_tt (x y : List P) (s : Sto) (h : x.length + y.length ≤ sizeLine) : binD .Add (.p (.tup x)) (.p (.tup y)) s = .ok (.p (.tup (x ++ y))) s := by simp only [binD, get_p, binP, if_pos h]; rfl
theorem spl_ok (x y : Str) (s : Sto) (h1 : (y.length == 0) = false) (h2 : x.length + 2 ≤ sizeLine) : splD x (.p (.str y)) s = .ok ((Txt.split x y).map .str) s := by simp only [splD, if_pos (And.intro h1 h2)]
def tryWD (W : Wh) (i : Nat) (r : RS) : RS := match r with
    | .ex c τ s => (match W c with
      | some k => if i < τ.length then .rt (.p (.tup [.str "refused", .int k])) s else .bad
      | none => .bad)
    | .nx σ s => .nx σ s
    | .rt d s => .rt d s
    | .bk σ s => .bk σ s
    | .bad => .bad
@[simp] theorem s_tryW (F : Fns) (W : Wh) (b : Ss) (i : Nat) (σ : Sl) (s : Sto) : ex F W (.tryW b i) σ s = tryWD W i (exs F W b σ s) := by rw [ex]; rfl
@[simp] theorem tryW_rt (W : Wh) (i : Nat) (d : D) (s : Sto) : tryWD W i (.rt d s) = .rt d s := rfl
theorem tryW_ex (W : Wh) (i c : Nat) (k : Int) (τ : Sl) (s : Sto) (h : W c = some k) (hi : i < τ.length) : tryWD W i (.ex c τ s) = .rt (.p (.tup [.str "refused", .int k])) s := by
  simp only [tryWD, h, if_pos hi]
def tryRD (W : Wh) (x : Str) (r : RS) : RS := match r with
    | .ex c _ s => (match W c with
      | some _ => .rt (.p (.str x)) s
      | none => .bad)
    | .nx σ s => .nx σ s
    | .rt d s => .rt d s
    | .bk σ s => .bk σ s
    | .bad => .bad
@[simp] theorem s_tryR (F : Fns) (W : Wh) (b : Ss) (x : Str) (σ : Sl) (s : Sto) : ex F W (.tryR b x) σ s = tryRD W x (exs F W b σ s) := by rw [ex]; rfl
@[simp] theorem tryR_rt (W : Wh) (x : Str) (d : D) (s : Sto) : tryRD W x (.rt d s) = .rt d s := rfl
theorem tryR_ex (W : Wh) (x : Str) (c : Nat) (k : Int) (τ : Sl) (s : Sto) (h : W c = some k) : tryRD W x (.ex c τ s) = .rt (.p (.str x)) s := by
  simp only [tryRD, h]
def varD (o : Option (Option D)) (s : Sto) : R D := match o with
  | some (some d) => .ok d s
  | _ => .bad
@[simp] theorem varD_some (d : D) (s : Sto) : varD (some (some d)) s = .ok d s := rfl
@[simp] theorem e_var' (F : Fns) (i : Nat) (σ : Sl) (s : Sto) : ev F (.var i) σ s = varD σ[i]? s := by
  rw [ev]; rfl
def mkTupO (o : Option (List P)) (ds : List D) : D := match o with
  | some ps => .p (.tup ps)
  | none => .tup ds
@[simp] theorem mkTupO_some (ps : List P) (ds : List D) : mkTupO (some ps) ds = .p (.tup ps) := rfl
@[simp] theorem mkTup_def (ds : List D) : mkTup ds = mkTupO (allP ds) ds := by unfold mkTup; cases allP ds <;> rfl
@[simp] theorem allP_nil : allP [] = some [] := rfl
@[simp] theorem allP_cons (a : P) (ds : List D) : allP (.p a :: ds) = (allP ds).map (a :: ·) := rfl
end G7

/-! texts, loops -/
namespace G7
open PySem PySem.Builtin.Str
open SX (S_len S_inj S_cat S_beq S_beq_eq)
/-- the text of these signs -/
abbrev tx (l : List Nat) : Str := SX.S l

/-! ### signs -/
def isL (c : Nat) : Bool := decide (97 ≤ c) && decide (c ≤ 122)
def isF (c : Nat) : Bool := decide (48 ≤ c) && decide (c ≤ 57)
def isPr (c : Nat) : Bool := decide (32 ≤ c) && decide (c ≤ 126)
def tl (x : Str) : List Nat := x.cps.toList
theorem tl_tx (l : List Nat) : tl (tx l) = l := rfl
theorem tx_tl (x : Str) : tx (tl x) = x := SX.S_tl x
theorem tl_len (x : Str) : (tl x).length = x.length := by simp [tl, Str.length]
theorem lit_letters : Str.ofString "abcdefghijklmnopqrstuvwxyz" = tx ((List.range 26).map (· + 97)) := by decide +kernel
theorem lit_figures : Str.ofString "0123456789" = tx ((List.range 10).map (· + 48)) := by decide +kernel
theorem mem_letters (c : Nat) : (Str.ofString "abcdefghijklmnopqrstuvwxyz").cps.contains c = isL c := by
  rw [lit_letters]
  have : (tx ((List.range 26).map (· + 97))).cps.contains c = ((List.range 26).map (· + 97)).contains c := by simp [tx, SX.S]
  rw [this, Bool.eq_iff_iff, List.contains_iff_mem, List.mem_map]
  simp only [isL, Bool.and_eq_true, decide_eq_true_eq, List.mem_range]
  constructor
  · rintro ⟨a, h, rfl⟩; omega
  · intro h; exact ⟨c - 97, by omega, by omega⟩
theorem in_figures (c : Nat) : (!(occurrences (Str.ofString "0123456789") ⟨#[c]⟩ 0 (Str.ofString "0123456789").length 1).isEmpty) = isF c := by
  rw [StrLaws.found_one, lit_figures]
  show decide (c ∈ ((List.range 10).map (· + 48)).toArray.toList) = _
  rw [Bool.eq_iff_iff, decide_eq_true_eq]
  simp only [List.mem_map, isF, Bool.and_eq_true, decide_eq_true_eq, List.mem_range]
  constructor
  · rintro ⟨a, h, rfl⟩; omega
  · intro h; exact ⟨c - 48, by omega, by omega⟩
theorem getD_tl (x : Str) (k : Nat) : x.cps.getD k 0 = (tl x).getD k 0 := (PyProof.Rows.getD_list x k).symm
/-- nothing is left -/
theorem strip_all (x y : Str) : (Txt.stripChars x y == Str.ofString "") = (tl x).all fun c => y.cps.contains c := by
  have e0 : Str.ofString "" = tx [] := by decide +kernel
  obtain ⟨l1, l2, l3⟩ := PyProof.Rows.lo_facts y.cps.contains x
  obtain ⟨h1, h2, h3, h4⟩ := PyProof.Rows.hi_facts y.cps.contains x _ l1
  have e1 : Txt.stripChars x y = strSub x (stripLo y.cps.contains true x) (stripHi y.cps.contains true x (stripLo y.cps.contains true x)) := PyProof.Rows.stripBy_eq _ _ _ _
  rw [e0, e1]
  generalize stripLo y.cps.contains true x = lo at *
  generalize stripHi y.cps.contains true x lo = hi at *
  have hx : x.length = x.cps.size := rfl
  have key : (strSub x lo hi == tx []) = true ↔ hi ≤ lo := by
    rw [beq_iff_eq]
    constructor
    · intro e
      have : (strSub x lo hi).cps.size = 0 := by rw [e]; rfl
      have h5 : (x.cps.extract lo hi).size = 0 := this
      rw [Array.size_extract] at h5
      omega
    · intro h
      show Str.mk (x.cps.extract lo hi) = tx []
      rw [Array.extract_empty_of_stop_le_start h]
  rw [Bool.eq_iff_iff, key, List.all_eq_true]
  have gt : ∀ k, k < x.length → (tl x).getD k 0 ∈ tl x := fun k hk => by
    have hk' : k < (tl x).length := by rw [tl_len]; exact hk
    rw [List.getD_eq_getElem?_getD, List.getElem?_eq_getElem hk']
    exact List.getElem_mem hk'
  constructor
  · intro h c hc
    obtain ⟨k, hk, e⟩ := List.mem_iff_getElem.mp hc
    have hk2 : k < x.length := by rw [← tl_len]; exact hk
    have e2 : x.cps.getD k 0 = c := by rw [getD_tl, List.getD_eq_getElem?_getD, List.getElem?_eq_getElem hk, e]; rfl
    by_cases hlo : k < lo
    · have := l2 k hlo; rw [e2] at this; exact this
    · have := h3 k (by omega) hk2; rw [e2] at this; exact this
  · intro h
    rcases l3 with l3 | l3
    · omega
    · by_cases hl : lo < x.length
      · have := h _ (gt lo hl)
        rw [← getD_tl, l3] at this
        cases this
      · omega
theorem strip_word (x : Str) : (Txt.stripChars x (Str.ofString "abcdefghijklmnopqrstuvwxyz") == Str.ofString "") = (tl x).all isL := by
  rw [strip_all]
  congr 1
  funext c
  exact mem_letters c

/-! ### loops over what is fixed -/
theorem at_fix (xs : List D) (s : Sto) (j : Nat) : (Src.fix xs).at s j = some xs[j]? := rfl
theorem len_fix (xs : List D) (s : Sto) : (Src.fix xs).len s = xs.length := rfl
@[simp] theorem for_nil (tg : Tg) (body : Sl → Sto → RS) (n j : Nat) (σ : Sl) (s : Sto) : forLoop (.fix []) tg body (n + 1) j σ s = .nx σ s := by
  unfold forLoop; rw [at_fix]; simp
@[simp] theorem lc_nil (stp : D → Sto → R (Option P)) (n j : Nat) (acc : List P) (s : Sto) : lcLoop (.fix []) stp (n + 1) j acc s = .ok acc s := by
  unfold lcLoop; rw [at_fix]; simp
/-- a loop whose turns all go on -/
theorem for_fix {xs : List D} {tg : Tg} {body : Sl → Sto → RS} (I : Nat → Sl → Sto → Prop) (step : ∀ j d σ s, xs[j]? = some d → I j σ s → ∃ σ1 σ2 s2, tg.put d σ = some σ1 ∧ body σ1 s = .nx σ2 s2 ∧ I (j + 1) σ2 s2) :
    ∀ (n j : Nat) (σ : Sl) (s : Sto), xs.length = j + n → I j σ s → ∃ σ' s', forLoop (.fix xs) tg body (n + 1) j σ s = .nx σ' s' ∧ I xs.length σ' s'
  | 0, j, σ, s, hn, h => by
    unfold forLoop
    rw [at_fix, List.getElem?_eq_none (by omega)]
    exact ⟨σ, s, rfl, by rw [show xs.length = j by omega]; exact h⟩
  | n + 1, j, σ, s, hn, h => by
    have hj : j < xs.length := by omega
    obtain ⟨σ1, σ2, s2, h1, h2, h3⟩ := step j xs[j] σ s (List.getElem?_eq_getElem hj) h
    obtain ⟨σ', s', h4, h5⟩ := for_fix I step n (j + 1) σ2 s2 (by omega) h3
    refine ⟨σ', s', ?_, h5⟩
    unfold forLoop
    rw [at_fix, List.getElem?_eq_getElem hj]
    simp only [h1, h2]
    exact h4
theorem for_fix0 {xs : List D} {tg : Tg} {body : Sl → Sto → RS} (I : Nat → Sl → Sto → Prop) (step : ∀ j d σ s, xs[j]? = some d → I j σ s → ∃ σ1 σ2 s2, tg.put d σ = some σ1 ∧ body σ1 s = .nx σ2 s2 ∧ I (j + 1) σ2 s2)
    {σ : Sl} {s s0 : Sto} (h : I 0 σ s) : ∃ σ' s', forLoop (.fix xs) tg body ((Src.fix xs).len s0 + 1) 0 σ s = .nx σ' s' ∧ I xs.length σ' s' := for_fix I step xs.length 0 σ s (by omega) h
/-- a comprehension -/
theorem lc_fix {xs : List D} {stp : D → Sto → R (Option P)} (I : Nat → List P → Sto → Prop) (step : ∀ j d acc s, xs[j]? = some d → I j acc s → ∃ o s2, stp d s = .ok o s2 ∧ I (j + 1) (match o with
    | some a => acc ++ [a]
    | none => acc) s2) :
    ∀ (n j : Nat) (acc : List P) (s : Sto), xs.length = j + n → I j acc s → ∃ acc' s', lcLoop (.fix xs) stp (n + 1) j acc s = .ok acc' s' ∧ I xs.length acc' s'
  | 0, j, acc, s, hn, h => by
    unfold lcLoop
    rw [at_fix, List.getElem?_eq_none (by omega)]
    exact ⟨acc, s, rfl, by rw [show xs.length = j by omega]; exact h⟩
  | n + 1, j, acc, s, hn, h => by
    have hj : j < xs.length := by omega
    obtain ⟨o, s2, h1, h3⟩ := step j xs[j] acc s (List.getElem?_eq_getElem hj) h
    obtain ⟨σ', s', h4, h5⟩ := lc_fix I step n (j + 1) _ s2 (by omega) h3
    refine ⟨σ', s', ?_, h5⟩
    unfold lcLoop
    rw [at_fix, List.getElem?_eq_getElem hj]
    simp only [h1]
    cases o with
    | some a => exact h4
    | none => exact h4
theorem lc_fix0 {xs : List D} {stp : D → Sto → R (Option P)} (I : Nat → List P → Sto → Prop) (step : ∀ j d acc s, xs[j]? = some d → I j acc s → ∃ o s2, stp d s = .ok o s2 ∧ I (j + 1) (match o with
    | some a => acc ++ [a]
    | none => acc) s2) {s s0 : Sto} (h : I 0 [] s) : ∃ acc' s', lcLoop (.fix xs) stp ((Src.fix xs).len s0 + 1) 0 [] s = .ok acc' s' ∧ I xs.length acc' s' := lc_fix I step xs.length 0 [] s (by omega) h
/-- a comprehension over data that does not touch the store: a map -/
theorem lc_map {xs : List P} {stp : D → Sto → R (Option P)} {f : P → P} {s s0 : Sto} (h : ∀ a ∈ xs, stp (.p a) s = .ok (some (f a)) s) : lcLoop (.fix (xs.map .p)) stp ((Src.fix (xs.map .p)).len s0 + 1) 0 [] s = .ok (xs.map f) s := by
  obtain ⟨acc, s', e, h1, h2⟩ := lc_fix0 (xs := xs.map .p) (stp := stp) (s := s) (s0 := s0) (fun j acc s' => acc = (xs.take j).map f ∧ s' = s) (fun j d acc s' hd ⟨h1, h2⟩ => by
    subst h2
    rw [List.getElem?_map, Option.map_eq_some_iff] at hd
    obtain ⟨a, ha, rfl⟩ := hd
    refine ⟨some (f a), s', h a (List.mem_of_getElem? ha), ?_, rfl⟩
    simp only [h1]
    rw [List.take_add_one, ha]; simp) ⟨by simp, rfl⟩
  rw [e, h1, h2]
  simp
/-- .. a filter and a map -/
theorem lc_filter {xs : List P} {stp : D → Sto → R (Option P)} {p : P → Bool} {f : P → P} {s s0 : Sto} (h : ∀ a ∈ xs, stp (.p a) s = .ok (if p a = true then some (f a) else none) s) : lcLoop (.fix (xs.map .p)) stp ((Src.fix (xs.map .p)).len s0 + 1) 0 [] s = .ok ((xs.filter p).map f) s := by
  obtain ⟨acc, s', e, h1, h2⟩ := lc_fix0 (xs := xs.map .p) (stp := stp) (s := s) (s0 := s0) (fun j acc s' => acc = ((xs.take j).filter p).map f ∧ s' = s) (fun j d acc s' hd ⟨h1, h2⟩ => by
    subst h2
    rw [List.getElem?_map, Option.map_eq_some_iff] at hd
    obtain ⟨a, ha, rfl⟩ := hd
    refine ⟨_, s', h a (List.mem_of_getElem? ha), ?_, rfl⟩
    rw [List.take_add_one, ha]
    by_cases hp : p a = true
    · simp [hp, h1]
    · simp [hp, h1]) ⟨by simp, rfl⟩
  rw [e, h1, h2]
  simp
theorem allBl_map {α : Type} (f : α → Bool) : ∀ xs : List α, allBl (xs.map fun a => .bl (f a)) = some (xs.map f)
  | [] => rfl
  | a :: xs => by simp [allBl, allBl_map f xs]
theorem all_map {α : Type} (f : α → Bool) (xs : List α) (s : Sto) : b1D .all (.p (.lst (xs.map fun a => .bl (f a)))) s = .ok (.p (.bl (xs.all f))) s := by
  simp only [b1D, get_p, b1P, allBl_map, Option.map_some, of_some', List.all_map]; rfl
theorem any_map {α : Type} (f : α → Bool) (xs : List α) (s : Sto) : b1D .any (.p (.lst (xs.map fun a => .bl (f a)))) s = .ok (.p (.bl (xs.any f))) s := by
  simp only [b1D, get_p, b1P, allBl_map, Option.map_some, of_some', List.any_map]; rfl
end G7

/-! what an end is to satisfy -/
namespace G7
open PySem
/-- ends well, with Q -/
def Ok {α : Type} (r : R α) (Q : α → Sto → Prop) : Prop := match r with
  | .ok a s => Q a s
  | _ => False
/-- a statement's end -/
def RSP (r : RS) (N B : Sl → Sto → Prop) (T : D → Sto → Prop) : Prop := match r with
  | .nx σ s => N σ s
  | .bk σ s => B σ s
  | .rt d s => T d s
  | _ => False
section
variable {α β : Type}
@[simp] theorem ok_ok (a : α) (s : Sto) (Q : α → Sto → Prop) : Ok (.ok a s) Q = Q a s := rfl
@[simp] theorem ok_bad (Q : α → Sto → Prop) : Ok (.bad : R α) Q = False := rfl
@[simp] theorem ok_exc (c : Nat) (s : Sto) (Q : α → Sto → Prop) : Ok (.exc c s : R α) Q = False := rfl
theorem ok_bind (r : R α) (f : α → Sto → R β) (Q : β → Sto → Prop) : Ok (r.bind f) Q = Ok r fun a s => Ok (f a s) Q := by cases r <;> rfl
@[simp] theorem ok_ite (b : Prop) [Decidable b] (x y : R α) (Q : α → Sto → Prop) : Ok (if b then x else y) Q = if b then Ok x Q else Ok y Q := by by_cases h : b <;> simp [h]
theorem Ok.mono {r : R α} {Q Q' : α → Sto → Prop} (h : Ok r Q) (g : ∀ a s, Q a s → Q' a s) : Ok r Q' := by
  cases r with
  | ok a s => exact g a s h
  | exc _ _ => exact h.elim
  | bad => exact h.elim
theorem Ok.eq {r : R α} {Q : α → Sto → Prop} (h : Ok r Q) : ∃ a s, r = .ok a s ∧ Q a s := by
  cases r with
  | ok a s => exact ⟨a, s, rfl, h⟩
  | exc _ _ => exact h.elim
  | bad => exact h.elim
theorem Ok.of {r : R α} {a : α} {s : Sto} (h : r = .ok a s) {Q : α → Sto → Prop} (q : Q a s) : Ok r Q := by rw [h]; exact q
/-- the next step -/
theorem Ok.then {r : R α} {f : α → Sto → R β} {Q : α → Sto → Prop} {Q' : β → Sto → Prop} (h : Ok r Q) (g : ∀ a s, Q a s → Ok (f a s) Q') : Ok (r.bind f) Q' := by
  rw [ok_bind]; exact h.mono g
end
section
variable {α : Type} {N B : Sl → Sto → Prop} {T : D → Sto → Prop}
@[simp] theorem rsp_nx (σ : Sl) (s : Sto) : RSP (.nx σ s) N B T = N σ s := rfl
@[simp] theorem rsp_bk (σ : Sl) (s : Sto) : RSP (.bk σ s) N B T = B σ s := rfl
@[simp] theorem rsp_rt (d : D) (s : Sto) : RSP (.rt d s) N B T = T d s := rfl
@[simp] theorem rsp_ite (b : Prop) [Decidable b] (x y : RS) : RSP (if b then x else y) N B T = if b then RSP x N B T else RSP y N B T := by by_cases h : b <;> simp [h]
theorem rsp_st (r : R α) (σ : Sl) (f : α → Sto → RS) : RSP (r.st σ f) N B T = Ok r fun a s => RSP (f a s) N B T := by cases r <;> rfl
theorem rsp_then (r : RS) (f : Sl → Sto → RS) : RSP (r.then f) N B T = RSP r (fun σ s => RSP (f σ s) N B T) B T := by cases r <;> rfl
theorem RSP.st {r : R α} {σ : Sl} {f : α → Sto → RS} {Q : α → Sto → Prop} (h : Ok r Q) (g : ∀ a s, Q a s → RSP (f a s) N B T) : RSP (r.st σ f) N B T := by
  rw [rsp_st]; exact h.mono g
theorem RSP.mono {r : RS} {N' B' : Sl → Sto → Prop} {T' : D → Sto → Prop} (h : RSP r N B T) (hn : ∀ σ s, N σ s → N' σ s) (hb : ∀ σ s, B σ s → B' σ s) (ht : ∀ d s, T d s → T' d s) : RSP r N' B' T' := by
  cases r with
  | nx σ s => exact hn σ s h
  | bk σ s => exact hb σ s h
  | rt d s => exact ht d s h
  | ex c σ s => exact h.elim
  | bad => exact h.elim
theorem RSP.then {r : RS} {f : Sl → Sto → RS} {N' : Sl → Sto → Prop} (h : RSP r N' B T) (g : ∀ σ s, N' σ s → RSP (f σ s) N B T) : RSP (r.then f) N B T := by
  rw [rsp_then]; exact h.mono g (fun _ _ z => z) (fun _ _ z => z)
/-- a def's end -/
theorem RSP.fin {r : RS} {n : Nat} {Q : D → Sto → Prop} (h : RSP r (fun _ s => Q (.p .non) (s.back n)) (fun _ _ => False) (fun d s => match s.frz n d with
    | some e => Q e (s.back n)
    | none => False)) : Ok (fin n r) Q := by
  cases r with
  | nx σ s => exact h
  | bk σ s => exact h.elim
  | ex c σ s => exact h.elim
  | bad => exact h.elim
  | rt d s =>
    simp only [rsp_rt] at h
    simp only [G7.fin]
    cases e : s.frz n d with
    | none => rw [e] at h; exact h.elim
    | some d' => rw [e] at h; exact h
@[simp] theorem frz_p (s : Sto) (n : Nat) (a : P) : s.frz n (.p a) = some (.p a) := rfl
/-- a for loop over what is fixed: I before turn j -/
theorem for_rule {xs : List D} {tg : Tg} {body : Sl → Sto → RS} (I : Nat → Sl → Sto → Prop) (hN : ∀ σ s, I xs.length σ s → N σ s)
    (step : ∀ j d σ s, xs[j]? = some d → I j σ s → ∃ σ1, tg.put d σ = some σ1 ∧ RSP (body σ1 s) (I (j + 1)) N T) :
    ∀ (n j : Nat) (σ : Sl) (s : Sto), xs.length = j + n → I j σ s → RSP (forLoop (.fix xs) tg body (n + 1) j σ s) N B T
  | 0, j, σ, s, hn, h => by
    unfold forLoop
    rw [at_fix, List.getElem?_eq_none (by omega)]
    exact hN σ s (by rw [show xs.length = j by omega]; exact h)
  | n + 1, j, σ, s, hn, h => by
    have hj : j < xs.length := by omega
    obtain ⟨σ1, h1, h2⟩ := step j xs[j] σ s (List.getElem?_eq_getElem hj) h
    unfold forLoop
    rw [at_fix, List.getElem?_eq_getElem hj]
    simp only [h1]
    cases hb : body σ1 s with
    | nx σ2 s2 => rw [hb] at h2; exact for_rule I hN step n (j + 1) σ2 s2 (by omega) h2
    | bk σ2 s2 => rw [hb] at h2; exact h2
    | rt d s2 => rw [hb] at h2; exact h2
    | ex c σ2 s2 => rw [hb] at h2; exact h2
    | bad => rw [hb] at h2; exact h2
theorem for_rule0 {xs : List D} {tg : Tg} {body : Sl → Sto → RS} {σ : Sl} {s s0 : Sto} (I : Nat → Sl → Sto → Prop) (h : I 0 σ s)
    (step : ∀ j d σ s, xs[j]? = some d → I j σ s → ∃ σ1, tg.put d σ = some σ1 ∧ RSP (body σ1 s) (I (j + 1)) N T) (hN : ∀ σ s, I xs.length σ s → N σ s) :
    RSP (forLoop (.fix xs) tg body ((Src.fix xs).len s0 + 1) 0 σ s) N B T := for_rule I hN step xs.length 0 σ s (by omega) h
/-- a comprehension over what is fixed -/
theorem lc_rule0 {xs : List D} {stp : D → Sto → R (Option P)} {s s0 : Sto} {Q : List P → Sto → Prop} (I : Nat → List P → Sto → Prop) (h : I 0 [] s)
    (step : ∀ j d acc s, xs[j]? = some d → I j acc s → Ok (stp d s) fun o s2 => I (j + 1) (match o with
    | some a => acc ++ [a]
    | none => acc) s2) (hQ : ∀ acc s, I xs.length acc s → Q acc s) : Ok (lcLoop (.fix xs) stp ((Src.fix xs).len s0 + 1) 0 [] s) Q := by
  obtain ⟨acc, s', e, h'⟩ := lc_fix0 (xs := xs) (stp := stp) (s := s) (s0 := s0) I (fun j d acc s hd hi => by
    obtain ⟨o, s2, e, h2⟩ := (step j d acc s hd hi).eq
    exact ⟨o, s2, e, h2⟩) h
  rw [e]
  exact hQ acc s' h'
/-- a while loop: I with a measure -/
theorem while_rule {c : Sl → Sto → R D} {body : Sl → Sto → RS} (I : Nat → Sl → Sto → Prop)
    (step : ∀ m σ s, I m σ s → Ok (c σ s) fun d s1 => ∃ b, d = .p (.bl b) ∧ if b = true then RSP (body σ s1) (fun σ2 s2 => ∃ m', m' < m ∧ I m' σ2 s2) N T else N σ s1) :
    ∀ (n m : Nat) (σ : Sl) (s : Sto), m < n → I m σ s → RSP (whileLoop c body n σ s) N B T
  | 0, m, σ, s, hn, h => absurd hn (Nat.not_lt_zero _)
  | n + 1, m, σ, s, hn, h => by
    unfold whileLoop
    refine RSP.st (step m σ s h) fun d s1 hd => ?_
    obtain ⟨b, rfl, hb⟩ := hd
    cases b with
    | false => rw [if_neg (by decide)] at hb; exact hb
    | true =>
      rw [if_pos rfl] at hb
      cases hr : body σ s1 with
      | nx σ2 s2 =>
        rw [hr] at hb
        obtain ⟨m', hm, hi⟩ := hb
        simp only [hr]
        exact while_rule I step n m' σ2 s2 (by omega) hi
      | bk σ2 s2 => rw [hr] at hb; simp only [hr]; exact hb
      | rt d s2 => rw [hr] at hb; simp only [hr]; exact hb
      | ex c σ2 s2 => rw [hr] at hb; exact hb.elim
      | bad => rw [hr] at hb; exact hb.elim
end
end G7

/-! the head's run, told in three parts -/
namespace HandSHeadRun
open PySem PySem.W PySem.Calls PyProof.Rows
def RunA (r : OpenRow) (M : Nat) (w : World) : Prop := ∀ os : OsState, (endF (stepQ (denQ tabQ) r.prog w) M r.prog w os).map (fun s => looksF r.prog (boot_heap w.params) s.abs) = some true
def RunB (r : OpenRow) (q : Program) (M : Nat) (loose : List PySem.Str) (w : World) : Prop := ∀ os : OsState, (endF (stepQ (denQ tabQ) r.prog w) M r.prog w os).map (fun s => seenQ q loose (importedModules r.prog.main.body) (fun s => xlAt q [] s && recOk r.toRowW.records s) s.abs) = some (openGood q loose)
def RunC (r : OpenRow) (H : Hook) (ob : SharedT → H.α) (M : Nat) (w : World) : Prop := ∀ os : OsState, (endF (stepQ (denQ tabQ) r.prog w) M r.prog w os).map ob = some (H.val w)
theorem run_of {r : OpenRow} {q : Program} {H : Hook} {ob : SharedT → H.α} {M : Nat} {loose : List PySem.Str} {w : World} (a : RunA r M w) (b : RunB r q M loose w) (c : RunC r H ob M w) : RunEq r q H ob M loose w := by
  intro os
  have a := a os
  have b := b os
  have c := c os
  generalize endF (stepQ (denQ tabQ) r.prog w) M r.prog w os = e at a b c ⊢
  cases e with
  | none => cases a
  | some s =>
    simp only [Option.map_some, Option.some.injEq] at a b c ⊢
    rw [a, b, c]
/-! a hook that gathers less: the module's names, what its functions and classes name, the classes' names, what these name -/
def folL (g : Addr → Option Obj) (a : Addr) : List Addr := match g a with
  | some ⟨_, _, .func fd, _⟩ => He.refV fd.code ++ (He.refV fd.defaults ++ He.refV fd.kwdefaults)
  | some ⟨_, _, .cls cd, _⟩ => [cd.ns]
  | _ => []
def nsL (g : Addr → Option Obj) (a : Addr) : List Addr := match g a with
  | some ⟨_, _, .dict es _, _⟩ => es.toList.flatMap fun e => He.refV e.val
  | _ => []
def upL (l : List Addr) (f : Addr → List Addr) (k : List Addr → List Addr) : List Addr := l ++ k (l.flatMap f)
def asL (g : Addr → Option Obj) : List Addr :=
  upL [mainGlobals] (nsL g) fun l => upL l (folL g) fun l => upL l (nsL g) fun l => upL l (folL g) fun l => l
def obsL (fa : List He.Fa) (fn : List He.DefD) (ts : List He.Tab) (ex : PySem.W.Frag → Bool) (g : Addr → Option Obj) : He.AlX := (He.obsT fa fn ts (He.frT g (asL g)), ex (He.frT g (asL g)))
def hookL (fa : List He.Fa) (fn : List He.DefD) (ts : List He.Tab) (ex : PySem.W.Frag → Bool) : PySem.W.Hook where
  α := He.AlX
  obs := fun s => obsL fa fn ts ex s.heap.get?
  val := fun w => He.valX fn ts w
  says := fun w h => ∃ K : PySem.W.Frag, K.In h ∧ He.SaysX fa fn ts [] ex w h K
  of := fun _ _ e => ⟨_, He.frT_in, ⟨congrArg Prod.fst e, congrArg Prod.snd e, nofun, nofun, nofun⟩⟩
  keeps := fun w h h' y k => by
    obtain ⟨K, inK, told⟩ := y
    exact ⟨K, fun a o e => k a o (inK a o e), ⟨told.t, told.more, nofun, nofun, nofun⟩⟩
theorem obsL_eq {fa : List He.Fa} {fn : List He.DefD} {ts : List He.Tab} {ex : PySem.W.Frag → Bool} {g : Addr → Option Obj} {s : Shared} (same : ∀ a, g a = s.heap.get? a) : obsL fa fn ts ex g = (hookL fa fn ts ex).obs s :=
  congrArg (obsL fa fn ts ex) (funext same)
end HandSHeadRun

namespace Rw
open PySem PySem.Spec PyProof.Rows G7
abbrev x_NoFall : Nat := 0
abbrev x_NoPiece : Nat := 1
abbrev x_NoRules : Nat := 2
abbrev x_NoKey : Nat := 3
abbrev x_NoMoment : Nat := 4
abbrev x_NoVersion : Nat := 5
abbrev x_NoCount : Nat := 6
abbrev x_Twice : Nat := 7
abbrev x_Across : Nat := 8
abbrev x_Full : Nat := 9
abbrev x_NoDeed : Nat := 10
abbrev x_NoText : Nat := 11
abbrev x_NoAsk : Nat := 12
abbrev x_Unlike : Nat := 13
abbrev i_is_whole : Nat := 0
abbrev i_is_word : Nat := 1
abbrev i_is_place : Nat := 2
abbrev i_is_text : Nat := 3
abbrev i_shape : Nat := 4
abbrev i_is_key : Nat := 5
abbrev i_need_keys : Nat := 6
abbrev i_branches : Nat := 7
abbrev i_trunk : Nat := 8
abbrev i_need_count : Nat := 9
abbrev i_lots : Nat := 10
abbrev i_shortest : Nat := 11
abbrev i__law_cell_at : Nat := 12
abbrev i__law_mixed : Nat := 13
abbrev i__law_draw : Nat := 14
abbrev i__law_pick : Nat := 15
abbrev i__law_place : Nat := 16
abbrev i__law_fall : Nat := 17
abbrev i__law_falls : Nat := 18
abbrev i__law_within : Nat := 19
abbrev i__law_rules : Nat := 20
abbrev i__law_key : Nat := 21
abbrev i__law_frame_key : Nat := 22
abbrev i__law_keys : Nat := 23
abbrev i__law_told : Nat := 24
abbrev i_law : Nat := 25
def b_is_whole : Ss := (.cons (.ret (.and (.cons (.isi (.var 0) .int) (.cons (.not (.isi (.var 0) .bool)) (.cons (.chain .LtE .LtE (.var 1) (.var 0) (.var 2)) .nil))))) .nil)
def b_is_word : Ss := (.cons (.ret (.and (.cons (.isi (.var 0) .str) (.cons (.chain .LtE .LtE (.con (.int (1))) (.b1 .len (.var 0)) (.glb (Str.ofString "LONGEST") (.int (8)))) (.cons (.cmp .Eq (.m1 .strip (.var 0) (.glb (Str.ofString "LETTERS") (.str (Str.ofString "abcdefghijklmnopqrstuvwxyz")))) (.con (.str (Str.ofString "")))) .nil))))) .nil)
def b_is_place : Ss := (.cons (.ife (.or (.cons (.not (.isi (.var 0) .str)) (.cons (.cmp .Gt (.b1 .len (.var 0)) (.bin .Add (.bin .Mult (.con (.int (3))) (.glb (Str.ofString "LONGEST") (.int (8)))) (.con (.int (2))))) .nil))) (.cons (.ret (.con (.bl false))) .nil) .nil) (.cons (.asg (.name 1) (.fz (.split (.var 0) (.con (.str (Str.ofString ".")))))) (.cons (.ret (.and (.cons (.cmp .LtE (.b1 .len (.var 1)) (.con (.int (3)))) (.cons (.b1 .all (.fz (.comp (.name 2) (.val (.var 1)) .none (.call i_is_word (.cons (.var 2) .nil)) [2]))) .nil)))) .nil)))
def b_is_text : Ss := (.cons (.ret (.and (.cons (.isi (.var 0) .str) (.cons (.cmp .LtE (.b1 .len (.var 0)) (.glb (Str.ofString "TEXT") (.int (40)))) (.cons (.b1 .all (.fz (.comp (.name 1) (.val (.var 0)) .none (.chain .LtE .LtE (.con (.str (Str.ofString " "))) (.var 1) (.con (.str (Str.ofString "~")))) [1]))) .nil))))) .nil)
def l_shape_1 : Ss := (.cons (.ife (.cmp .NotIn (.var 3) (.glb (Str.ofString "FIGURES") (.str (Str.ofString "0123456789")))) (.cons (.asg (.name 1) (.bin .Add (.var 1) (.var 3))) .nil) (.cons (.ife (.or (.cons (.cmp .Eq (.var 2) (.con (.int (0)))) (.cons (.cmp .NotIn (.idx (.var 0) (.bin .Sub (.var 2) (.con (.int (1))))) (.glb (Str.ofString "FIGURES") (.str (Str.ofString "0123456789")))) .nil))) (.cons (.asg (.name 1) (.bin .Add (.var 1) (.con (.str (Str.ofString "#"))))) .nil) .nil) .nil)) .nil)
def b_shape : Ss := (.cons (.asg (.name 1) (.con (.str (Str.ofString "")))) (.cons (.loop (.names [2, 3]) (.enum (.var 0)) l_shape_1) (.cons (.ret (.var 1)) .nil)))
def l_is_key_1 : Ss := (.cons (.ife (.or (.cons (.not (.isi (.var 1) .tuple)) (.cons (.cmp .NotEq (.b1 .len (.var 1)) (.con (.int (2)))) (.cons (.not (.call i_is_place (.cons (.idx (.var 1) (.con (.int (0)))) .nil))) (.cons (.not (.call i_is_word (.cons (.idx (.var 1) (.con (.int (1)))) .nil))) .nil))))) (.cons (.ret (.con (.bl false))) .nil) .nil) .nil)
def b_is_key : Ss := (.cons (.ife (.or (.cons (.not (.isi (.var 0) .tuple)) (.cons (.cmp .NotEq (.b1 .len (.var 0)) (.con (.int (3)))) (.cons (.not (.isi (.idx (.var 0) (.con (.int (0)))) .str)) (.cons (.not (.call i_is_word (.cons (.idx (.var 0) (.con (.int (1)))) .nil))) .nil))))) (.cons (.ret (.con (.bl false))) .nil) .nil) (.cons (.ife (.cmp .Eq (.idx (.var 0) (.con (.int (0)))) (.con (.str (Str.ofString "text")))) (.cons (.ret (.and (.cons (.call i_is_text (.cons (.idx (.var 0) (.con (.int (2)))) .nil)) (.cons (.cmp .Eq (.call i_shape (.cons (.idx (.var 0) (.con (.int (2)))) .nil)) (.idx (.var 0) (.con (.int (2))))) .nil)))) .nil) .nil) (.cons (.ife (.or (.cons (.cmp .NotEq (.idx (.var 0) (.con (.int (0)))) (.con (.str (Str.ofString "frames")))) (.cons (.not (.isi (.idx (.var 0) (.con (.int (2)))) .tuple)) (.cons (.not (.chain .LtE .LtE (.con (.int (1))) (.b1 .len (.idx (.var 0) (.con (.int (2))))) (.glb (Str.ofString "FRAMES") (.int (12))))) .nil)))) (.cons (.ret (.con (.bl false))) .nil) .nil) (.cons (.loop (.name 1) (.val (.idx (.var 0) (.con (.int (2))))) l_is_key_1) (.cons (.ret (.con (.bl true))) .nil)))))
def b_need_keys : Ss := (.cons (.ife (.or (.cons (.not (.isi (.var 0) .list)) (.cons (.not (.b1 .all (.fz (.comp (.name 1) (.val (.var 0)) .none (.and (.cons (.call i_is_key (.cons (.var 1) .nil)) (.cons (.cmp .Eq (.idx (.var 1) (.con (.int (0)))) (.con (.str (Str.ofString "frames")))) .nil))) [1])))) .nil))) (.cons (.rais 3) .nil) .nil) .nil)
def l_branches_1 : Ss := (.cons (.asg (.name 6) (.tup (.cons (.var 3) (.cons (.slc (.var 4) .none (.some (.var 5))) .nil)))) (.cons (.dput (.var 1) (.var 6) (.bin .Add (.gget (.var 1) (.var 6) (.con (.int (0)))) (.con (.int (1))))) .nil))
def l_branches_2 : Ss := (.cons (.loop (.name 5) (.rng2 (.con (.int (1))) (.bin .Add (.b1 .len (.var 4)) (.con (.int (1))))) l_branches_1) .nil)
def b_branches : Ss := (.cons (.exp (.call i_need_keys (.cons (.var 0) .nil))) (.cons (.asg (.name 1) (.gnew)) (.cons (.loop (.names [2, 3, 4]) (.val (.var 0)) l_branches_2) (.cons (.gfz 1 (.ret (.fz (.srt (.fz (.comp (.names [6, 5]) (.dit (.var 1)) .none (.bin .Add (.var 6) (.tup (.cons (.var 5) .nil))) [5, 6])))))) .nil))))
def l_trunk_1 : E := (.and (.cons (.cmp .Lt (.var 2) (.b1 .len (.var 1))) (.cons (.b1 .all (.fz (.comp (.name 3) (.val (.var 0)) .none (.cmp .Eq (.slc (.idx (.var 3) (.con (.int (2)))) .none (.some (.bin .Add (.var 2) (.con (.int (1)))))) (.slc (.var 1) .none (.some (.bin .Add (.var 2) (.con (.int (1))))))) [3]))) .nil)))
def l_trunk_2 : Ss := (.cons (.asg (.name 2) (.bin .Add (.var 2) (.con (.int (1))))) .nil)
def b_trunk : Ss := (.cons (.exp (.call i_need_keys (.cons (.var 0) .nil))) (.cons (.ife (.or (.cons (.cmp .Eq (.var 0) (.fz (.disp .nil))) (.cons (.b1 .any (.fz (.comp (.name 3) (.val (.var 0)) .none (.cmp .NotEq (.idx (.var 3) (.con (.int (1)))) (.idx (.idx (.var 0) (.con (.int (0)))) (.con (.int (1))))) [3]))) .nil))) (.cons (.ret (.con .non)) .nil) .nil) (.cons (.asg (.name 1) (.idx (.idx (.var 0) (.con (.int (0)))) (.con (.int (2))))) (.cons (.asg (.name 2) (.con (.int (0)))) (.cons (.whl 64 l_trunk_1 l_trunk_2) (.cons (.ret (.tup (.cons (.idx (.idx (.var 0) (.con (.int (0)))) (.con (.int (1)))) (.cons (.slc (.var 1) .none (.some (.var 2))) .nil)))) .nil))))))
def b_need_count : Ss := (.cons (.ife (.not (.call i_is_whole (.cons (.var 0) (.cons (.con (.int (1))) (.cons (.con (.int (12))) .nil))))) (.cons (.rais 6) .nil) .nil) .nil)
def l_lots_1 : Ss := (.cons (.exp (.sapp (.var 2) (.tup (.cons (.idx (.var 3) (.con (.int (1)))) (.cons (.slc (.idx (.var 3) (.con (.int (2)))) .none (.some (.var 1))) .nil))) (.var 3))) .nil)
def b_lots : Ss := (.cons (.exp (.call i_need_keys (.cons (.var 0) .nil))) (.cons (.exp (.call i_need_count (.cons (.var 1) .nil))) (.cons (.asg (.name 2) (.gnew)) (.cons (.loop (.name 3) (.val (.fz (.sset (.var 0)))) l_lots_1) (.cons (.gfz 2 (.ret (.fz (.srt (.fz (.dvl (.var 2))))))) .nil)))))
def l_shortest_1 : Ss := (.cons (.ife (.not (.b1 .any (.fz (.comp (.name 4) (.val (.var 2)) .none (.cmp .Eq (.slc (.idx (.var 4) (.con (.int (2)))) .none (.some (.var 3))) (.slc (.idx (.var 1) (.con (.int (2)))) .none (.some (.var 3)))) [4])))) (.cons (.ret (.var 3)) .nil) .nil) .nil)
def b_shortest : Ss := (.cons (.exp (.call i_need_keys (.cons (.var 0) .nil))) (.cons (.exp (.call i_need_keys (.cons (.fz (.disp (.cons (.var 1) .nil))) .nil))) (.cons (.asg (.name 2) (.fz (.comp (.name 4) (.val (.var 0)) (.some (.and (.cons (.cmp .Eq (.idx (.var 4) (.con (.int (1)))) (.idx (.var 1) (.con (.int (1))))) (.cons (.cmp .NotEq (.var 4) (.var 1)) .nil)))) (.var 4) [4]))) (.cons (.loop (.name 3) (.rng2 (.con (.int (1))) (.bin .Add (.b1 .len (.idx (.var 1) (.con (.int (2))))) (.con (.int (1))))) l_shortest_1) (.cons (.ret (.con .non)) .nil)))))
def b__law_cell_at : Ss := (.cons (.ife (.cmp .Lt (.var 1) (.b1 .len (.var 0))) (.cons (.ret (.idx (.var 0) (.var 1))) .nil) .nil) (.cons (.ife (.cmp .Eq (.var 0) (.fz (.disp .nil))) (.cons (.ret (.con (.int (0)))) .nil) .nil) (.cons (.ret (.bin .Add (.bin .Mult (.idx (.var 0) (.bin .Mod (.var 1) (.b1 .len (.var 0)))) (.con (.int (31)))) (.var 1))) .nil)))
def b__law_mixed : Ss := (.cons (.asg (.name 3) (.bin .Mod (.bin .Add (.bin .Add (.bin .Mult (.call i__law_cell_at (.cons (.var 0) (.cons (.var 1) .nil))) (.con (.int (1103515245)))) (.bin .Mult (.con (.int (7919))) (.var 1))) (.con (.int (12345)))) (.con (.int (2147483647))))) (.cons (.ret (.bin .Mod (.bin .Mod (.bin .Mod (.bin .Pow (.var 3) (.con (.int (5)))) (.con (.int (2147483647)))) (.con (.int (999983)))) (.var 2))) .nil))
def b__law_draw : Ss := (.cons (.exp (.app (.var 1) (.con (.int (0))))) (.cons (.ret (.call i__law_mixed (.cons (.var 0) (.cons (.b1 .len (.var 1)) (.cons (.var 2) .nil))))) .nil))
def b__law_pick : Ss := (.cons (.ret (.idx (.var 2) (.call i__law_draw (.cons (.var 0) (.cons (.var 1) (.cons (.b1 .len (.var 2)) .nil)))))) .nil)
def b__law_place : Ss := (.cons (.ret (.call i__law_pick (.cons (.var 0) (.cons (.var 1) (.cons (.fz (.disp (.cons (.con (.str (Str.ofString "a"))) (.cons (.con (.str (Str.ofString "a.b"))) (.cons (.con (.str (Str.ofString "a.b.c"))) (.cons (.con (.str (Str.ofString "ab"))) (.cons (.con (.str (Str.ofString "lib"))) (.cons (.con (.str (Str.ofString "lib.x"))) (.cons (.con (.str (Str.ofString "lib.x"))) (.cons (.con (.str (Str.ofString "z"))) .nil)))))))))) .nil))))) .nil)
def l__law_fall_1 : Ss := (.cons (.par [7, 8] (.cons (.call i__law_place (.cons (.var 0) (.cons (.var 1) .nil))) (.cons (.call i__law_pick (.cons (.var 0) (.cons (.var 1) (.cons (.fz (.disp (.cons (.con (.str (Str.ofString "f"))) (.cons (.con (.str (Str.ofString "g"))) (.cons (.con (.str (Str.ofString "main"))) .nil))))) .nil)))) .nil))) (.cons (.exp (.app (.var 3) (.tup (.cons (.var 7) (.cons (.var 8) (.cons (.call i__law_draw (.cons (.var 0) (.cons (.var 1) (.cons (.con (.int (40))) .nil)))) .nil)))))) .nil))
def b__law_fall : Ss := (.cons (.asg (.name 3) (.own (.disp .nil))) (.cons (.loop (.name 4) (.rng1 (.call i__law_draw (.cons (.var 0) (.cons (.var 1) (.cons (.con (.int (5))) .nil))))) l__law_fall_1) (.cons (.asg (.name 5) (.call i__law_pick (.cons (.var 0) (.cons (.var 1) (.cons (.fz (.disp (.cons (.con (.str (Str.ofString ""))) (.cons (.con (.str (Str.ofString "no 12"))) (.cons (.con (.str (Str.ofString "no 7"))) (.cons (.con (.str (Str.ofString "bad"))) (.cons (.con (.str (Str.ofString " x "))) (.cons (.con (.str (Str.ofString "at 3 of 44"))) (.cons (.con (.str (Str.ofString "~9~"))) .nil))))))))) .nil))))) (.cons (.asg (.name 6) (.call i__law_pick (.cons (.var 0) (.cons (.var 1) (.cons (.fz (.disp (.cons (.con (.str (Str.ofString "err"))) (.cons (.con (.str (Str.ofString "err"))) (.cons (.con (.str (Str.ofString "oops"))) (.cons (.con (.str (Str.ofString "halt"))) .nil)))))) .nil))))) (.cons (.ret (.tup (.cons (.var 2) (.cons (.call i__law_draw (.cons (.var 0) (.cons (.var 1) (.cons (.con (.int (60))) .nil)))) (.cons (.call i__law_draw (.cons (.var 0) (.cons (.var 1) (.cons (.con (.int (5))) .nil)))) (.cons (.var 6) (.cons (.var 5) (.cons (.b1 .tuple (.var 3)) .nil)))))))) .nil)))))
def b__law_falls : Ss := (.cons (.ret (.fz (.comp (.name 3) (.rng1 (.call i__law_draw (.cons (.var 0) (.cons (.var 1) (.cons (.bin .Add (.var 2) (.con (.int (1)))) .nil))))) .none (.call i__law_fall (.cons (.var 0) (.cons (.var 1) (.cons (.var 3) .nil)))) [3]))) .nil)
def b__law_within : Ss := (.cons (.ret (.or (.cons (.cmp .Eq (.var 0) (.var 1)) (.cons (.cmp .Eq (.slc (.var 0) .none (.some (.bin .Add (.b1 .len (.var 1)) (.con (.int (1)))))) (.bin .Add (.var 1) (.con (.str (Str.ofString "."))))) .nil)))) .nil)
def b__law_rules : Ss := (.cons (.asg (.name 2) (.b1 .tuple (.fz (.comp (.name 4) (.rng1 (.call i__law_draw (.cons (.var 0) (.cons (.var 1) (.cons (.con (.int (3))) .nil))))) .none (.call i__law_place (.cons (.var 0) (.cons (.var 1) .nil))) [4])))) (.cons (.asg (.name 3) (.b1 .tuple (.fz (.comp (.name 4) (.rng1 (.call i__law_draw (.cons (.var 0) (.cons (.var 1) (.cons (.con (.int (3))) .nil))))) .none (.call i__law_place (.cons (.var 0) (.cons (.var 1) .nil))) [4])))) (.cons (.ret (.tup (.cons (.var 2) (.cons (.var 3) (.cons (.bin .Add (.con (.int (1))) (.call i__law_draw (.cons (.var 0) (.cons (.var 1) (.cons (.con (.int (5))) .nil))))) .nil))))) .nil)))
def l__law_key_1 : Ss := (.cons (.ife (.cmp .NotIn (.var 10) (.con (.str (Str.ofString "0123456789")))) (.cons (.asg (.name 5) (.bin .Add (.var 5) (.var 10))) .nil) (.cons (.ife (.or (.cons (.cmp .Eq (.var 9) (.con (.int (0)))) (.cons (.cmp .NotIn (.idx (.idx (.var 1) (.con (.int (4)))) (.bin .Sub (.var 9) (.con (.int (1))))) (.con (.str (Str.ofString "0123456789")))) .nil))) (.cons (.asg (.name 5) (.bin .Add (.var 5) (.con (.str (Str.ofString "#"))))) .nil) .nil) .nil)) .nil)
def l__law_key_2 : Ss := (.cons (.ife (.cmp .Eq (.fz (.comp (.name 12) (.val (.idx (.var 0) (.con (.int (1))))) (.some (.call i__law_within (.cons (.var 6) (.cons (.var 12) .nil)))) (.var 12) [12])) (.fz (.disp .nil))) (.cons (.exp (.app (.var 2) (.tup (.cons (.var 6) (.cons (.var 7) .nil))))) .nil) .nil) .nil)
def b__law_key : Ss := (.cons (.asg (.name 2) (.own (.disp .nil))) (.cons (.loop (.names [6, 7, 8]) (.val (.idx (.var 1) (.con (.int (5))))) l__law_key_2) (.cons (.asg (.name 3) (.fz (.comp (.name 11) (.val (.var 2)) (.some (.cmp .NotEq (.fz (.comp (.name 12) (.val (.idx (.var 0) (.con (.int (0))))) (.some (.call i__law_within (.cons (.idx (.var 11) (.con (.int (0)))) (.cons (.var 12) .nil)))) (.var 12) [12])) (.fz (.disp .nil)))) (.var 11) [11]))) (.cons (.asg (.name 4) (.slc (.ite (.cmp .NotEq (.var 3) (.fz (.disp .nil))) (.var 3) (.var 2)) .none (.some (.idx (.var 0) (.con (.int (2))))))) (.cons (.ife (.cmp .NotEq (.var 4) (.fz (.disp .nil))) (.cons (.ret (.tup (.cons (.con (.str (Str.ofString "frames"))) (.cons (.idx (.var 1) (.con (.int (3)))) (.cons (.b1 .tuple (.var 4)) .nil))))) .nil) .nil) (.cons (.asg (.name 5) (.con (.str (Str.ofString "")))) (.cons (.loop (.names [9, 10]) (.enum (.idx (.var 1) (.con (.int (4))))) l__law_key_1) (.cons (.ret (.tup (.cons (.con (.str (Str.ofString "text"))) (.cons (.idx (.var 1) (.con (.int (3)))) (.cons (.var 5) .nil))))) .nil))))))))
def l__law_frame_key_1 : Ss := (.cons (.exp (.app (.var 2) (.tup (.cons (.call i__law_pick (.cons (.var 0) (.cons (.var 1) (.cons (.fz (.disp (.cons (.con (.str (Str.ofString "a"))) (.cons (.con (.str (Str.ofString "a"))) (.cons (.con (.str (Str.ofString "a.b"))) .nil))))) .nil)))) (.cons (.call i__law_pick (.cons (.var 0) (.cons (.var 1) (.cons (.fz (.disp (.cons (.con (.str (Str.ofString "f"))) (.cons (.con (.str (Str.ofString "f"))) (.cons (.con (.str (Str.ofString "g"))) .nil))))) .nil)))) .nil))))) .nil)
def b__law_frame_key : Ss := (.cons (.asg (.name 2) (.own (.disp .nil))) (.cons (.loop (.name 3) (.rng1 (.bin .Add (.con (.int (1))) (.call i__law_draw (.cons (.var 0) (.cons (.var 1) (.cons (.con (.int (4))) .nil)))))) l__law_frame_key_1) (.cons (.ret (.tup (.cons (.con (.str (Str.ofString "frames"))) (.cons (.call i__law_pick (.cons (.var 0) (.cons (.var 1) (.cons (.fz (.disp (.cons (.con (.str (Str.ofString "err"))) (.cons (.con (.str (Str.ofString "err"))) (.cons (.con (.str (Str.ofString "oops"))) .nil))))) .nil)))) (.cons (.b1 .tuple (.var 2)) .nil))))) .nil)))
def b__law_keys : Ss := (.cons (.ret (.fz (.comp (.name 3) (.rng1 (.call i__law_draw (.cons (.var 0) (.cons (.var 1) (.cons (.bin .Add (.var 2) (.con (.int (1)))) .nil))))) .none (.call i__law_frame_key (.cons (.var 0) (.cons (.var 1) .nil))) [3]))) .nil)
def b__law_told : Ss := (.cons (.tryW (.cons (.ret (.ite (.cmp .Lt (.var 0) (.con (.int (2)))) (.ftab [i_branches, i_trunk] (.var 0) (.cons (.var 1) .nil)) (.ftab [i_lots, i_shortest] (.bin .Sub (.var 0) (.con (.int (2)))) (.cons (.var 1) (.cons (.var 2) .nil))))) .nil) 3) .nil)
def t_law_11 : Ss := (.cons (.ret (.and (.cons (.cmp .Eq (.call i__law_told (.cons (.con (.int (3))) (.cons (.fz (.disp .nil)) (.cons (.var 5) .nil)))) (.con (.int (1)))) (.cons (.cmp .Eq (.call i__law_told (.cons (.con (.int (1))) (.cons (.fz (.disp (.cons (.var 5) (.cons (.var 5) .nil)))) (.cons (.con .non) .nil)))) (.tup (.cons (.idx (.var 5) (.con (.int (1)))) (.cons (.idx (.var 5) (.con (.int (2)))) .nil)))) .nil)))) .nil)
def t_law_10 : Ss := (.cons (.asg (.name 5) (.call i__law_frame_key (.cons (.var 0) (.cons (.var 1) .nil)))) t_law_11)
def t_law_9 : Ss := (.cons (.ife (.cmp .NotEq (.fz (.comp (.name 6) (.rng1 (.con (.int (3)))) .none (.call i__law_told (.cons (.var 6) (.cons (.fz (.disp .nil)) (.cons (.con (.int (1))) .nil)))) [6])) (.fz (.disp (.cons (.fz (.disp .nil)) (.cons (.con .non) (.cons (.fz (.disp .nil)) .nil)))))) (.cons (.ret (.con (.bl false))) .nil) .nil) t_law_10)
def t_law_8 : Ss := (.cons (.ife (.cmp .NotEq (.call i__law_told (.cons (.con (.int (2))) (.cons (.var 2) (.cons (.call i__law_pick (.cons (.var 0) (.cons (.var 1) (.cons (.fz (.disp (.cons (.con .non) (.cons (.con (.int (0))) (.cons (.con (.int (13))) (.cons (.con (.bl true)) (.cons (.con (.str (Str.ofString "1"))) (.cons (.neg (.con (.int (1)))) .nil)))))))) .nil)))) .nil)))) (.tup (.cons (.con (.str (Str.ofString "refused"))) (.cons (.con (.int (6))) .nil)))) (.cons (.ret (.con (.bl false))) .nil) .nil) t_law_9)
def t_law_7 : Ss := (.cons (.ife (.cmp .NotEq (.call i__law_told (.cons (.con (.int (3))) (.cons (.var 2) (.cons (.var 3) .nil)))) (.tup (.cons (.con (.str (Str.ofString "refused"))) (.cons (.con (.int (3))) .nil)))) (.cons (.ret (.con (.bl false))) .nil) .nil) t_law_8)
def t_law_6 : Ss := (.cons (.ife (.cmp .NotEq (.fz (.comp (.name 6) (.rng1 (.con (.int (4)))) .none (.call i__law_told (.cons (.var 6) (.cons (.var 4) (.cons (.con .non) .nil)))) [6])) (.bin .Mult (.fz (.disp (.cons (.tup (.cons (.con (.str (Str.ofString "refused"))) (.cons (.con (.int (3))) .nil))) .nil))) (.con (.int (4))))) (.cons (.ret (.con (.bl false))) .nil) .nil) t_law_7)
def t_law_5 : Ss := (.cons (.asg (.name 4) (.call i__law_pick (.cons (.var 0) (.cons (.var 1) (.cons (.fz (.disp (.cons (.con .non) (.cons (.con (.int (5))) (.cons (.b1 .tuple (.var 2)) (.cons (.bin .Add (.var 2) (.fz (.disp (.cons (.var 3) .nil)))) (.cons (.bin .Add (.fz (.disp (.cons (.var 3) .nil))) (.var 2)) (.cons (.con (.str (Str.ofString "keys"))) .nil)))))))) .nil))))) t_law_6)
def t_law_4 : Ss := (.cons (.asg (.name 3) (.call i__law_pick (.cons (.var 0) (.cons (.var 1) (.cons (.bin .Add (.var 3) (.fz (.disp (.cons (.tup (.cons (.con (.str (Str.ofString "frames"))) (.cons (.con (.str (Str.ofString "err"))) (.cons (.tup (.cons (.tup (.cons (.con (.str (Str.ofString "a"))) .nil)) .nil)) .nil)))) .nil)))) .nil))))) t_law_5)
def t_law_3 : Ss := (.cons (.asg (.name 3) (.bin .Add (.var 3) (.fz (.disp (.cons (.fz (.disp (.cons (.con (.str (Str.ofString "frames"))) (.cons (.con (.str (Str.ofString "err"))) (.cons (.tup (.cons (.tup (.cons (.con (.str (Str.ofString "a"))) (.cons (.con (.str (Str.ofString "f"))) .nil))) .nil)) .nil))))) (.cons (.tup (.cons (.con (.str (Str.ofString "frames"))) (.cons (.con (.str (Str.ofString "err"))) (.cons (.bin .Mult (.tup (.cons (.tup (.cons (.con (.str (Str.ofString "a"))) (.cons (.con (.str (Str.ofString "f"))) .nil))) .nil)) (.con (.int (13)))) .nil)))) .nil)))))) t_law_4)
def t_law_2 : Ss := (.cons (.asg (.name 3) (.fz (.disp (.cons (.con .non) (.cons (.con (.int (5))) (.cons (.tup (.cons (.con (.str (Str.ofString "text"))) (.cons (.con (.str (Str.ofString "err"))) (.cons (.con (.str (Str.ofString "x"))) .nil)))) (.cons (.tup (.cons (.con (.str (Str.ofString "frames"))) (.cons (.con (.str (Str.ofString "err"))) (.cons (.tup .nil) .nil)))) (.cons (.tup (.cons (.con (.str (Str.ofString "frames"))) (.cons (.con (.str (Str.ofString "Err"))) (.cons (.tup (.cons (.tup (.cons (.con (.str (Str.ofString "a"))) (.cons (.con (.str (Str.ofString "f"))) .nil))) .nil)) .nil)))) (.cons (.tup (.cons (.con (.str (Str.ofString "keys"))) .nil)) .nil))))))))) t_law_3)
def t_law_1 : Ss := (.cons (.asg (.name 2) (.call i__law_keys (.cons (.var 0) (.cons (.var 1) (.cons (.con (.int (5))) .nil))))) t_law_2)
def b_law : Ss := (.cons (.asg (.name 1) (.own (.disp .nil))) t_law_1)
def tab : List Fd := [⟨3, 3, b_is_whole⟩, ⟨1, 1, b_is_word⟩, ⟨1, 3, b_is_place⟩, ⟨1, 2, b_is_text⟩, ⟨1, 4, b_shape⟩, ⟨1, 2, b_is_key⟩, ⟨1, 2, b_need_keys⟩, ⟨1, 7, b_branches⟩, ⟨1, 4, b_trunk⟩, ⟨1, 1, b_need_count⟩, ⟨2, 4, b_lots⟩, ⟨2, 5, b_shortest⟩, ⟨2, 2, b__law_cell_at⟩, ⟨3, 4, b__law_mixed⟩, ⟨3, 3, b__law_draw⟩, ⟨3, 3, b__law_pick⟩, ⟨2, 2, b__law_place⟩, ⟨3, 9, b__law_fall⟩, ⟨3, 4, b__law_falls⟩, ⟨2, 2, b__law_within⟩, ⟨2, 5, b__law_rules⟩, ⟨2, 13, b__law_key⟩, ⟨2, 4, b__law_frame_key⟩, ⟨3, 4, b__law_keys⟩, ⟨3, 4, b__law_told⟩, ⟨1, 7, b_law⟩]
theorem r_is_whole (W : Wh) (n : Nat) (a0 a1 a2 : D) (s : Sto) : G7.run tab W (n + 1) i_is_whole [a0, a1, a2] s = fin s.t.length (exs (G7.run tab W n) W b_is_whole [some a0, some a1, some a2] s) := run_eq (fd := ⟨3, 3, b_is_whole⟩) rfl rfl
theorem r_is_word (W : Wh) (n : Nat) (a0 : D) (s : Sto) : G7.run tab W (n + 1) i_is_word [a0] s = fin s.t.length (exs (G7.run tab W n) W b_is_word [some a0] s) := run_eq (fd := ⟨1, 1, b_is_word⟩) rfl rfl
theorem r_is_place (W : Wh) (n : Nat) (a0 : D) (s : Sto) : G7.run tab W (n + 1) i_is_place [a0] s = fin s.t.length (exs (G7.run tab W n) W b_is_place [some a0, none, none] s) := run_eq (fd := ⟨1, 3, b_is_place⟩) rfl rfl
theorem r_is_text (W : Wh) (n : Nat) (a0 : D) (s : Sto) : G7.run tab W (n + 1) i_is_text [a0] s = fin s.t.length (exs (G7.run tab W n) W b_is_text [some a0, none] s) := run_eq (fd := ⟨1, 2, b_is_text⟩) rfl rfl
theorem r_shape (W : Wh) (n : Nat) (a0 : D) (s : Sto) : G7.run tab W (n + 1) i_shape [a0] s = fin s.t.length (exs (G7.run tab W n) W b_shape [some a0, none, none, none] s) := run_eq (fd := ⟨1, 4, b_shape⟩) rfl rfl
theorem r_is_key (W : Wh) (n : Nat) (a0 : D) (s : Sto) : G7.run tab W (n + 1) i_is_key [a0] s = fin s.t.length (exs (G7.run tab W n) W b_is_key [some a0, none] s) := run_eq (fd := ⟨1, 2, b_is_key⟩) rfl rfl
theorem r_need_keys (W : Wh) (n : Nat) (a0 : D) (s : Sto) : G7.run tab W (n + 1) i_need_keys [a0] s = fin s.t.length (exs (G7.run tab W n) W b_need_keys [some a0, none] s) := run_eq (fd := ⟨1, 2, b_need_keys⟩) rfl rfl
theorem r_branches (W : Wh) (n : Nat) (a0 : D) (s : Sto) : G7.run tab W (n + 1) i_branches [a0] s = fin s.t.length (exs (G7.run tab W n) W b_branches [some a0, none, none, none, none, none, none] s) := run_eq (fd := ⟨1, 7, b_branches⟩) rfl rfl
theorem r_trunk (W : Wh) (n : Nat) (a0 : D) (s : Sto) : G7.run tab W (n + 1) i_trunk [a0] s = fin s.t.length (exs (G7.run tab W n) W b_trunk [some a0, none, none, none] s) := run_eq (fd := ⟨1, 4, b_trunk⟩) rfl rfl
theorem r_need_count (W : Wh) (n : Nat) (a0 : D) (s : Sto) : G7.run tab W (n + 1) i_need_count [a0] s = fin s.t.length (exs (G7.run tab W n) W b_need_count [some a0] s) := run_eq (fd := ⟨1, 1, b_need_count⟩) rfl rfl
theorem r_lots (W : Wh) (n : Nat) (a0 a1 : D) (s : Sto) : G7.run tab W (n + 1) i_lots [a0, a1] s = fin s.t.length (exs (G7.run tab W n) W b_lots [some a0, some a1, none, none] s) := run_eq (fd := ⟨2, 4, b_lots⟩) rfl rfl
theorem r_shortest (W : Wh) (n : Nat) (a0 a1 : D) (s : Sto) : G7.run tab W (n + 1) i_shortest [a0, a1] s = fin s.t.length (exs (G7.run tab W n) W b_shortest [some a0, some a1, none, none, none] s) := run_eq (fd := ⟨2, 5, b_shortest⟩) rfl rfl
theorem r__law_cell_at (W : Wh) (n : Nat) (a0 a1 : D) (s : Sto) : G7.run tab W (n + 1) i__law_cell_at [a0, a1] s = fin s.t.length (exs (G7.run tab W n) W b__law_cell_at [some a0, some a1] s) := run_eq (fd := ⟨2, 2, b__law_cell_at⟩) rfl rfl
theorem r__law_mixed (W : Wh) (n : Nat) (a0 a1 a2 : D) (s : Sto) : G7.run tab W (n + 1) i__law_mixed [a0, a1, a2] s = fin s.t.length (exs (G7.run tab W n) W b__law_mixed [some a0, some a1, some a2, none] s) := run_eq (fd := ⟨3, 4, b__law_mixed⟩) rfl rfl
theorem r__law_draw (W : Wh) (n : Nat) (a0 a1 a2 : D) (s : Sto) : G7.run tab W (n + 1) i__law_draw [a0, a1, a2] s = fin s.t.length (exs (G7.run tab W n) W b__law_draw [some a0, some a1, some a2] s) := run_eq (fd := ⟨3, 3, b__law_draw⟩) rfl rfl
theorem r__law_pick (W : Wh) (n : Nat) (a0 a1 a2 : D) (s : Sto) : G7.run tab W (n + 1) i__law_pick [a0, a1, a2] s = fin s.t.length (exs (G7.run tab W n) W b__law_pick [some a0, some a1, some a2] s) := run_eq (fd := ⟨3, 3, b__law_pick⟩) rfl rfl
theorem r__law_place (W : Wh) (n : Nat) (a0 a1 : D) (s : Sto) : G7.run tab W (n + 1) i__law_place [a0, a1] s = fin s.t.length (exs (G7.run tab W n) W b__law_place [some a0, some a1] s) := run_eq (fd := ⟨2, 2, b__law_place⟩) rfl rfl
theorem r__law_fall (W : Wh) (n : Nat) (a0 a1 a2 : D) (s : Sto) : G7.run tab W (n + 1) i__law_fall [a0, a1, a2] s = fin s.t.length (exs (G7.run tab W n) W b__law_fall [some a0, some a1, some a2, none, none, none, none, none, none] s) := run_eq (fd := ⟨3, 9, b__law_fall⟩) rfl rfl
theorem r__law_falls (W : Wh) (n : Nat) (a0 a1 a2 : D) (s : Sto) : G7.run tab W (n + 1) i__law_falls [a0, a1, a2] s = fin s.t.length (exs (G7.run tab W n) W b__law_falls [some a0, some a1, some a2, none] s) := run_eq (fd := ⟨3, 4, b__law_falls⟩) rfl rfl
theorem r__law_within (W : Wh) (n : Nat) (a0 a1 : D) (s : Sto) : G7.run tab W (n + 1) i__law_within [a0, a1] s = fin s.t.length (exs (G7.run tab W n) W b__law_within [some a0, some a1] s) := run_eq (fd := ⟨2, 2, b__law_within⟩) rfl rfl
theorem r__law_rules (W : Wh) (n : Nat) (a0 a1 : D) (s : Sto) : G7.run tab W (n + 1) i__law_rules [a0, a1] s = fin s.t.length (exs (G7.run tab W n) W b__law_rules [some a0, some a1, none, none, none] s) := run_eq (fd := ⟨2, 5, b__law_rules⟩) rfl rfl
theorem r__law_key (W : Wh) (n : Nat) (a0 a1 : D) (s : Sto) : G7.run tab W (n + 1) i__law_key [a0, a1] s = fin s.t.length (exs (G7.run tab W n) W b__law_key [some a0, some a1, none, none, none, none, none, none, none, none, none, none, none] s) := run_eq (fd := ⟨2, 13, b__law_key⟩) rfl rfl
theorem r__law_frame_key (W : Wh) (n : Nat) (a0 a1 : D) (s : Sto) : G7.run tab W (n + 1) i__law_frame_key [a0, a1] s = fin s.t.length (exs (G7.run tab W n) W b__law_frame_key [some a0, some a1, none, none] s) := run_eq (fd := ⟨2, 4, b__law_frame_key⟩) rfl rfl
theorem r__law_keys (W : Wh) (n : Nat) (a0 a1 a2 : D) (s : Sto) : G7.run tab W (n + 1) i__law_keys [a0, a1, a2] s = fin s.t.length (exs (G7.run tab W n) W b__law_keys [some a0, some a1, some a2, none] s) := run_eq (fd := ⟨3, 4, b__law_keys⟩) rfl rfl
theorem r__law_told (W : Wh) (n : Nat) (a0 a1 a2 : D) (s : Sto) : G7.run tab W (n + 1) i__law_told [a0, a1, a2] s = fin s.t.length (exs (G7.run tab W n) W b__law_told [some a0, some a1, some a2, none] s) := run_eq (fd := ⟨3, 4, b__law_told⟩) rfl rfl
theorem r_law (W : Wh) (n : Nat) (a0 : D) (s : Sto) : G7.run tab W (n + 1) i_law [a0] s = fin s.t.length (exs (G7.run tab W n) W b_law [some a0, none, none, none, none, none, none] s) := run_eq (fd := ⟨1, 7, b_law⟩) rfl rfl
end Rw

set_option maxHeartbeats 0
set_option autoImplicit true
namespace Rb
open PySem PySem.Spec PyProof.Rows G7 Rw
def fes : List FE := [⟨((Str.ofString "is_whole"), none), [(Str.ofString "thing"), (Str.ofString "low"), (Str.ofString "most")]⟩, ⟨((Str.ofString "is_word"), none), [(Str.ofString "thing")]⟩, ⟨((Str.ofString "is_place"), none), [(Str.ofString "thing")]⟩, ⟨((Str.ofString "is_text"), none), [(Str.ofString "thing")]⟩, ⟨((Str.ofString "shape"), none), [(Str.ofString "text")]⟩, ⟨((Str.ofString "is_key"), none), [(Str.ofString "thing")]⟩, ⟨((Str.ofString "need_keys"), none), [(Str.ofString "keys")]⟩, ⟨((Str.ofString "branches"), none), [(Str.ofString "keys")]⟩, ⟨((Str.ofString "trunk"), none), [(Str.ofString "keys")]⟩, ⟨((Str.ofString "need_count"), none), [(Str.ofString "many")]⟩, ⟨((Str.ofString "lots"), none), [(Str.ofString "keys"), (Str.ofString "many")]⟩, ⟨((Str.ofString "shortest"), none), [(Str.ofString "keys"), (Str.ofString "key")]⟩, ⟨((Str.ofString "_law_cell_at"), none), [(Str.ofString "script"), (Str.ofString "k")]⟩, ⟨((Str.ofString "_law_mixed"), none), [(Str.ofString "script"), (Str.ofString "k"), (Str.ofString "many")]⟩, ⟨((Str.ofString "_law_draw"), none), [(Str.ofString "script"), (Str.ofString "town"), (Str.ofString "many")]⟩, ⟨((Str.ofString "_law_pick"), none), [(Str.ofString "script"), (Str.ofString "town"), (Str.ofString "some")]⟩, ⟨((Str.ofString "_law_place"), none), [(Str.ofString "script"), (Str.ofString "town")]⟩, ⟨((Str.ofString "_law_fall"), none), [(Str.ofString "script"), (Str.ofString "town"), (Str.ofString "number")]⟩, ⟨((Str.ofString "_law_falls"), none), [(Str.ofString "script"), (Str.ofString "town"), (Str.ofString "most")]⟩, ⟨((Str.ofString "_law_within"), none), [(Str.ofString "place"), (Str.ofString "other")]⟩, ⟨((Str.ofString "_law_rules"), none), [(Str.ofString "script"), (Str.ofString "town")]⟩, ⟨((Str.ofString "_law_key"), none), [(Str.ofString "rules"), (Str.ofString "fall")]⟩, ⟨((Str.ofString "_law_frame_key"), none), [(Str.ofString "script"), (Str.ofString "town")]⟩, ⟨((Str.ofString "_law_keys"), none), [(Str.ofString "script"), (Str.ofString "town"), (Str.ofString "most")]⟩, ⟨((Str.ofString "_law_told"), none), [(Str.ofString "what"), (Str.ofString "keys"), (Str.ofString "thing")]⟩, ⟨((Str.ofString "law"), none), [(Str.ofString "script")]⟩]
def T : Tabs := ⟨fes, [(Str.ofString "ValueError"), (Str.ofString "all"), (Str.ofString "any"), (Str.ofString "bool"), (Str.ofString "enumerate"), (Str.ofString "int"), (Str.ofString "isinstance"), (Str.ofString "len"), (Str.ofString "list"), (Str.ofString "range"), (Str.ofString "set"), (Str.ofString "sorted"), (Str.ofString "str"), (Str.ofString "tuple")], [((Str.ofString "LETTERS"), (.str (Str.ofString "abcdefghijklmnopqrstuvwxyz"))), ((Str.ofString "FIGURES"), (.str (Str.ofString "0123456789"))), ((Str.ofString "LONGEST"), (.int (8))), ((Str.ofString "TEXT"), (.int (40))), ((Str.ofString "FRAMES"), (.int (12)))], [(Str.ofString "NoFall"), (Str.ofString "NoPiece"), (Str.ofString "NoRules"), (Str.ofString "NoKey"), (Str.ofString "NoMoment"), (Str.ofString "NoVersion"), (Str.ofString "NoCount"), (Str.ofString "Twice"), (Str.ofString "Across"), (Str.ofString "Full"), (Str.ofString "NoDeed"), (Str.ofString "NoText"), (Str.ofString "NoAsk"), (Str.ofString "Unlike")], true, true, false, [], []⟩
def Ns : List (List Str) := [[(Str.ofString "thing"), (Str.ofString "low"), (Str.ofString "most")], [(Str.ofString "thing")], [(Str.ofString "thing"), (Str.ofString "words"), (Str.ofString "word")], [(Str.ofString "thing"), (Str.ofString "sign")], [(Str.ofString "text"), (Str.ofString "made"), (Str.ofString "at"), (Str.ofString "sign")], [(Str.ofString "thing"), (Str.ofString "one")], [(Str.ofString "keys"), (Str.ofString "key")], [(Str.ofString "keys"), (Str.ofString "book"), (Str.ofString "word"), (Str.ofString "name"), (Str.ofString "frames"), (Str.ofString "many"), (Str.ofString "one")], [(Str.ofString "keys"), (Str.ofString "frames"), (Str.ofString "many"), (Str.ofString "key")], [(Str.ofString "many")], [(Str.ofString "keys"), (Str.ofString "many"), (Str.ofString "book"), (Str.ofString "key")], [(Str.ofString "keys"), (Str.ofString "key"), (Str.ofString "others"), (Str.ofString "many"), (Str.ofString "other")], [(Str.ofString "script"), (Str.ofString "k")], [(Str.ofString "script"), (Str.ofString "k"), (Str.ofString "many"), (Str.ofString "drawn")], [(Str.ofString "script"), (Str.ofString "town"), (Str.ofString "many")], [(Str.ofString "script"), (Str.ofString "town"), (Str.ofString "some")], [(Str.ofString "script"), (Str.ofString "town")], [(Str.ofString "script"), (Str.ofString "town"), (Str.ofString "number"), (Str.ofString "frames"), (Str.ofString "k"), (Str.ofString "text"), (Str.ofString "word"), (Str.ofString "place"), (Str.ofString "name")], [(Str.ofString "script"), (Str.ofString "town"), (Str.ofString "most"), (Str.ofString "k")], [(Str.ofString "place"), (Str.ofString "other")], [(Str.ofString "script"), (Str.ofString "town"), (Str.ofString "own"), (Str.ofString "skipped"), (Str.ofString "k")], [(Str.ofString "rules"), (Str.ofString "fall"), (Str.ofString "rest"), (Str.ofString "own"), (Str.ofString "some"), (Str.ofString "made"), (Str.ofString "place"), (Str.ofString "name"), (Str.ofString "row"), (Str.ofString "at"), (Str.ofString "sign"), (Str.ofString "frame"), (Str.ofString "one")], [(Str.ofString "script"), (Str.ofString "town"), (Str.ofString "frames"), (Str.ofString "k")], [(Str.ofString "script"), (Str.ofString "town"), (Str.ofString "most"), (Str.ofString "k")], [(Str.ofString "what"), (Str.ofString "keys"), (Str.ofString "thing"), (Str.ofString "e")], [(Str.ofString "script"), (Str.ofString "town"), (Str.ofString "keys"), (Str.ofString "odd"), (Str.ofString "bad"), (Str.ofString "key"), (Str.ofString "what")]]
def top (i : Nat) : Stmt := PySem.Challenge.pw_fallgroups_k23_branching_refused.main.body.getD i (.Pass ⟨0, 0, 0, 0⟩)
def d_is_whole : He.DefD := ⟨((Str.ofString "is_whole"), none), (Str.ofString "is_whole"), (Str.ofString "is_whole"), L2.defArgs (top 22), L2.defBody (top 22), L2.defScope (top 22), [], []⟩
def d_is_word : He.DefD := ⟨((Str.ofString "is_word"), none), (Str.ofString "is_word"), (Str.ofString "is_word"), L2.defArgs (top 23), L2.defBody (top 23), L2.defScope (top 23), [], []⟩
def d_is_place : He.DefD := ⟨((Str.ofString "is_place"), none), (Str.ofString "is_place"), (Str.ofString "is_place"), L2.defArgs (top 24), L2.defBody (top 24), L2.defScope (top 24), [], []⟩
def d_is_text : He.DefD := ⟨((Str.ofString "is_text"), none), (Str.ofString "is_text"), (Str.ofString "is_text"), L2.defArgs (top 25), L2.defBody (top 25), L2.defScope (top 25), [], []⟩
def d_shape : He.DefD := ⟨((Str.ofString "shape"), none), (Str.ofString "shape"), (Str.ofString "shape"), L2.defArgs (top 27), L2.defBody (top 27), L2.defScope (top 27), [], []⟩
def d_is_key : He.DefD := ⟨((Str.ofString "is_key"), none), (Str.ofString "is_key"), (Str.ofString "is_key"), L2.defArgs (top 28), L2.defBody (top 28), L2.defScope (top 28), [], []⟩
def d_need_keys : He.DefD := ⟨((Str.ofString "need_keys"), none), (Str.ofString "need_keys"), (Str.ofString "need_keys"), L2.defArgs (top 30), L2.defBody (top 30), L2.defScope (top 30), [], []⟩
def d_branches : He.DefD := ⟨((Str.ofString "branches"), none), (Str.ofString "branches"), (Str.ofString "branches"), L2.defArgs (top 31), L2.defBody (top 31), L2.defScope (top 31), [], []⟩
def d_trunk : He.DefD := ⟨((Str.ofString "trunk"), none), (Str.ofString "trunk"), (Str.ofString "trunk"), L2.defArgs (top 32), L2.defBody (top 32), L2.defScope (top 32), [], []⟩
def d_need_count : He.DefD := ⟨((Str.ofString "need_count"), none), (Str.ofString "need_count"), (Str.ofString "need_count"), L2.defArgs (top 33), L2.defBody (top 33), L2.defScope (top 33), [], []⟩
def d_lots : He.DefD := ⟨((Str.ofString "lots"), none), (Str.ofString "lots"), (Str.ofString "lots"), L2.defArgs (top 34), L2.defBody (top 34), L2.defScope (top 34), [], []⟩
def d_shortest : He.DefD := ⟨((Str.ofString "shortest"), none), (Str.ofString "shortest"), (Str.ofString "shortest"), L2.defArgs (top 35), L2.defBody (top 35), L2.defScope (top 35), [], []⟩
def d__law_cell_at : He.DefD := ⟨((Str.ofString "_law_cell_at"), none), (Str.ofString "_law_cell_at"), (Str.ofString "_law_cell_at"), L2.defArgs (top 37), L2.defBody (top 37), L2.defScope (top 37), [], []⟩
def d__law_mixed : He.DefD := ⟨((Str.ofString "_law_mixed"), none), (Str.ofString "_law_mixed"), (Str.ofString "_law_mixed"), L2.defArgs (top 38), L2.defBody (top 38), L2.defScope (top 38), [], []⟩
def d__law_draw : He.DefD := ⟨((Str.ofString "_law_draw"), none), (Str.ofString "_law_draw"), (Str.ofString "_law_draw"), L2.defArgs (top 39), L2.defBody (top 39), L2.defScope (top 39), [], []⟩
def d__law_pick : He.DefD := ⟨((Str.ofString "_law_pick"), none), (Str.ofString "_law_pick"), (Str.ofString "_law_pick"), L2.defArgs (top 40), L2.defBody (top 40), L2.defScope (top 40), [], []⟩
def d__law_place : He.DefD := ⟨((Str.ofString "_law_place"), none), (Str.ofString "_law_place"), (Str.ofString "_law_place"), L2.defArgs (top 41), L2.defBody (top 41), L2.defScope (top 41), [], []⟩
def d__law_fall : He.DefD := ⟨((Str.ofString "_law_fall"), none), (Str.ofString "_law_fall"), (Str.ofString "_law_fall"), L2.defArgs (top 42), L2.defBody (top 42), L2.defScope (top 42), [], []⟩
def d__law_falls : He.DefD := ⟨((Str.ofString "_law_falls"), none), (Str.ofString "_law_falls"), (Str.ofString "_law_falls"), L2.defArgs (top 43), L2.defBody (top 43), L2.defScope (top 43), [], []⟩
def d__law_within : He.DefD := ⟨((Str.ofString "_law_within"), none), (Str.ofString "_law_within"), (Str.ofString "_law_within"), L2.defArgs (top 44), L2.defBody (top 44), L2.defScope (top 44), [], []⟩
def d__law_rules : He.DefD := ⟨((Str.ofString "_law_rules"), none), (Str.ofString "_law_rules"), (Str.ofString "_law_rules"), L2.defArgs (top 45), L2.defBody (top 45), L2.defScope (top 45), [], []⟩
def d__law_key : He.DefD := ⟨((Str.ofString "_law_key"), none), (Str.ofString "_law_key"), (Str.ofString "_law_key"), L2.defArgs (top 46), L2.defBody (top 46), L2.defScope (top 46), [], []⟩
def d__law_frame_key : He.DefD := ⟨((Str.ofString "_law_frame_key"), none), (Str.ofString "_law_frame_key"), (Str.ofString "_law_frame_key"), L2.defArgs (top 47), L2.defBody (top 47), L2.defScope (top 47), [], []⟩
def d__law_keys : He.DefD := ⟨((Str.ofString "_law_keys"), none), (Str.ofString "_law_keys"), (Str.ofString "_law_keys"), L2.defArgs (top 48), L2.defBody (top 48), L2.defScope (top 48), [], []⟩
def d__law_which : He.DefD := ⟨((Str.ofString "_law_which"), none), (Str.ofString "_law_which"), (Str.ofString "_law_which"), L2.defArgs (top 49), L2.defBody (top 49), L2.defScope (top 49), [], []⟩
def d__law_told : He.DefD := ⟨((Str.ofString "_law_told"), none), (Str.ofString "_law_told"), (Str.ofString "_law_told"), L2.defArgs (top 50), L2.defBody (top 50), L2.defScope (top 50), [], []⟩
def d_law : He.DefD := ⟨((Str.ofString "law"), none), (Str.ofString "law"), (Str.ofString "law"), L2.defArgs (top 51), L2.defBody (top 51), L2.defScope (top 51), [], []⟩
def fn : List He.DefD := [d_is_whole, d_is_word, d_is_place, d_is_text, d_shape, d_is_key, d_need_keys, d_branches, d_trunk, d_need_count, d_lots, d_shortest, d__law_cell_at, d__law_mixed, d__law_draw, d__law_pick, d__law_place, d__law_fall, d__law_falls, d__law_within, d__law_rules, d__law_key, d__law_frame_key, d__law_keys, d__law_told, d_law]
def row : G7.Row := ⟨T, fn, tab, Ns, [d__law_which], i_law⟩
theorem row_ok : row.ok = true := by kernel_rfl
theorem row_wh : row.wh = whI := rfl
def nm0 : List PySem.Str := ["FallError", "NoFall", "NoPiece", "NoRules", "NoKey", "NoMoment", "NoVersion", "NoCount", "Twice", "Across", "Full", "NoDeed", "NoText", "NoAsk", "Unlike", "LETTERS", "FIGURES", "LONGEST", "TEXT", "FRAMES", "is_whole", "is_word", "is_place", "is_text", "shape", "is_key", "need_keys", "branches", "trunk", "need_count"]
def nm1 : List PySem.Str := ["lots", "shortest", "_law_cell_at", "_law_mixed", "_law_draw", "_law_pick", "_law_place", "_law_fall", "_law_falls", "_law_within", "_law_rules", "_law_key", "_law_frame_key", "_law_keys", "_law_which", "_law_told"]
def nm : List PySem.Str := nm0 ++ nm1
abbrev R : PySem.W.OpenRow := PySem.W.OpenLaw.row PySem.Challenge.rw_fallgroups_k23_branching_refused
abbrev hk : PySem.W.Hook := HandSHeadRun.hookL (faOf T) row.fnX (tabsOf T) row.exB
def ob (s : PySem.W.SharedT) : He.AlX := HandSHeadRun.obsL (faOf T) row.fnX (tabsOf T) row.exB (HandSHeadRun.getT s)
theorem ob_eq (s : PySem.W.SharedT) : ob s = hk.obs s.abs := HandSHeadRun.obsL_eq (HandSHeadRun.getT_eq s)
theorem runA (w : World) : HandSHeadRun.RunA R 6000 w := by
  intro os
  kernel_rfl
theorem runB (w : World) : HandSHeadRun.RunB R (PySem.W.view R.prog [51]) 6000 nm w := by
  intro os
  kernel_rfl
theorem runC (w : World) : HandSHeadRun.RunC R hk ob 6000 w := by
  intro os
  kernel_rfl
theorem run (w : World) : HandSHeadRun.RunEq R (PySem.W.view R.prog [51]) hk ob 6000 nm w := HandSHeadRun.run_of (runA w) (runB w) (runC w)

end Rb
set_option maxHeartbeats 4000000
set_option autoImplicit false


namespace Rw
open PySem G7
/-! words, places, texts -/
def isWordL (l : List Nat) : Bool := decide (1 ≤ l.length) && (decide (l.length ≤ 8) && l.all isL)
def isWord : P → Bool
  | .str x => isWordL (tl x)
  | _ => false
def strOk : P → Prop
  | .str x => x.length ≤ sizeLine
  | _ => True
section
variable {W : Wh} {s : Sto}
theorem q_is_word (n : Nat) (a : P) (h : strOk a) : G7.run tab W (n + 1) i_is_word [.p a] s = .ok (.p (.bl (isWord a))) s := by
  rw [r_is_word]
  cases a with
  | str x =>
    have h : x.length ≤ sizeLine := h
    have c1 : ((1 : Int) ≤ (x.length : Int)) ↔ 1 ≤ x.length := by omega
    have c2 : ((x.length : Int) ≤ 8) ↔ x.length ≤ 8 := by omega
    simp only [b_is_word, isWord, isWordL, tl_len]
    simp [len_str, h, m1D, m1P, strip_word, c1, c2]
    by_cases h1 : 1 ≤ x.length <;> by_cases h2 : x.length ≤ 8 <;> simp [h1, h2]
  | _ => simp [b_is_word, isWord]
def isPlaceS (x : Str) : Bool := decide (x.length ≤ 26) && (decide ((Txt.split x (Str.ofString ".")).length ≤ 3) && (Txt.split x (Str.ofString ".")).all fun w => isWordL (tl w))
def isPlace : P → Bool
  | .str x => isPlaceS x
  | _ => false
theorem dot_len : ((Str.ofString ".").length == 0) = false := by decide +kernel
theorem q_is_place (n : Nat) (a : P) (h : strOk a) : G7.run tab W (n + 2) i_is_place [.p a] s = .ok (.p (.bl (isPlace a))) s := by
  rw [r_is_place]
  cases a with
  | str x =>
    have h : x.length ≤ sizeLine := h
    simp only [b_is_place, isPlace, isPlaceS]
    have c1 : ((26 : Int) < (x.length : Int)) ↔ ¬ x.length ≤ 26 := by omega
    simp [len_str, h, mul_ii, c1]
    by_cases h1 : 26 < x.length
    · simp [h1, show ¬ x.length ≤ 26 by omega]
    · have hw : ∀ w ∈ Txt.split x (Str.ofString "."), w.length ≤ sizeLine := fun w hw => Nat.le_trans (PyProof.Rows.part_short hw) h
      have c3 : ((Txt.split x (Str.ofString ".")).length : Int) ≤ 3 ↔ (Txt.split x (Str.ofString ".")).length ≤ 3 := by omega
      have hm : ∀ (s s0 : Sto), lcLoop (.fix (((Txt.split x (Str.ofString ".")).map P.str).map D.p)) (fun d s => (G7.run tab W (n + 1) i_is_word [d] s).bind eltD) ((Src.fix (((Txt.split x (Str.ofString ".")).map P.str).map D.p)).len s0 + 1) 0 [] s = .ok (((Txt.split x (Str.ofString ".")).map P.str).map fun a => P.bl (isWord a)) s := fun s s0 => by
        refine lc_map (f := fun a => P.bl (isWord a)) fun a ha => ?_
        obtain ⟨w, hw1, rfl⟩ := List.mem_map.mp ha
        rw [q_is_word n _ (show strOk (.str w) from hw w hw1)]
        rfl
      simp [-List.map_map, h1, show x.length ≤ 26 by omega, spl_ok, dot_len, show x.length + 2 ≤ sizeLine by rw [sizeLine_eq]; omega, c3, wipe]
      rw [hm]
      simp only [bind_ok', all_map, st_ok', then_rt', fin_rt_p, back_len, List.all_map]
      by_cases h3 : (Txt.split x (Str.ofString ".")).length ≤ 3 <;> simp [h3]
      rfl
  | _ => simp [b_is_place, isPlace]
/-! texts -/
def isTextL (l : List Nat) : Bool := decide (l.length ≤ 40) && l.all isPr
def isText : P → Bool
  | .str x => isTextL (tl x)
  | _ => false
theorem le_one (a b : Nat) (s : Sto) : cmpD .LtE (.p (.str ⟨#[a]⟩)) (.p (.str ⟨#[b]⟩)) s = .ok (.p (.bl (decide (a ≤ b)))) s := by
  have h1 : ([b] < [a]) ↔ b < a := by simp [List.cons_lt_cons_iff]
  show R.ok (D.p (.bl (!decide ([b] < [a])))) s = _
  by_cases h : a ≤ b
  · rw [decide_eq_false (fun z => by have := h1.mp z; omega), decide_eq_true h]; rfl
  · rw [decide_eq_true (h1.mpr (by omega)), decide_eq_false h]; rfl
theorem lit_space : Str.ofString " " = ⟨#[32]⟩ := by decide +kernel
theorem lit_tilde : Str.ofString "~" = ⟨#[126]⟩ := by decide +kernel
theorem lit_hash : Str.ofString "#" = ⟨#[35]⟩ := by decide +kernel
theorem q_is_text (n : Nat) (a : P) (h : strOk a) : G7.run tab W (n + 1) i_is_text [.p a] s = .ok (.p (.bl (isText a))) s := by
  rw [r_is_text]
  cases a with
  | str x =>
    have h : x.length ≤ sizeLine := h
    have c1 : ((x.length : Int) ≤ 40) ↔ x.length ≤ 40 := by omega
    have e : (x.cps.toList.map fun c => D.p (.str ⟨#[c]⟩)) = ((tl x).map fun c => P.str ⟨#[c]⟩).map D.p := by rw [List.map_map]; rfl
    have hm : ∀ (F : Fns) (stp : D → Sto → R (Option P)) (s s0 : Sto), (∀ c s, stp (.p (.str ⟨#[c]⟩)) s = .ok (some (.bl (isPr c))) s) → lcLoop (.fix (((tl x).map fun c => P.str ⟨#[c]⟩).map D.p)) stp ((Src.fix (((tl x).map fun c => P.str ⟨#[c]⟩).map D.p)).len s0 + 1) 0 [] s = .ok ((tl x).map fun c => P.bl (isPr c)) s := fun F stp s s0 hs => by
      have := lc_map (xs := (tl x).map fun c => P.str ⟨#[c]⟩) (stp := stp) (s := s) (s0 := s0) (f := fun a => match a with
        | .str y => .bl (isPr (y.cps.getD 0 0))
        | _ => .non) fun a ha => by
          obtain ⟨c, _, rfl⟩ := List.mem_map.mp ha
          rw [hs]; rfl
      rw [this, List.map_map]; rfl
    simp only [b_is_text, isText, isTextL, tl_len]
    simp [len_str, h, c1, src_str, e, -List.map_map, wipe]
    by_cases h1 : x.length ≤ 40
    · simp only [h1, if_true, decide_true, Bool.true_and]
      rw [hm (G7.run tab W n) _ s s (fun c s => by
        simp [lit_space, lit_tilde, le_one, isPr]
        by_cases h2 : 32 ≤ c <;> simp [h2])]
      simp only [bind_ok', all_map, st_ok', then_rt', fin_rt_p, back_len]
    · simp [h1]
  | _ => simp [b_is_text, isText]
end
end Rw

namespace Rw
open PySem G7
section
variable {W : Wh} {s : Sto}
theorem atI_nat {α : Type} {xs : List α} {k : Nat} {a : α} (h : xs[k]? = some a) : L2.atI xs (k : Int) = some a := by
  have hk := (List.getElem?_eq_some_iff.mp h).1
  unfold L2.atI L2.ixN
  rw [if_pos (by omega), if_pos (by omega)]
  simpa using h
theorem idx_str (x : Str) (k : Nat) (s : Sto) {c : Nat} (hz : x.length ≤ sizeLine) (h : (tl x)[k]? = some c) : idxD (.p (.str x)) (.p (.int k)) s = .ok (.p (.str ⟨#[c]⟩)) s := by
  have e : L2.atI x.cps.toList (k : Int) = some c := atI_nat h
  simp only [idxD, get_p, atP, if_pos hz, e]; rfl
theorem add_tx (l : List Nat) (c : Nat) (s : Sto) (h : l.length + 1 ≤ sizeLine) : binD .Add (.p (.str (tx l))) (.p (.str ⟨#[c]⟩)) s = .ok (.p (.str (tx (l ++ [c])))) s := by
  rw [add_ss _ _ _ (by rw [SX.S_len]; exact h)]
  rw [show (⟨#[c]⟩ : Str) = SX.S [c] from rfl, SX.S_cat]
end
mutual
def sm : P → Bool
  | .str x => decide (x.length < 1000000)
  | .tup xs => sms xs
  | .lst xs => sms xs
  | .non => true
  | .bl _ => true
  | .int _ => true
def sms : List P → Bool
  | [] => true
  | x :: xs => sm x && sms xs
end
theorem sms_mem {xs : List P} : sms xs = true → ∀ a ∈ xs, sm a = true := by
  induction xs with
  | nil => intro _ a ha; cases ha
  | cons x xs ih =>
    intro h a ha
    simp only [sms, Bool.and_eq_true] at h
    rcases List.mem_cons.mp ha with rfl | ha
    · exact h.1
    · exact ih h.2 a ha
theorem big : 1000000 < sizeLine := by rw [sizeLine_eq]; omega
theorem sm_str {x : Str} (h : sm (.str x) = true) : x.length < 1000000 := by simpa [sm] using h
theorem sm_ok {a : P} (h : sm a = true) : strOk a := by
  cases a with
  | str x => have := sm_str h; have := big; show x.length ≤ sizeLine; omega
  | _ => trivial
section
variable {W : Wh} {s : Sto}
theorem at0 {α : Type} (a : α) (xs : List α) : L2.atI (a :: xs) 0 = some a := atI_nat (k := 0) rfl
theorem at1 {α : Type} (a b : α) (xs : List α) : L2.atI (a :: b :: xs) 1 = some b := atI_nat (k := 1) rfl
theorem at2 {α : Type} (a b c : α) (xs : List α) : L2.atI (a :: b :: c :: xs) 2 = some c := atI_nat (k := 2) rfl
theorem ix_t0 (a : P) (xs : List P) : idxD (.p (.tup (a :: xs))) (.p (.int 0)) s = .ok (.p a) s := idx_tup _ _ (at0 a xs)
theorem ix_t1 (a b : P) (xs : List P) : idxD (.p (.tup (a :: b :: xs))) (.p (.int 1)) s = .ok (.p b) s := idx_tup _ _ (at1 a b xs)
theorem ix_t2 (a b c : P) (xs : List P) : idxD (.p (.tup (a :: b :: c :: xs))) (.p (.int 2)) s = .ok (.p c) s := idx_tup _ _ (at2 a b c xs)
theorem Ok.to_eq {α : Type} {r : R α} {a : α} {s : Sto} (h : Ok r fun d s' => d = a ∧ s' = s) : r = .ok a s := by
  obtain ⟨d, s', e, rfl, rfl⟩ := h.eq
  exact e
end
end Rw

namespace Rw
open PySem G7
section
variable {W : Wh} {s : Sto}
/-! the shape of a text -/
def shAt (l : List Nat) (i : Nat) : List Nat := if isF (l.getD i 0) = true then (if i = 0 ∨ isF (l.getD (i - 1) 0) = false then [35] else []) else [l.getD i 0]
def shUp (l : List Nat) (j : Nat) : List Nat := (List.range j).flatMap (shAt l)
def shapeL (l : List Nat) : List Nat := shUp l l.length
theorem shUp_succ (l : List Nat) (j : Nat) : shUp l (j + 1) = shUp l j ++ shAt l j := by simp [shUp, List.range_succ]
theorem shAt_len (l : List Nat) (j : Nat) : (shAt l j).length ≤ 1 := by
  unfold shAt
  split
  · split <;> simp
  · simp
theorem shUp_len (l : List Nat) : ∀ j, (shUp l j).length ≤ j
  | 0 => by simp [shUp]
  | j + 1 => by
    rw [shUp_succ, List.length_append]
    have := shUp_len l j
    have := shAt_len l j
    omega
theorem notIn_fig (c : Nat) (s : Sto) : cmpD .NotIn (.p (.str ⟨#[c]⟩)) (.p (.str (Str.ofString "0123456789"))) s = .ok (.p (.bl (!isF c))) s := by
  show R.ok (D.p (.bl (!(!(Builtin.Str.occurrences _ _ 0 _ 1).isEmpty)))) s = _
  rw [in_figures]
theorem enumL_len : ∀ (xs : List P) (i : Nat), (enumL xs i).length = xs.length
  | [], _ => rfl
  | x :: xs, i => by simp [enumL, enumL_len xs (i + 1)]
theorem enumL_at (xs : List P) : ∀ (j i : Nat), (enumL xs j)[i]? = (xs[i]?).map fun x => D.p (.tup [.int ((j + i : Nat) : Int), x]) := by
  induction xs with
  | nil => intro j i; simp [enumL]
  | cons x xs ih =>
    intro j i
    cases i with
    | zero => simp [enumL]
    | succ i =>
      rw [enumL, List.getElem?_cons_succ, List.getElem?_cons_succ, ih (j + 1) i, show j + 1 + i = j + (i + 1) by omega]
theorem q_shape (n : Nat) (x : Str) (h : x.length < sizeLine) : G7.run tab W (n + 1) i_shape [.p (.str x)] s = .ok (.p (.str (tx (shapeL (tl x))))) s := by
  rw [r_shape]
  have hz : x.length ≤ sizeLine := by omega
  suffices hs : Ok (fin s.t.length (exs (G7.run tab W n) W b_shape [some (.p (.str x)), none, none, none] s)) fun d s' => d = .p (.str (tx (shapeL (tl x)))) ∧ s' = s by
    obtain ⟨d, s', e, rfl, rfl⟩ := hs.eq
    exact e
  refine RSP.fin ?_
  simp [b_shape, enumD, enumOf, hz]
  refine RSP.then (N' := fun σ s' => s' = s ∧ ∃ o1 o2, σ = [some (.p (.str x)), some (.p (.str (tx (shapeL (tl x))))), o1, o2]) ?_ ?_
  · refine for_rule0 (fun j σ s' => s' = s ∧ ∃ o1 o2, σ = [some (.p (.str x)), some (.p (.str (tx (shUp (tl x) j)))), o1, o2]) ⟨rfl, none, none, rfl⟩ ?_ ?_
    · rintro j d σ s' hd ⟨rfl, o1, o2, rfl⟩
      rw [enumL_at, List.getElem?_map] at hd
      cases hc : (tl x)[j]? with
      | none =>
        have hc' : x.cps.toList[j]? = none := hc
        rw [hc'] at hd; cases hd
      | some c =>
        have hc' : x.cps.toList[j]? = some c := hc
        rw [hc'] at hd
        simp at hd
        subst hd
        have hj : j < (tl x).length := (List.getElem?_eq_some_iff.mp hc).1
        have hj2 : j < x.length := by rw [← tl_len]; exact hj
        have hlen := shUp_len (tl x) j
        have gj : (tl x).getD j 0 = c := by rw [List.getD_eq_getElem?_getD, hc]; rfl
        refine ⟨_, rfl, ?_⟩
        rw [shUp_succ]
        have hsz : (shUp (tl x) j).length + 1 ≤ sizeLine := by omega
        simp [l_shape_1, notIn_fig, setAll, lit_hash, add_tx _ _ _ hsz]
        by_cases hF : isF c = true
        · simp only [hF, if_true]
          cases j with
          | zero => simp [shAt, hc, hF]
          | succ k =>
            have hk : k < (tl x).length := by omega
            obtain ⟨b, hb⟩ : ∃ b, (tl x)[k]? = some b := ⟨_, List.getElem?_eq_getElem hk⟩
            have gk : (tl x).getD k 0 = b := by rw [List.getD_eq_getElem?_getD, hb]; rfl
            have ei : ((k + 1 : Nat) : Int) - 1 = (k : Int) := by omega
            rw [if_neg (by omega), ei, idx_str x k s' hz hb]
            simp [notIn_fig, add_tx _ _ _ hsz]
            by_cases hB : isF b = true
            · simp [hB, shAt, hc, hF, hb]
            · simp [hB, shAt, hc, hF, hb]
        · simp [hF, shAt, hc]
    · rintro σ s' ⟨rfl, o1, o2, rfl⟩
      refine ⟨rfl, o1, o2, ?_⟩
      have : (enumL (List.map (fun c => P.str { cps := #[c] }) x.cps.toList) 0).length = (tl x).length := by
        rw [enumL_len, List.length_map]; rfl
      rw [this]; rfl
  · rintro σ s' ⟨rfl, o1, o2, rfl⟩
    simp
end
end Rw

namespace Rw
open PySem G7
/-! keys -/
def frameOk : P → Bool
  | .tup [p, w] => isPlace p && isWord w
  | _ => false
def shapeEq : P → Bool
  | .str x => shapeL (tl x) == tl x
  | _ => false
def framesOk : P → Bool
  | .tup fs => decide (1 ≤ fs.length) && (decide (fs.length ≤ 12) && fs.all frameOk)
  | _ => false
def isKey : P → Bool
  | .tup [.str k, w, c] => isWord w && (if (k == Str.ofString "text") = true then isText c && shapeEq c else (k == Str.ofString "frames") && framesOk c)
  | _ => false
section
variable {W : Wh} {s : Sto}
theorem frame_turn (n : Nat) (a b : P) (h : sm b = true) (hb : frameOk b = true) : exs (G7.run tab W (n + 2)) W l_is_key_1 [some (.p a), some (.p b)] s = .nx [some (.p a), some (.p b)] s := by
  unfold frameOk at hb
  split at hb
  · rename_i p w
    simp only [sm, sms, Bool.and_eq_true] at h
    have hp : isPlace p = true := (Bool.and_eq_true_iff.mp hb).1
    have hw : isWord w = true := (Bool.and_eq_true_iff.mp hb).2
    simp [l_is_key_1, ix_t0, ix_t1, q_is_place n p (sm_ok h.1), q_is_word (n + 1) w (sm_ok h.2.1), hp, hw]
  · cases hb
theorem frame_stop (n : Nat) (a b : P) (h : sm b = true) (hb : frameOk b = false) : exs (G7.run tab W (n + 2)) W l_is_key_1 [some (.p a), some (.p b)] s = .rt (.p (.bl false)) s := by
  cases b with
  | tup xs =>
    match xs, h, hb with
    | [], h, hb => simp [l_is_key_1]
    | [p], h, hb => simp [l_is_key_1]
    | [p, w], h, hb =>
      simp only [sm, sms, Bool.and_eq_true] at h
      have hb : (isPlace p && isWord w) = false := hb
      simp [l_is_key_1, ix_t0, ix_t1, q_is_place n p (sm_ok h.1), q_is_word (n + 1) w (sm_ok h.2.1)]
      cases h1 : isPlace p
      · simp
      · rw [h1] at hb
        simp at hb
        simp [hb]
    | p :: w :: q :: r, h, hb =>
      have : ¬ ((r.length : Int) + 1 + 1 + 1 = 2) := by omega
      simp [l_is_key_1, this]
  | _ => simp [l_is_key_1]
theorem key_loop (n : Nat) (a : P) (fs : List P) (h : sms fs = true) (o : Option D) (s0 : Sto) : RSP ((forLoop (.fix (fs.map .p)) (.name 1) (exs (G7.run tab W (n + 2)) W l_is_key_1) ((Src.fix (fs.map .p)).len s0 + 1) 0 [some (.p a), o] s).then fun _ s => .rt (.p (.bl true)) s)
    (fun _ _ => False) (fun _ _ => False) (fun d s' => d = .p (.bl (fs.all frameOk)) ∧ s' = s) := by
  refine RSP.then (N' := fun _ s' => fs.all frameOk = true ∧ s' = s) ?_ ?_
  · refine for_rule0 (fun j σ s' => (fs.take j).all frameOk = true ∧ s' = s ∧ ∃ o, σ = [some (.p a), o]) ⟨rfl, rfl, o, rfl⟩ ?_ ?_
    · rintro j d σ s' hd ⟨h1, rfl, o, rfl⟩
      rw [List.getElem?_map, Option.map_eq_some_iff] at hd
      obtain ⟨b, hb, rfl⟩ := hd
      refine ⟨_, rfl, ?_⟩
      have hs := sms_mem h b (List.mem_of_getElem? hb)
      show RSP (exs (G7.run tab W (n + 2)) W l_is_key_1 [some (.p a), some (.p b)] s') _ _ _
      cases hf : frameOk b with
      | true =>
        rw [frame_turn n a b hs hf]
        refine ⟨?_, rfl, _, rfl⟩
        rw [List.take_add_one, hb, List.all_append, h1]
        simp [hf]
      | false =>
        rw [frame_stop n a b hs hf]
        refine ⟨?_, rfl⟩
        have : fs.all frameOk = false := by
          rw [List.all_eq_false]
          exact ⟨b, List.mem_of_getElem? hb, by simp [hf]⟩
        rw [this]
    · rintro σ s' ⟨h1, rfl, o, rfl⟩
      refine ⟨?_, rfl⟩
      have : (fs.map D.p).length = fs.length := by simp
      rw [this, List.take_length] at h1
      exact h1
  · rintro σ s' ⟨h1, rfl⟩
    simp [h1]
theorem q_is_key (n : Nat) (a : P) (h : sm a = true) : G7.run tab W (n + 3) i_is_key [.p a] s = .ok (.p (.bl (isKey a))) s := by
  rw [r_is_key]
  cases a with
  | tup xs =>
    match xs, h with
    | [], h => simp [b_is_key, isKey]
    | [x], h => simp [b_is_key, isKey]
    | [x, y], h => simp [b_is_key, isKey]
    | x :: y :: z :: w :: r, h =>
      have : ¬ ((r.length : Int) + 1 + 1 + 1 + 1 = 3) := by omega
      simp [b_is_key, isKey, this]
    | [x, y, z], h =>
      simp only [sm, sms, Bool.and_eq_true] at h
      obtain ⟨hx, hy, hz, _⟩ := h
      cases x with
      | str k =>
        have hk := q_is_word (W := W) (s := s) (n + 1) y (sm_ok hy)
        have ht := q_is_text (W := W) (s := s) (n + 1) z (sm_ok hz)
        cases hw : isWord y with
        | false =>
          rw [hw] at hk
          simp [b_is_key, isKey, ix_t0, ix_t1, ix_t2, hk, hw]
        | true =>
          rw [hw] at hk
          by_cases h1 : k = Str.ofString "text"
          · subst h1
            cases hit : isText z with
            | false =>
              rw [hit] at ht
              simp [b_is_key, isKey, ix_t0, ix_t1, ix_t2, hk, hw, ht, hit]
            | true =>
              rw [hit] at ht
              cases z with
              | str x =>
                have hq := q_shape (W := W) (s := s) (n + 1) x (by have := sm_str hz; have := big; omega)
                simp [b_is_key, isKey, ix_t0, ix_t1, ix_t2, hk, hw, ht, hit, hq, shapeEq]
                rw [show x = SX.S (tl x) from (tx_tl x).symm, SX.S_beq]
                rfl
              | _ => cases hit
          · by_cases h2 : k = Str.ofString "frames"
            · subst h2
              have hne : (Str.ofString "frames" == Str.ofString "text") = false := by decide +kernel
              cases z with
              | tup fs =>
                have c1 : ((1 : Int) ≤ (fs.length : Int)) ↔ 1 ≤ fs.length := by omega
                have c2 : ((fs.length : Int) ≤ 12) ↔ fs.length ≤ 12 := by omega
                simp [b_is_key, isKey, ix_t0, ix_t1, ix_t2, hk, hw, hne, framesOk, c1, c2]
                by_cases g1 : 1 ≤ fs.length
                · by_cases g2 : fs.length ≤ 12
                  · simp [g1, g2, show ¬ 12 < fs.length by omega]
                    refine Ok.to_eq (RSP.fin ?_)
                    refine RSP.mono (key_loop n _ fs hz none s) (fun _ _ z => z.elim) (fun _ _ z => z) ?_
                    rintro d s' ⟨rfl, rfl⟩
                    simp
                  · simp [g1, g2]
                · simp [g1]
              | _ => simp [b_is_key, isKey, ix_t0, ix_t1, ix_t2, hk, hw, hne, framesOk]
            · have e1 : (k == Str.ofString "text") = false := by simpa using h1
              have e2 : (k == Str.ofString "frames") = false := by simpa using h2
              simp [b_is_key, isKey, ix_t0, ix_t1, ix_t2, hk, hw, e1, e2]
      | _ => simp [b_is_key, isKey, ix_t0, ix_t1, ix_t2]
  | _ => simp [b_is_key, isKey]
end
end Rw

namespace Rw
open PySem G7
section
mutual
theorem eqv_comm : ∀ a b : P, P.eqv a b = P.eqv b a
  | .non, b => by cases b <;> rfl
  | .bl x, b => by
    cases b with
    | bl y => simp only [P.eqv]; exact Bool.beq_comm
    | int y => simp only [P.eqv]; exact Bool.beq_comm
    | _ => rfl
  | .int x, b => by
    cases b with
    | bl y => simp only [P.eqv]; exact Bool.beq_comm
    | int y => simp only [P.eqv]; exact Bool.beq_comm
    | _ => rfl
  | .str x, b => by
    cases b with
    | str y => simp only [P.eqv]; exact Bool.beq_comm
    | _ => rfl
  | .tup x, b => by
    cases b with
    | tup y => simp only [P.eqv]; exact eqvs_comm x y
    | _ => rfl
  | .lst x, b => by
    cases b with
    | lst y => simp only [P.eqv]; exact eqvs_comm x y
    | _ => rfl
theorem eqvs_comm : ∀ a b : List P, P.eqvs a b = P.eqvs b a
  | [], b => by cases b <;> rfl
  | x :: xs, b => by
    cases b with
    | nil => rfl
    | cons y ys => simp only [P.eqvs]; rw [eqv_comm x y, eqvs_comm xs ys]
end
mutual
theorem eqv_refl : ∀ a : P, P.eqv a a = true
  | .non => rfl
  | .bl x => by simp [P.eqv]
  | .int x => by simp [P.eqv]
  | .str x => by simp [P.eqv]
  | .tup x => by simp only [P.eqv]; exact eqvs_refl x
  | .lst x => by simp only [P.eqv]; exact eqvs_refl x
theorem eqvs_refl : ∀ a : List P, P.eqvs a a = true
  | [] => rfl
  | x :: xs => by simp only [P.eqvs]; rw [eqv_refl x, eqvs_refl xs]; rfl
end
end
end Rw

namespace Rw
open PySem G7
/-! keys as data -/
mutual
theorem hk_eq : ∀ (a b : P) (n k : Nat), a.hk n = true → b.hk k = true → a.eqv b = true → a = b
  | .non, b, n, k, _, _, h => by cases b <;> first | rfl | cases h
  | .bl _, b, n, k, ha, _, _ => by cases n <;> cases ha
  | .lst _, b, n, k, ha, _, _ => by cases n <;> cases ha
  | .int i, b, n, k, _, hb, h => by
    cases b with
    | int j => simp [P.eqv] at h; rw [h]
    | bl x => cases k <;> cases hb
    | _ => cases h
  | .str i, b, n, k, _, hb, h => by
    cases b with
    | str j => simp [P.eqv] at h; rw [h]
    | _ => cases h
  | .tup xs, b, n, k, ha, hb, h => by
    cases b with
    | tup ys =>
      cases n with
      | zero => cases ha
      | succ n =>
        cases k with
        | zero => cases hb
        | succ k =>
          simp only [P.hk, P.eqv] at ha hb h
          rw [hks_eq xs ys n k ha hb h]
    | _ => cases h
theorem hks_eq : ∀ (xs ys : List P) (n k : Nat), P.hks xs n = true → P.hks ys k = true → P.eqvs xs ys = true → xs = ys
  | [], ys, n, k, _, _, h => by cases ys with
    | nil => rfl
    | cons _ _ => cases h
  | x :: xs, ys, n, k, ha, hb, h => by
    cases ys with
    | nil => cases h
    | cons y ys =>
      simp only [P.hks, P.eqvs, Bool.and_eq_true] at ha hb h
      rw [hk_eq x y n k ha.1 hb.1 h.1, hks_eq xs ys n k ha.2 hb.2 h.2]
end
theorem isWord_str {a : P} (h : isWord a = true) : ∃ x, a = .str x := by
  cases a with
  | str x => exact ⟨x, rfl⟩
  | _ => simp [isWord] at h
theorem isPlace_str {a : P} (h : isPlace a = true) : ∃ x, a = .str x := by
  cases a with
  | str x => exact ⟨x, rfl⟩
  | _ => simp [isPlace] at h
theorem isText_str {a : P} (h : isText a = true) : ∃ x, a = .str x := by
  cases a with
  | str x => exact ⟨x, rfl⟩
  | _ => simp [isText] at h
theorem frameOk_is {a : P} (h : frameOk a = true) : ∃ x y, a = .tup [.str x, .str y] := by
  unfold frameOk at h
  split at h
  · simp only [Bool.and_eq_true] at h
    obtain ⟨x, rfl⟩ := isPlace_str h.1
    obtain ⟨y, rfl⟩ := isWord_str h.2
    exact ⟨x, y, rfl⟩
  · cases h
/-- a key: of a text, or of frames -/
theorem isKey_is {a : P} (h : isKey a = true) : (∃ w x, a = .tup [.str (Str.ofString "text"), .str w, .str x]) ∨ (∃ w fs, a = .tup [.str (Str.ofString "frames"), .str w, .tup fs] ∧ fs.all frameOk = true) := by
  unfold isKey at h
  split at h
  · rename_i k w c
    simp only [Bool.and_eq_true] at h
    obtain ⟨h1, h2⟩ := h
    obtain ⟨x, rfl⟩ := isWord_str h1
    by_cases hk : (k == Str.ofString "text") = true
    · rw [if_pos hk, Bool.and_eq_true] at h2
      obtain ⟨y, rfl⟩ := isText_str h2.1
      have : k = Str.ofString "text" := by simpa using hk
      subst this
      exact .inl ⟨x, y, rfl⟩
    · rw [if_neg hk, Bool.and_eq_true] at h2
      have : k = Str.ofString "frames" := by simpa using h2.1
      subst this
      cases c with
      | tup fs =>
        have h3 := h2.2
        simp only [framesOk, Bool.and_eq_true] at h3
        exact .inr ⟨x, fs, rfl, h3.2.2⟩
      | _ => have := h2.2; simp [framesOk] at this
  · cases h
theorem two_hk : ∀ (fs : List P) (n : Nat), fs.all frameOk = true → P.hks fs (n + 1) = true ∧ P.lims fs (n + 1) = true
  | [], n, _ => ⟨rfl, rfl⟩
  | f :: fs, n, h => by
    rw [List.all_cons, Bool.and_eq_true] at h
    obtain ⟨x, y, rfl⟩ := frameOk_is h.1
    obtain ⟨a, b⟩ := two_hk fs n h.2
    constructor
    · rw [P.hks, a]; cases n <;> simp [P.hk, P.hks]
    · rw [P.lims, b]; cases n <;> simp [P.lim, P.lims]
theorem isKey_key {a : P} (h : isKey a = true) : a.key = true ∧ a.hk 8 = true ∧ a.lim 10 = true ∧ a.sk = 5 := by
  rcases isKey_is h with ⟨w, x, rfl⟩ | ⟨w, fs, rfl, hf⟩
  · exact ⟨rfl, rfl, rfl, rfl⟩
  · have a := (two_hk fs 5 hf).1
    have b := (two_hk fs 7 hf).2
    refine ⟨?_, ?_, ?_, rfl⟩
    · simp only [P.key, P.hk, P.hks, a]; rfl
    · simp only [P.hk, P.hks, a]; rfl
    · simp only [P.lim, P.lims, b]; rfl
theorem key_eqv {a b : P} (ha : isKey a = true) (hb : isKey b = true) : (a.eqv b = true) ↔ a = b :=
  ⟨fun h => hk_eq a b 8 8 (isKey_key ha).2.1 (isKey_key hb).2.1 h, fun h => by rw [h]; exact eqv_refl b⟩
theorem coks_two : ∀ fs gs : List P, fs.all frameOk = true → gs.all frameOk = true → P.coks fs gs = true
  | [], gs, _, _ => by cases gs <;> rfl
  | f :: fs, [], _, _ => rfl
  | f :: fs, g :: gs, hf, hg => by
    rw [List.all_cons, Bool.and_eq_true] at hf hg
    obtain ⟨x, y, rfl⟩ := frameOk_is hf.1
    obtain ⟨u, v, rfl⟩ := frameOk_is hg.1
    have := coks_two fs gs hf.2 hg.2
    simp only [P.coks, P.cok, this, ite_self, if_true]
theorem key_cok {a b : P} (ha : isKey a = true) (hb : isKey b = true) : a.cok b = true := by
  have ne1 : (P.str (Str.ofString "text")).eqv (.str (Str.ofString "frames")) = false := by decide +kernel
  have ne2 : (P.str (Str.ofString "frames")).eqv (.str (Str.ofString "text")) = false := by decide +kernel
  rcases isKey_is ha with ⟨w, x, rfl⟩ | ⟨w, fs, rfl, hf⟩
  · rcases isKey_is hb with ⟨w', x', rfl⟩ | ⟨w', fs', rfl, hf'⟩
    · simp [P.cok, P.coks]
    · simp only [P.cok, P.coks, ne1]; rfl
  · rcases isKey_is hb with ⟨w', x', rfl⟩ | ⟨w', fs', rfl, hf'⟩
    · simp only [P.cok, P.coks, ne2]; rfl
    · simp [P.cok, P.coks, coks_two fs fs' hf hf']
theorem lim_mono : ∀ (n : Nat) (a : P), a.lim 10 = true → a.lim (10 + n) = true := by
  have key : ∀ (k : Nat), (∀ (a : P) (n : Nat), a.lim k = true → a.lim (k + n) = true) ∧ ∀ (xs : List P) (n : Nat), P.lims xs k = true → P.lims xs (k + n) = true := by
    intro k
    induction k with
    | zero =>
      have h1 : ∀ (a : P) (n : Nat), a.lim 0 = true → a.lim (0 + n) = true := fun a n h => by
        cases a with
        | tup xs => simp [P.lim] at h
        | lst xs => simp [P.lim] at h
        | _ => cases n <;> simp [P.lim]
      refine ⟨h1, fun xs n h => ?_⟩
      induction xs with
      | nil => rfl
      | cons x xs ih =>
        simp only [P.lims, Bool.and_eq_true] at h ⊢
        exact ⟨h1 x n h.1, ih h.2⟩
    | succ k ih =>
      have h1 : ∀ (a : P) (n : Nat), a.lim (k + 1) = true → a.lim (k + 1 + n) = true := fun a n h => by
        rw [show k + 1 + n = (k + n) + 1 by omega]
        cases a with
        | tup xs => simp only [P.lim] at h ⊢; exact ih.2 xs n h
        | lst xs => simp only [P.lim] at h ⊢; exact ih.2 xs n h
        | _ => simp [P.lim]
      refine ⟨h1, fun xs n h => ?_⟩
      induction xs with
      | nil => rfl
      | cons x xs ih2 =>
        simp only [P.lims, Bool.and_eq_true] at h ⊢
        exact ⟨h1 x n h.1, ih2 h.2⟩
  exact fun n a h => (key 10).1 a n h
theorem keys_lims : ∀ {xs : List P} (n : Nat), (∀ a ∈ xs, isKey a = true) → P.lims xs (10 + n) = true
  | [], n, _ => rfl
  | x :: xs, n, h => by
    rw [P.lims, lim_mono n x (isKey_key (h x List.mem_cons_self)).2.2.1, keys_lims n fun a ha => h a (List.mem_cons_of_mem _ ha)]; rfl
theorem keys_srt {xs : List P} (h : ∀ a ∈ xs, isKey a = true) : srtOk xs = true := by
  unfold srtOk
  rw [List.all_eq_true]
  intro a ha
  have ka := isKey_key (h a ha)
  have l20 : a.lim 20 = true := lim_mono 10 a ka.2.2.1
  simp only [l20, ka.2.2.2, Bool.true_and]
  rw [List.all_eq_true.mpr fun b hb => ?_]
  · rfl
  · rw [key_cok (h a ha) (h b hb), (isKey_key (h b hb)).2.2.2]; rfl
theorem keys_ints {xs : List P} (h : ∀ a ∈ xs, isKey a = true) (hn : xs ≠ []) : intsP xs = none := by
  cases xs with
  | nil => exact absurd rfl hn
  | cons x xs =>
    rcases isKey_is (h x List.mem_cons_self) with ⟨w, y, rfl⟩ | ⟨w, fs, rfl, _⟩ <;> rfl
/-- keys in order -/
def srtK (xs : List P) : List P := xs.mergeSort P.le
theorem srt_keys {s : Sto} {xs : List P} (h : ∀ a ∈ xs, isKey a = true) : srtD (.p (.lst xs)) s = .ok (srtK xs) s := by
  cases hx : xs with
  | nil => simp [srtD, intsP, srtK]
  | cons x r =>
    have hn : xs ≠ [] := by rw [hx]; simp
    rw [← hx]
    simp only [srtD, get_p, keys_ints h hn, keys_srt h, if_true]; rfl
theorem srtK_perm (xs : List P) : (srtK xs).Perm xs := List.mergeSort_perm xs P.le
theorem srtK_mem {xs : List P} {a : P} : a ∈ srtK xs ↔ a ∈ xs := (srtK_perm xs).mem_iff
end Rw

namespace Rw
open PySem G7
/-! lists of keys of frames -/
structure FK where
  w : Str
  fs : List P
def FK.p (k : FK) : P := .tup [.str (Str.ofString "frames"), .str k.w, .tup k.fs]
def isFK (a : P) : Bool := isKey a && (match a with
  | .tup (.str k :: _) => k == Str.ofString "frames"
  | _ => false)
def isFKs : P → Bool
  | .lst ks => ks.all isFK
  | _ => false
theorem isFK_is {a : P} (h : isFK a = true) : ∃ k : FK, a = k.p ∧ isKey k.p = true := by
  unfold isFK at h
  rw [Bool.and_eq_true] at h
  rcases isKey_is h.1 with ⟨w, x, rfl⟩ | ⟨w, fs, rfl, _⟩
  · exact absurd h.2 (by show ¬ (Str.ofString "text" == Str.ofString "frames") = true; decide +kernel)
  · exact ⟨⟨w, fs⟩, rfl, h.1⟩
theorem isFK_key {a : P} (h : isFK a = true) : isKey a = true := (Bool.and_eq_true_iff.mp h).1
structure FKo (k : FK) : Prop where
  key : isKey k.p = true
  sm : sm k.p = true
theorem FKo.ok {k : FK} (h : FKo k) : isWordL (tl k.w) = true ∧ 1 ≤ k.fs.length ∧ k.fs.length ≤ 12 ∧ k.fs.all frameOk = true := by
  have h1 := h.key
  have e : (Str.ofString "frames" == Str.ofString "text") = false := by decide +kernel
  simp only [FK.p, isKey, e, framesOk, Bool.and_eq_true, decide_eq_true_eq] at h1
  simpa [isWord] using h1
theorem FKo.fk {k : FK} (h : FKo k) : isFK k.p = true := by
  unfold isFK
  rw [h.key]
  show (Str.ofString "frames" == Str.ofString "frames") = true
  exact beq_self_eq_true _
theorem FKo.lim {k : FK} (h : FKo k) : k.p.lim 19 = true := lim_mono 9 _ (isKey_key h.key).2.2.1
theorem FKo.fsm {k : FK} (h : FKo k) : sms k.fs = true := by
  have := h.sm
  simp only [FK.p, Rw.sm, sms, Bool.and_eq_true] at this
  exact this.2.2.1
section
variable {W : Wh} {s : Sto}
theorem fk0 (k : FK) : idxD (.p k.p) (.p (.int 0)) s = .ok (.p (.str (Str.ofString "frames"))) s := ix_t0 _ _
theorem fk1 (k : FK) : idxD (.p k.p) (.p (.int 1)) s = .ok (.p (.str k.w)) s := ix_t1 _ _ _
theorem fk2 (k : FK) : idxD (.p k.p) (.p (.int 2)) s = .ok (.p (.tup k.fs)) s := ix_t2 _ _ _ _
theorem q_need_keys (n : Nat) (a : P) (h : sm a = true) : G7.run tab W (n + 4) i_need_keys [.p a] s = if isFKs a = true then .ok (.p .non) s else .exc x_NoKey s := by
  rw [r_need_keys]
  cases a with
  | lst ks =>
    have hs : ∀ a ∈ ks, sm a = true := sms_mem (by simpa [sm] using h)
    simp [b_need_keys, wipe]
    rw [lc_map (f := fun a => .bl (isFK a)) fun a ha => by
      have e := q_is_key (W := W) (s := s) n a (hs a ha)
      cases hk : isKey a with
      | false =>
        rw [hk] at e
        simp [e, isFK, hk]
      | true =>
        rw [hk] at e
        rcases isKey_is hk with ⟨w, x, rfl⟩ | ⟨w, fs, rfl, _⟩
        · simp [e, isFK, hk, ix_t0]
        · simp [e, isFK, hk, ix_t0]]
    simp only [bind_ok', all_map]
    cases hq : ks.all isFK <;> simp [isFKs, hq]
  | _ => simp [b_need_keys, isFKs]
theorem q_need_keys_ok (n : Nat) (L : List FK) (h : ∀ k ∈ L, FKo k) : G7.run tab W (n + 4) i_need_keys [.p (.lst (L.map FK.p))] s = .ok (.p .non) s := by
  have hsm : sms (L.map FK.p) = true := by
    induction L with
    | nil => rfl
    | cons k r ih =>
      rw [List.map_cons, sms, (h k List.mem_cons_self).sm, ih fun k hk => h k (List.mem_cons_of_mem _ hk)]; rfl
  rw [q_need_keys n _ (by simpa [sm] using hsm), if_pos]
  show (L.map FK.p).all isFK = true
  rw [List.all_eq_true]
  intro a ha
  obtain ⟨k, hk, rfl⟩ := List.mem_map.mp ha
  exact (h k hk).fk
end
end Rw

namespace Rw
open PySem G7
/-! each once, as first met -/
def nubS (l : List P) : List P := l.foldl (fun acc x => if (acc.any fun y => y.eqv x) = true then acc else acc ++ [x]) []
theorem nubS_snoc (l : List P) (x : P) : nubS (l ++ [x]) = if ((nubS l).any fun y => y.eqv x) = true then nubS l else nubS l ++ [x] := by
  simp [nubS, List.foldl_append]
structure KU (u : List P) : Prop where
  k : ∀ x ∈ u, x.key = true
  nd : u.Nodup
theorem key_eq {a b : P} (ha : a.key = true) (hb : b.key = true) : (a.eqv b = true) ↔ a = b :=
  ⟨fun h => hk_eq a b 8 8 (key_hk ha) (key_hk hb) h, fun h => by rw [h]; exact eqv_refl b⟩
theorem any_mem {u : List P} {x : P} (h : ∀ y ∈ u, y.key = true) (hx : x.key = true) : (u.any fun y => y.eqv x) = true ↔ x ∈ u := by
  rw [List.any_eq_true]
  exact ⟨fun ⟨y, hy, e⟩ => (key_eq (h y hy) hx).mp e ▸ hy, fun h => ⟨x, h, eqv_refl x⟩⟩
theorem snoc_ind {α : Type} {Q : List α → Prop} (h0 : Q []) (h : ∀ l x, Q l → Q (l ++ [x])) (l : List α) : Q l := by
  have : ∀ r : List α, Q r.reverse := fun r => by
    induction r with
    | nil => exact h0
    | cons x r ih => rw [List.reverse_cons]; exact h _ _ ih
  simpa using this l.reverse
theorem nubS_ok (l : List P) : (∀ x ∈ l, x.key = true) → KU (nubS l) ∧ ∀ x, x ∈ nubS l ↔ x ∈ l := by
  refine snoc_ind (Q := fun l => (∀ x ∈ l, x.key = true) → KU (nubS l) ∧ ∀ x, x ∈ nubS l ↔ x ∈ l) ?_ ?_ l
  · exact fun _ => ⟨⟨fun x h => (by cases h), List.nodup_nil⟩, fun x => Iff.rfl⟩
  · intro l x ih h
    obtain ⟨u, m⟩ := ih fun y hy => h y (List.mem_append_left _ hy)
    have hx : x.key = true := h x (by simp)
    have a := any_mem u.k hx
    rw [nubS_snoc]
    by_cases e : x ∈ nubS l
    · rw [if_pos (a.mpr e)]
      refine ⟨u, fun y => ?_⟩
      rw [m, List.mem_append, List.mem_singleton]
      exact ⟨.inl, fun z => z.elim id fun z => by rw [z]; exact (m x).mp e⟩
    · rw [if_neg fun z => e (a.mp z)]
      refine ⟨⟨fun y hy => ?_, ?_⟩, fun y => ?_⟩
      · rcases List.mem_append.mp hy with hy | hy
        · exact u.k y hy
        · rw [List.mem_singleton.mp hy]; exact hx
      · rw [List.nodup_append]
        exact ⟨u.nd, by simp, fun a ha b hb => by rw [List.mem_singleton.mp hb]; intro z; exact e (z ▸ ha)⟩
      · rw [List.mem_append, List.mem_append, m]
theorem find_fun {β : Type} {c : P → β} {x : P} (hx : x.key = true) : ∀ {u : List P}, (∀ y ∈ u, y.key = true) → findK x (u.map fun y => (y, c y)) = if (u.any fun y => y.eqv x) = true then some (c x) else none
  | [], _ => rfl
  | y :: u, h => by
    have ih := find_fun (c := c) hx fun z hz => h z (List.mem_cons_of_mem _ hz)
    rw [List.map_cons]
    by_cases e : y.eqv x = true
    · have := (key_eq (h y List.mem_cons_self) hx).mp e
      subst this
      simp [findK, e]
    · simp [findK, e, ih]
theorem put_fun {β : Type} {c : P → β} {x : P} {v : β} (hx : x.key = true) : ∀ {u : List P}, KU u → putK x v (u.map fun y => (y, c y)) = (if (u.any fun y => y.eqv x) = true then u else u ++ [x]).map fun y => (y, if y.eqv x = true then v else c y)
  | [], _ => by simp [putK, eqv_refl]
  | y :: u, h => by
    have ku : KU u := ⟨fun z hz => h.k z (List.mem_cons_of_mem _ hz), (List.nodup_cons.mp h.nd).2⟩
    have ih := put_fun (c := c) (v := v) hx ku
    rw [List.map_cons]
    by_cases e : y.eqv x = true
    · have exy := (key_eq (h.k y List.mem_cons_self) hx).mp e
      subst exy
      have hn : ∀ z ∈ u, ¬ z.eqv y = true := fun z hz e2 => (List.nodup_cons.mp h.nd).1 (by rw [← (key_eq (ku.k z hz) hx).mp e2]; exact hz)
      simp only [putK, e, if_true, List.any_cons, Bool.true_or, List.map_cons]
      congr 1
      exact List.map_congr_left fun z hz => by rw [if_neg (hn z hz)]
    · have e : y.eqv x = false := by simpa using e
      simp only [putK, e, List.any_cons, Bool.false_or, Bool.false_eq_true, if_false]
      rw [ih]
      split <;> simp [e]
/-- one more -/
theorem nub_put {β : Type} {c : P → β} {x : P} {v : β} {l : List P} (hl : ∀ y ∈ l, y.key = true) (hx : x.key = true) : putK x v ((nubS l).map fun y => (y, c y)) = (nubS (l ++ [x])).map fun y => (y, if y.eqv x = true then v else c y) := by
  rw [put_fun hx (nubS_ok l hl).1, nubS_snoc]
def cnt (l : List P) (y : P) : Nat := l.countP fun z => z.eqv y
theorem cnt_snoc (l : List P) (x y : P) : cnt (l ++ [x]) y = cnt l y + if x.eqv y = true then 1 else 0 := by
  simp [cnt, List.countP_append, List.countP_cons]
theorem cnt_zero {l : List P} {x : P} (hl : ∀ y ∈ l, y.key = true) (hx : x.key = true) (h : ¬ ((nubS l).any fun y => y.eqv x) = true) : cnt l x = 0 := by
  rw [any_mem (nubS_ok l hl).1.k hx, (nubS_ok l hl).2] at h
  unfold cnt
  rw [List.countP_eq_zero]
  exact fun z hz e => h ((key_eq (hl z hz) hx).mp e ▸ hz)
/-! beginnings -/
def bgK (w : Str) (fs : List P) : P := .tup [.str w, .tup fs]
def bgs (k : FK) : List P := (List.range k.fs.length).map fun j => bgK k.w (k.fs.take (j + 1))
def begs (L : List FK) : List P := L.flatMap bgs
theorem frames_take {fs : List P} (h : fs.all frameOk = true) (j : Nat) : (fs.take j).all frameOk = true := List.all_eq_true.mpr fun x hx => List.all_eq_true.mp h x (List.mem_of_mem_take hx)
theorem bg_key {w : Str} {fs : List P} (h : fs.all frameOk = true) : (bgK w fs).key = true := by
  have a := (two_hk fs 5 h).1
  simp only [bgK, P.key, P.hk, P.hks, a]; rfl
theorem bgs_key {k : FK} (h : FKo k) : ∀ x ∈ bgs k, x.key = true := fun x hx => by
  obtain ⟨j, _, rfl⟩ := List.mem_map.mp hx
  exact bg_key (frames_take h.ok.2.2.2 _)
theorem begs_key {L : List FK} (h : ∀ k ∈ L, FKo k) : ∀ x ∈ begs L, x.key = true := fun x hx => by
  obtain ⟨k, hk, hx⟩ := List.mem_flatMap.mp hx
  exact bgs_key (h k hk) x hx
def bI (c : P → Nat) (l : List P) : List (P × IV) := (nubS l).map fun y => (y, IV.p (.int (c y)))
theorem bI_len (c : P → Nat) (l : List P) : (bI c l).length ≤ l.length := by
  unfold bI
  rw [List.length_map]
  refine snoc_ind (Q := fun l => (nubS l).length ≤ l.length) (Nat.le_refl _) (fun l x ih => ?_) l
  rw [nubS_snoc]
  split <;> simp <;> omega
theorem bI_congr {c d : P → Nat} {l : List P} (h : ∀ y ∈ nubS l, c y = d y) : bI c l = bI d l := List.map_congr_left fun y hy => by rw [h y hy]
section
variable {W : Wh} {t m : List O}
theorem dgT (kvs : List (P × IV)) : (⟨t ++ [.dg kvs], m⟩ : Sto).dg (.tmp t.length) = some kvs := by simp [Sto.dg]
theorem setTT (o o' : O) : (⟨t ++ [o], m⟩ : Sto).setT t.length o' = ⟨t ++ [o'], m⟩ := by simp [Sto.setT]
theorem isDctT (kvs : List (P × IV)) : isDct ⟨t ++ [.dg kvs], m⟩ (.tmp t.length) = true := by simp [isDct, dgT]
theorem gputT {c : P → Nat} {l : List P} {x : P} {v : Nat} (hl : ∀ y ∈ l, y.key = true) (hx : x.key = true) (hn : l.length ≤ 10000) : dputX (.tmp t.length) (.p x) (.p (.int v)) ⟨t ++ [.dg (bI c l)], m⟩ = .ok (.p .non) ⟨t ++ [.dg (bI (fun y => if y.eqv x = true then v else c y) (l ++ [x]))], m⟩ := by
  have hb := big
  have hlen := bI_len c l
  rw [dputX_dg (kvs := bI c l) (by simp)]
  simp only [gputD, dgT, hx, show (bI c l).length < sizeLine by omega, and_self, if_true]
  have e : putK x (.p (.int v)) (bI c l) = bI (fun y => if y.eqv x = true then v else c y) (l ++ [x]) := by
    unfold bI
    rw [nub_put (c := fun y => IV.p (.int (c y))) hl hx]
    refine List.map_congr_left fun y _ => ?_
    split <;> simp_all
  have f : findK x (bI c l) = if ((nubS l).any fun y => y.eqv x) = true then some (IV.p (.int (c x))) else none := find_fun (c := fun y => IV.p (.int (c y))) hx (nubS_ok l hl).1.k
  rw [f]
  split <;> (first | (rename_i h; split at h <;> simp_all [setTT]) | skip)
theorem ggetT {c : P → Nat} {l : List P} {x : P} (hl : ∀ y ∈ l, y.key = true) (hx : x.key = true) (z : Nat) (hz : ¬ ((nubS l).any fun y => y.eqv x) = true → c x = z) : ggetD (.tmp t.length) (.p x) (.p (.int z)) ⟨t ++ [.dg (bI c l)], m⟩ = .ok (.p (.int (c x))) ⟨t ++ [.dg (bI c l)], m⟩ := by
  have f : findK x (bI c l) = if ((nubS l).any fun y => y.eqv x) = true then some (IV.p (.int (c x))) else none := find_fun (c := fun y => IV.p (.int (c y))) hx (nubS_ok l hl).1.k
  simp only [ggetD, dFind, dgT, hx, if_true, f]
  by_cases h : ((nubS l).any fun y => y.eqv x) = true
  · simp [h, ivP]
  · simp [h, hz h]
theorem bump_fun (l : List P) (x : P) : bI (fun y => if y.eqv x = true then cnt l x + 1 else cnt l y) (l ++ [x]) = bI (cnt (l ++ [x])) (l ++ [x]) → True := fun _ => trivial
theorem bump_eq {l : List P} {x : P} (hl : ∀ y ∈ l, y.key = true) (hx : x.key = true) : bI (fun y => if y.eqv x = true then cnt l x + 1 else cnt l y) (l ++ [x]) = bI (cnt (l ++ [x])) (l ++ [x]) := by
  have hl2 : ∀ y ∈ l ++ [x], y.key = true := fun y hy => by
    rcases List.mem_append.mp hy with h | h
    · exact hl y h
    · rw [List.mem_singleton.mp h]; exact hx
  refine bI_congr fun y hy => ?_
  have hk := (nubS_ok _ hl2).1.k y hy
  rw [cnt_snoc]
  by_cases e : y.eqv x = true
  · have := (key_eq hk hx).mp e
    subst this
    simp [eqv_refl]
  · have e2 : ¬ x.eqv y = true := by rw [eqv_comm]; exact e
    simp [e, e2]
end
end Rw

namespace Rw
open PySem G7
/-! the draws -/
def cellI (xs : List Int) (k : Nat) : Int := if h : k < xs.length then xs[k] else if h2 : xs = [] then 0 else xs[k % xs.length]'(Nat.mod_lt _ (List.length_pos_iff.mpr h2)) * 31 + k
def mixI (xs : List Int) (k : Nat) (many : Int) : Int :=
  ((cellI xs k * 1103515245 + 7919 * k + 12345) % 2147483647) ^ 5 % 2147483647 % 999983 % many
theorem mixI_pos (xs : List Int) (k : Nat) {many : Int} (h : 0 < many) : 0 ≤ mixI xs k many ∧ mixI xs k many < many := ⟨Int.emod_nonneg _ (by omega), Int.emod_lt_of_pos _ h⟩
/-- the store: the town with c draws, then the rest -/
def tw (c : Nat) (ts m : List O) : Sto := ⟨.lst (List.replicate c (.int 0)) :: ts, m⟩
theorem tw_back (c c' : Nat) (ts m : List O) : (tw c' ts m).back (tw c ts m).t.length = tw c' ts m := by simp [tw, Sto.back]
theorem mul_right (i j : Int) (s : Sto) (h : -(2 ^ 64) < j ∧ j < 2 ^ 64) : binD .Mult (.p (.int i)) (.p (.int j)) s = .ok (.p (.int (i * j))) s := by simp only [binD, get_p, binP, if_pos (Or.inr h)]; rfl
section
variable {W : Wh} {s : Sto} {xs : List Int} {ts m : List O}
theorem idx_scr (k : Nat) (h : k < xs.length) : idxD (.scr xs) (.p (.int k)) s = .ok (.p (.int xs[k])) s := by
  simp only [idxD, atI_nat (List.getElem?_eq_getElem h)]; rfl
theorem q_cell (n : Nat) (k : Nat) : G7.run tab W (n + 1) i__law_cell_at [.scr xs, .p (.int k)] s = .ok (.p (.int (cellI xs k))) s := by
  rw [r__law_cell_at]
  have e0 : cmpD .Eq (.scr xs) (.p (.lst [])) s = .ok (.p (.bl xs.isEmpty)) s := by
    simp only [cmpD, get'_scr, get'_p, cmpP, show (P.lst []).lim 20 = true from rfl, Bool.or_true, if_true]
    cases xs <;> rfl
  have c1 : ((k : Int) < (xs.length : Int)) ↔ k < xs.length := by omega
  unfold cellI
  by_cases h : k < xs.length
  · simp [b__law_cell_at, c1, h, idx_scr k h]
  · by_cases h2 : xs = []
    · subst h2
      simp [b__law_cell_at, e0, show ¬ (k : Int) < 0 by omega]
    · have hl : 0 < xs.length := List.length_pos_iff.mpr h2
      have hm : k % xs.length < xs.length := Nat.mod_lt _ hl
      have e1 : (k : Int) % (xs.length : Int) = ((k % xs.length : Nat) : Int) := by simp
      have e2 : xs.isEmpty = false := by cases xs with
        | nil => exact absurd rfl h2
        | cons _ _ => rfl
      simp [b__law_cell_at, c1, h, h2, e0, e2, mod_ii _ _ _ (show (0 : Int) < (xs.length : Int) by omega)]
      rw [e1, idx_scr _ hm]
      simp [mul_right]
theorem pow_ii (i : Int) (s : Sto) (h : i.natAbs < 2 ^ 64) : binD .Pow (.p (.int i)) (.p (.int 5)) s = .ok (.p (.int (i ^ 5))) s := by
  simp only [binD, get_p, binP, if_pos (show (0 : Int) ≤ 5 ∧ (5 : Int) ≤ 1000000 ∧ i.natAbs < 2 ^ 64 from ⟨by omega, by omega, h⟩)]; rfl
theorem q_mixed (n : Nat) (k : Nat) (many : Int) (hm : 0 < many) : G7.run tab W (n + 2) i__law_mixed [.scr xs, .p (.int k), .p (.int many)] s = .ok (.p (.int (mixI xs k many))) s := by
  rw [r__law_mixed]
  have h1 := Int.emod_nonneg (cellI xs k * 1103515245 + 7919 * (k : Int) + 12345) (show (2147483647 : Int) ≠ 0 by decide)
  have h2 := Int.emod_lt_of_pos (cellI xs k * 1103515245 + 7919 * (k : Int) + 12345) (show (0 : Int) < 2147483647 by decide)
  simp [b__law_mixed, q_cell n k, mul_right _ _ _ (show -(2 ^ 64) < (1103515245 : Int) ∧ (1103515245 : Int) < 2 ^ 64 by decide), mul_ii _ _ _ (show -(2 ^ 64) < (7919 : Int) ∧ (7919 : Int) < 2 ^ 64 by decide), mod_ii,
    pow_ii ((cellI xs k * 1103515245 + 7919 * (k : Int) + 12345) % 2147483647) s (by omega), hm, mixI]
theorem get_tw (c : Nat) : (tw c ts m).get (.tmp 0) = some (.lst (List.replicate c (.int 0))) := rfl
theorem app_tw (c : Nat) (h : c < sizeLine) : appD (.tmp 0) (.p (.int 0)) (tw c ts m) = .ok (.p .non) (tw (c + 1) ts m) := by
  simp only [appD, tw, List.getElem?_cons_zero, List.length_replicate, if_pos h, Sto.setT, List.set_cons_zero, ← List.replicate_succ']
theorem len_tw (c : Nat) : b1D .len (.tmp 0) (tw c ts m) = .ok (.p (.int c)) (tw c ts m) := by
  simp only [b1D, get_tw, b1P, List.length_replicate]; rfl
theorem q_draw (n c : Nat) (many : Int) (hm : 0 < many) (hc : c < sizeLine) : G7.run tab W (n + 3) i__law_draw [.scr xs, .tmp 0, .p (.int many)] (tw c ts m) = .ok (.p (.int (mixI xs (c + 1) many))) (tw (c + 1) ts m) := by
  rw [r__law_draw]
  have e : isLstD (.tmp 0) (tw c ts m) = true := by simp only [isLstD, get_tw]
  have q : G7.run tab W (n + 2) i__law_mixed [.scr xs, .p (.int ((c : Int) + 1)), .p (.int many)] (tw (c + 1) ts m) = _ := q_mixed (W := W) (s := tw (c + 1) ts m) (xs := xs) n (c + 1) many hm
  simp [b__law_draw, e, app_tw c hc, len_tw, q, tw_back]
/-- a draw: some number below -/
theorem k_draw (n c : Nat) (many : Int) (hm : 0 < many) (hc : c < sizeLine) : ∃ d : Nat, (d : Int) < many ∧ G7.run tab W (n + 3) i__law_draw [.scr xs, .tmp 0, .p (.int many)] (tw c ts m) = .ok (.p (.int d)) (tw (c + 1) ts m) := by
  obtain ⟨h1, h2⟩ := mixI_pos xs (c + 1) hm
  refine ⟨(mixI xs (c + 1) many).toNat, by omega, ?_⟩
  rw [q_draw n c many hm hc, Int.toNat_of_nonneg h1]
theorem rangeL_get (lo : Int) (n j : Nat) : (rangeL lo n)[j]? = if j < n then some (.p (.int (lo + j))) else none := by
  unfold rangeL
  rw [List.getElem?_map]
  by_cases h : j < n
  · rw [List.getElem?_range h, if_pos h]; rfl
  · rw [List.getElem?_eq_none (by simpa using h), if_neg h]; rfl
theorem rangeL_len (lo : Int) (n : Nat) : (rangeL lo n).length = n := by simp [rangeL]
theorem rng1_ok (j : Nat) (h : j ≤ 1000000) (s : Sto) : rng1D (.p (.int j)) s = .ok (.fix (rangeL 0 j)) s := by
  simp only [rng1D]
  rw [if_pos (by omega)]; rfl
end
end Rw

namespace Rw
open PySem G7
theorem cutTk (L : List P) (r : Nat) : cut L none (some (r : Int)) = L.take r := by
  unfold cut
  rw [HT.sIx_none, HT.sIx_nat, List.drop_zero, Nat.sub_zero]
  by_cases h : r ≤ L.length
  · rw [Nat.min_eq_left h]
  · rw [Nat.min_eq_right (by omega), List.take_length, List.take_of_length_le (by omega)]
def entB (c : P → Nat) : P → P
  | .tup xs => .tup (xs ++ [.int (c (.tup xs))])
  | y => y
def brP (L : List FK) : List P := srtP ((nubS (begs L)).map (entB (cnt (begs L))))
theorem bgs_take {k : FK} {j : Nat} (h : j < k.fs.length) : (bgs k).take (j + 1) = (bgs k).take j ++ [bgK k.w (k.fs.take (j + 1))] := by
  rw [List.take_add_one]
  congr 1
  unfold bgs
  rw [List.getElem?_map, List.getElem?_range h]
  rfl
theorem bgs_len (k : FK) : (bgs k).length = k.fs.length := by simp [bgs]
theorem begs_snoc (L : List FK) (k : FK) : begs (L ++ [k]) = begs L ++ bgs k := by simp [begs]
theorem begs_len {L : List FK} (h : ∀ k ∈ L, FKo k) : (begs L).length ≤ 12 * L.length := by
  induction L with
  | nil => simp [begs]
  | cons k r ih =>
    have := ih fun k hk => h k (List.mem_cons_of_mem _ hk)
    have h2 := (h k List.mem_cons_self).ok.2.2.1
    have e : begs (k :: r) = bgs k ++ begs r := rfl
    rw [e, List.length_append, bgs_len, List.length_cons]
    omega
/-- the pairs may be put in order -/
theorem ent_is {L : List FK} (h : ∀ k ∈ L, FKo k) {c : P → Nat} {a : P} (ha : a ∈ (nubS (begs L)).map (entB c)) : ∃ (w : Str) (fs : List P) (i : Int), a = .tup [.str w, .tup fs, .int i] ∧ fs.all frameOk = true := by
  obtain ⟨y, hy, rfl⟩ := List.mem_map.mp ha
  have hy := ((nubS_ok _ (begs_key h)).2 y).mp hy
  obtain ⟨k, hk, hy⟩ := List.mem_flatMap.mp hy
  obtain ⟨j, _, rfl⟩ := List.mem_map.mp hy
  exact ⟨k.w, _, _, rfl, frames_take (h k hk).ok.2.2.2 _⟩
theorem trip_cok {w v : Str} {fs gs : List P} {i j : Int} (h1 : fs.all frameOk = true) (h2 : gs.all frameOk = true) : (P.tup [.str w, .tup fs, .int i]).cok (.tup [.str v, .tup gs, .int j]) = true := by
  simp [P.cok, P.coks, coks_two fs gs h1 h2]
theorem trips_srt {E : List P} (h : ∀ a ∈ E, ∃ (w : Str) (fs : List P) (i : Int), a = .tup [.str w, .tup fs, .int i] ∧ fs.all frameOk = true) {s : Sto} : srtD (.p (.lst E)) s = .ok (srtP E) s := by
  cases hE : E with
  | nil => simp [srtD, intsP, srtP]
  | cons x r =>
    rw [← hE]
    have e1 : intsP E = none := by
      rw [hE]
      obtain ⟨w, fs, i, rfl, _⟩ := h x (by rw [hE]; exact List.mem_cons_self)
      rfl
    have e2 : srtOk E = true := by
      unfold srtOk
      rw [List.all_eq_true]
      intro a ha
      obtain ⟨w, fs, i, rfl, hf⟩ := h a ha
      have l := (two_hk fs 17 hf).2
      have l20 : (P.tup [.str w, .tup fs, .int i]).lim 20 = true := by simp [P.lim, P.lims, l]
      rw [l20, Bool.true_and, Bool.and_eq_true]
      refine ⟨rfl, List.all_eq_true.mpr fun b hb => ?_⟩
      obtain ⟨v, gs, j, rfl, hg⟩ := h b hb
      rw [trip_cok hf hg]; rfl
    simp only [srtD, get_p, e1, e2, if_true]
theorem rng2_ok (n : Nat) (h : n ≤ 1000) (s : Sto) : rng2D (.p (.int 1)) (.p (.int ((n : Int) + 1))) s = .ok (.fix (rangeL 1 n)) s := by
  have e : ((n : Int) + 1 - 1).toNat = n := by omega
  simp only [rng2D, e]
  exact if_pos (by omega)
theorem i_rng2n {F : Fns} {a b : E} {σ : Sl} {s : Sto} (n : Nat) (hn : n ≤ 1000) (h1 : ev F a σ s = .ok (.p (.int 1)) s) (h2 : ev F b σ s = .ok (.p (.int ((n : Int) + 1))) s) : evI F (.rng2 a b) σ s = .ok (.fix (rangeL 1 n)) s := by
  rw [i_rng2, h1, bind_ok', h2, bind_ok']
  exact rng2_ok n hn s
theorem itemsB (c : P → Nat) (u : List P) : itemsL u (u.map fun y => .p (.int (c y))) = (u.map fun y => P.tup [y, .int (c y)]).map D.p := by
  induction u with
  | nil => rfl
  | cons y u ih => simp only [List.map_cons, itemsL, ih]; rfl
def pairB (c : P → Nat) : P → P
  | .tup [y, _] => entB c y
  | a => a
theorem pairB_map (c : P → Nat) (u : List P) : (u.map fun y => P.tup [y, .int (c y)]).map (pairB c) = u.map (entB c) := by
  rw [List.map_map]
  exact List.map_congr_left fun y _ => rfl
section
variable {W : Wh} {t m : List O}
theorem br_inner (F : Fns) (kd : D) (o2 : Option D) (k : FK) (hk : FKo k) (l : List P) (hl : ∀ y ∈ l, y.key = true) (hn : l.length ≤ 5000) (o5 o6 : Option D) (s0 : Sto) :
    ∃ o5' o6', forLoop (.fix (rangeL 1 k.fs.length)) (.name 5) (exs F W l_branches_1) ((Src.fix (rangeL 1 k.fs.length)).len s0 + 1) 0 [some kd, some (.tmp t.length), o2, some (.p (.str k.w)), some (.p (.tup k.fs)), o5, o6] ⟨t ++ [.dg (bI (cnt l) l)], m⟩
      = .nx [some kd, some (.tmp t.length), o2, some (.p (.str k.w)), some (.p (.tup k.fs)), o5', o6'] ⟨t ++ [.dg (bI (cnt (l ++ bgs k)) (l ++ bgs k))], m⟩ := by
  obtain ⟨_, hk1, hk12, hfr⟩ := hk.ok
  obtain ⟨σ', s', e, ⟨o5', o6', rfl⟩, rfl⟩ := for_fix0 (xs := rangeL 1 k.fs.length) (tg := .name 5) (body := exs F W l_branches_1) (s0 := s0) (σ := [some kd, some (.tmp t.length), o2, some (.p (.str k.w)), some (.p (.tup k.fs)), o5, o6]) (s := ⟨t ++ [.dg (bI (cnt l) l)], m⟩)
    (fun j σ s => (∃ o5 o6, σ = [some kd, some (.tmp t.length), o2, some (.p (.str k.w)), some (.p (.tup k.fs)), o5, o6]) ∧ s = ⟨t ++ [.dg (bI (cnt (l ++ (bgs k).take j)) (l ++ (bgs k).take j))], m⟩) (fun j d σ s hd ⟨⟨o5, o6, h1⟩, h2⟩ => by
      subst h1 h2
      rw [rangeL_get] at hd
      by_cases hj : j < k.fs.length
      · rw [if_pos hj] at hd
        cases hd
        have hx : (bgK k.w (k.fs.take (j + 1))).key = true := bg_key (frames_take hfr _)
        have hl2 : ∀ y ∈ l ++ (bgs k).take j, y.key = true := fun y hy => by
          rcases List.mem_append.mp hy with h | h
          · exact hl y h
          · exact bgs_key hk y (List.mem_of_mem_take h)
        have hlen : (l ++ (bgs k).take j).length ≤ 10000 := by rw [List.length_append, List.length_take, bgs_len]; omega
        have g := ggetT (t := t) (m := m) (c := cnt (l ++ (bgs k).take j)) hl2 hx 0 fun h => cnt_zero hl2 hx h
        have p := gputT (t := t) (m := m) (c := cnt (l ++ (bgs k).take j)) (v := cnt (l ++ (bgs k).take j) (bgK k.w (k.fs.take (j + 1))) + 1) hl2 hx hlen
        rw [bump_eq hl2 hx] at p
        have ct : cut k.fs none (some (1 + (j : Int))) = k.fs.take (j + 1) := by rw [show (1 : Int) + (j : Int) = ((j + 1 : Nat) : Int) by omega]; exact cutTk _ _
        refine ⟨_, [some kd, some (.tmp t.length), o2, some (.p (.str k.w)), some (.p (.tup k.fs)), some (.p (.int (1 + (j : Int)))), some (.p (bgK k.w (k.fs.take (j + 1))))], ⟨t ++ [.dg (bI (cnt (l ++ (bgs k).take (j + 1))) (l ++ (bgs k).take (j + 1)))], m⟩, rfl, ?_, ⟨_, _, rfl⟩, rfl⟩
        rw [bgs_take hj, ← List.append_assoc]
        have g : ggetD (.tmp t.length) (.p (.tup [.str k.w, .tup (k.fs.take (j + 1))])) (.p (.int 0)) ⟨t ++ [.dg (bI (cnt (l ++ (bgs k).take j)) (l ++ (bgs k).take j))], m⟩ = _ := g
        have p : dputX (.tmp t.length) (.p (.tup [.str k.w, .tup (k.fs.take (j + 1))])) (.p (.int ((cnt (l ++ (bgs k).take j) (bgK k.w (k.fs.take (j + 1))) : Int) + 1))) ⟨t ++ [.dg (bI (cnt (l ++ (bgs k).take j)) (l ++ (bgs k).take j))], m⟩ = _ := p
        simp [l_branches_1, ct, isDctT, g, p, -List.append_assoc]
        rfl
      · rw [if_neg hj] at hd; cases hd) ⟨⟨o5, o6, rfl⟩, by simp⟩
  refine ⟨o5', o6', ?_⟩
  rw [e, rangeL_len, List.take_of_length_le (by rw [bgs_len]; exact Nat.le_refl _)]
theorem br_turn (F : Fns) (kd : D) (k : FK) (hk : FKo k) (l : List P) (hl : ∀ y ∈ l, y.key = true) (hn : l.length ≤ 5000) (o5 o6 : Option D) :
    ∃ o5' o6', exs F W l_branches_2 [some kd, some (.tmp t.length), some (.p (.str (Str.ofString "frames"))), some (.p (.str k.w)), some (.p (.tup k.fs)), o5, o6] ⟨t ++ [.dg (bI (cnt l) l)], m⟩
      = .nx [some kd, some (.tmp t.length), some (.p (.str (Str.ofString "frames"))), some (.p (.str k.w)), some (.p (.tup k.fs)), o5', o6'] ⟨t ++ [.dg (bI (cnt (l ++ bgs k)) (l ++ bgs k))], m⟩ := by
  have k12 := hk.ok.2.2.1
  obtain ⟨o5', o6', e⟩ := br_inner (t := t) (m := m) (W := W) F kd (some (.p (.str (Str.ofString "frames")))) k hk l hl hn o5 o6 ⟨t ++ [.dg (bI (cnt l) l)], m⟩
  have rg := i_rng2n (F := F) (a := .con (.int (1))) (b := .bin .Add (.b1 .len (.var 4)) (.con (.int (1)))) (σ := [some kd, some (.tmp t.length), some (.p (.str (Str.ofString "frames"))), some (.p (.str k.w)), some (.p (.tup k.fs)), o5, o6]) (s := ⟨t ++ [.dg (bI (cnt l) l)], m⟩) k.fs.length (by omega) (by simp) (by simp)
  refine ⟨o5', o6', ?_⟩
  unfold l_branches_2
  rw [ss_cons, s_loop, rg, st_ok', e]
  simp
theorem br_put (kd : D) (o2 o3 o4 o5 o6 : Option D) (k : FK) (d : D) : (Tg.names [2, 3, 4]).put (D.p k.p) [some kd, some d, o2, o3, o4, o5, o6] = some [some kd, some d, some (.p (.str (Str.ofString "frames"))), some (.p (.str k.w)), some (.p (.tup k.fs)), o5, o6] := by
  simp [Tg.put, FK.p, setAll]
theorem br_outer (F : Fns) (L : List FK) (h : ∀ k ∈ L, FKo k) (hl : L.length ≤ 60) : ∃ o2 o3 o4 o5 o6, forLoop (.fix ((L.map FK.p).map D.p)) (.names [2, 3, 4]) (exs F W l_branches_2) ((Src.fix ((L.map FK.p).map D.p)).len (⟨t ++ [.dg []], m⟩ : Sto) + 1) 0 [some (.p (.lst (L.map FK.p))), some (.tmp t.length), none, none, none, none, none] ⟨t ++ [.dg []], m⟩
    = .nx [some (.p (.lst (L.map FK.p))), some (.tmp t.length), o2, o3, o4, o5, o6] ⟨t ++ [.dg (bI (cnt (begs L)) (begs L))], m⟩ := by
  obtain ⟨σ', s', e, ⟨o2, o3, o4, o5, o6, rfl⟩, rfl⟩ := for_fix0 (xs := (L.map FK.p).map D.p) (tg := .names [2, 3, 4]) (body := exs F W l_branches_2) (s0 := ⟨t ++ [.dg []], m⟩) (σ := [some (.p (.lst (L.map FK.p))), some (.tmp t.length), none, none, none, none, none]) (s := ⟨t ++ [.dg []], m⟩)
    (fun j σ s => (∃ o2 o3 o4 o5 o6, σ = [some (.p (.lst (L.map FK.p))), some (.tmp t.length), o2, o3, o4, o5, o6]) ∧ s = ⟨t ++ [.dg (bI (cnt (begs (L.take j))) (begs (L.take j)))], m⟩) (fun j d σ s hd ⟨⟨o2, o3, o4, o5, o6, h1⟩, h2⟩ => by
      subst h1 h2
      rw [List.getElem?_map, List.getElem?_map] at hd
      cases hk : L[j]? with
      | none => rw [hk] at hd; cases hd
      | some k =>
        rw [hk] at hd
        cases hd
        have ko := h k (List.mem_of_getElem? hk)
        have hj := (List.getElem?_eq_some_iff.mp hk).1
        have hT : ∀ k ∈ L.take j, FKo k := fun k hk => h k (List.mem_of_mem_take hk)
        have hlen := begs_len hT
        have hlt : (L.take j).length ≤ 60 := by rw [List.length_take]; omega
        obtain ⟨o5', o6', e⟩ := br_turn (t := t) (m := m) (W := W) F (.p (.lst (L.map FK.p))) k ko (begs (L.take j)) (begs_key hT) (by omega) o5 o6
        have et : begs (L.take (j + 1)) = begs (L.take j) ++ bgs k := by
          rw [List.take_add_one, hk]
          exact begs_snoc _ _
        exact ⟨_, _, _, br_put _ _ _ _ _ _ _ _, e, ⟨_, _, _, o5', o6', rfl⟩, by rw [et]⟩) ⟨⟨none, none, none, none, none, rfl⟩, rfl⟩
  have hlen : ((L.map FK.p).map D.p).length = L.length := by simp
  rw [hlen, List.take_length] at e
  exact ⟨o2, o3, o4, o5, o6, e⟩
theorem br_end (F : Fns) (kd : D) (o2 o3 o4 o5 o6 : Option D) (B : List P) (ent : ∀ a ∈ (nubS B).map (entB (cnt B)), ∃ (w : Str) (fs : List P) (i : Int), a = .tup [.str w, .tup fs, .int i] ∧ fs.all frameOk = true) (tups : ∀ y ∈ nubS B, ∃ w fs, y = .tup [.str w, .tup fs]) :
    ex F W (.gfz 1 (.ret (.fz (.srt (.fz (.comp (.names [6, 5]) (.dit (.var 1)) .none (.bin .Add (.var 6) (.tup (.cons (.var 5) .nil))) [5, 6])))))) [some kd, some (.tmp t.length), o2, o3, o4, o5, o6] ⟨t ++ [.dg (bI (cnt B) B)], m⟩ = .rt (.p (.lst (srtP ((nubS B).map (entB (cnt B)))))) ⟨t ++ [.gone], m⟩ := by
  have al : (bI (cnt B) B).all (fun kv => noD kv.2) = true := by simp [bI, noD]
  have fz : frzSl 1 [some kd, some (.tmp t.length), o2, o3, o4, o5, o6] ⟨t ++ [.dg (bI (cnt B) B)], m⟩ = some ([some kd, some (.dct (nubS B) ((nubS B).map fun y => .p (.int (cnt B y)))), o2, o3, o4, o5, o6], ⟨t ++ [.gone], m⟩) := by
    simp only [frzSl, List.getElem?_cons_succ, List.getElem?_cons_zero, List.getElem?_concat_length, al, if_true, setTT]
    simp [bI, ivF, Function.comp_def]
  simp [fz, gfzS, ditD, wipe]
  rw [itemsB]
  rw [lc_map (f := pairB (cnt B)) fun a ha => by
      obtain ⟨y, hy, rfl⟩ := List.mem_map.mp ha
      obtain ⟨w, fs, rfl⟩ := tups y hy
      have hb := big
      simp [Tg.put, setAll]
      rw [add_tt _ _ _ (by simp; omega)]
      rfl]
  rw [pairB_map]
  simp [trips_srt ent]
theorem q_branches (n : Nat) (L : List FK) (h : ∀ k ∈ L, FKo k) (hl : L.length ≤ 60) : G7.run tab W (n + 5) i_branches [.p (.lst (L.map FK.p))] ⟨t, m⟩ = .ok (.p (.lst (brP L))) ⟨t, m⟩ := by
  have nk := fun s => q_need_keys_ok (W := W) (s := s) n L h
  rw [r_branches]
  generalize G7.run tab W (n + 4) = F at nk ⊢
  have p0 : (⟨t, m⟩ : Sto).pushT (.dg []) = ⟨t ++ [.dg []], m⟩ := rfl
  obtain ⟨o2, o3, o4, o5, o6, e⟩ := br_outer (W := W) (t := t) (m := m) F L h hl
  have en := br_end (W := W) (t := t) (m := m) F (.p (.lst (L.map FK.p))) o2 o3 o4 o5 o6 (begs L) (fun a ha => ent_is h ha) fun y hy => by
    have hy := ((nubS_ok _ (begs_key h)).2 y).mp hy
    obtain ⟨k, hk, hy⟩ := List.mem_flatMap.mp hy
    obtain ⟨j, _, rfl⟩ := List.mem_map.mp hy
    exact ⟨k.w, _, rfl⟩
  unfold b_branches
  rw [ss_cons]
  rw [show ex F W (.exp (.call i_need_keys (.cons (.var 0) .nil))) [some (.p (.lst (L.map FK.p))), none, none, none, none, none, none] ⟨t, m⟩ = .nx [some (.p (.lst (L.map FK.p))), none, none, none, none, none, none] ⟨t, m⟩ by simp [nk], then_nx', ss_cons]
  rw [show ex F W (.asg (.name 1) .gnew) [some (.p (.lst (L.map FK.p))), none, none, none, none, none, none] ⟨t, m⟩ = .nx [some (.p (.lst (L.map FK.p))), some (.tmp t.length), none, none, none, none, none] ⟨t ++ [.dg []], m⟩ by simp [p0], then_nx', ss_cons]
  rw [show ex F W (.loop (.names [2, 3, 4]) (.val (.var 0)) l_branches_2) [some (.p (.lst (L.map FK.p))), some (.tmp t.length), none, none, none, none, none] ⟨t ++ [.dg []], m⟩ = .nx [some (.p (.lst (L.map FK.p))), some (.tmp t.length), o2, o3, o4, o5, o6] ⟨t ++ [.dg (bI (cnt (begs L)) (begs L))], m⟩ by
    simp [-List.map_map]
    exact e, then_nx', ss_cons, en]
  simp [fin, Sto.back, brP]
end
end Rw

namespace Rw
open PySem G7
/-- a while loop that counts -/
theorem while_count {c : Sl → Sto → R D} {body : Sl → Sto → RS} (st : Nat → Sl) (s : Sto) (C : Nat → Bool) (N : Nat) (hT : ∀ j, j < N → C j = true) (hF : C N = false) (hc : ∀ j, j ≤ N → c (st j) s = .ok (.p (.bl (C j))) s) (hb : ∀ j, j < N → body (st j) s = .nx (st (j + 1)) s) :
    ∀ (fuel j : Nat), j ≤ N → N < fuel + j → whileLoop c body fuel (st j) s = .nx (st N) s
  | 0, j, h, hf => by omega
  | fuel + 1, j, h, hf => by
    unfold whileLoop
    rw [hc j h, st_ok']
    by_cases e : j = N
    · subst e
      rw [hF]
    · rw [hT j (by omega)]
      simp only
      rw [hb j (by omega)]
      simp only
      exact while_count st s C N hT hF hc hb fuel (j + 1) (by omega) (by omega)
/-- where it stops -/
def stopN (C : Nat → Bool) : Nat → Nat → Nat
  | 0, j => j
  | n + 1, j => if C j = true then stopN C n (j + 1) else j
theorem stopN_ok (C : Nat → Bool) (M : Nat) (hM : C M = false) : ∀ (n j : Nat), j + n = M → (∀ i, i < j → C i = true) → (∀ i, i < stopN C n j → C i = true) ∧ C (stopN C n j) = false ∧ stopN C n j ≤ M
  | 0, j, h, hj => by
    have : j = M := by omega
    subst this
    exact ⟨hj, hM, Nat.le_refl _⟩
  | n + 1, j, h, hj => by
    unfold stopN
    by_cases e : C j = true
    · rw [if_pos e]
      exact stopN_ok C M hM n (j + 1) (by omega) fun i hi => by
        by_cases ei : i = j
        · rw [ei]; exact e
        · exact hj i (by omega)
    · rw [if_neg e]
      exact ⟨hj, by simpa using e, by omega⟩
theorem frs_lim {fs : List P} (h : fs.all frameOk = true) : (P.tup fs).lim 20 = true := (two_hk fs 18 h).2
/-- how many frames all begin with -/
def begin_ (L : List FK) (fs : List P) (j : Nat) : Bool := L.all fun k => P.eqvs (k.fs.take j) (fs.take j)
def tkC (L : List FK) (fs : List P) (j : Nat) : Bool := decide (j < fs.length) && begin_ L fs (j + 1)
def tkN (L : List FK) (fs : List P) : Nat := stopN (tkC L fs) fs.length 0
theorem tkN_ok (L : List FK) (fs : List P) : (∀ i, i < tkN L fs → tkC L fs i = true) ∧ tkC L fs (tkN L fs) = false ∧ tkN L fs ≤ fs.length :=
  stopN_ok _ fs.length (by simp [tkC]) fs.length 0 (by omega) fun i hi => by omega
def trunkP : List FK → P
  | [] => .non
  | k :: r => if ((k :: r).any fun o => !(o.w == k.w)) = true then .non else .tup [.str k.w, .tup (k.fs.take (tkN (k :: r) k.fs))]
section
variable {W : Wh} {s : Sto}
theorem cmpTk (j : Nat) (fs gs : List P) (h : fs.all frameOk = true) : cmpD .Eq (.p (.tup (fs.take j))) (.p (.tup (gs.take j))) s = .ok (.p (.bl (P.eqvs (fs.take j) (gs.take j)))) s := by
  rw [eq_pp _ _ (by rw [frs_lim (frames_take h j)]; rfl)]; rfl
theorem eqNil (ks : List P) : cmpD .Eq (.p (.lst ks)) (.p (.lst [])) s = .ok (.p (.bl ks.isEmpty)) s := by
  rw [eq_pp _ _ (by simp [P.lim, P.lims])]
  cases ks <;> rfl
theorem q_trunk (n : Nat) (L : List FK) (h : ∀ k ∈ L, FKo k) : G7.run tab W (n + 5) i_trunk [.p (.lst (L.map FK.p))] s = .ok (.p (trunkP L)) s := by
  have nk := fun s => q_need_keys_ok (W := W) (s := s) n L h
  rw [r_trunk]
  generalize G7.run tab W (n + 4) = F at nk ⊢
  cases L with
  | nil =>
    have nk : ∀ s, F i_need_keys [.p (.lst [])] s = .ok (.p .non) s := nk
    simp [b_trunk, nk, eqNil, trunkP]
  | cons k r =>
    have ko := h k List.mem_cons_self
    obtain ⟨_, hk1, hk12, hfr⟩ := ko.ok
    obtain ⟨ks, hks⟩ : ∃ ks, ks = (k :: r).map FK.p := ⟨_, rfl⟩
    rw [← hks] at nk ⊢
    have i0 : ∀ s : Sto, idxD (.p (.lst ks)) (.p (.int 0)) s = .ok (.p k.p) s := fun s => by rw [hks]; exact idx_lst _ _ (at0 _ _)
    have hne : ks.isEmpty = false := by rw [hks]; rfl
    have hmem : ∀ a ∈ ks, ∃ o ∈ k :: r, a = o.p := fun a ha => by
      rw [hks] at ha
      obtain ⟨o, ho, e⟩ := List.mem_map.mp ha
      exact ⟨o, ho, e.symm⟩
    have an : ∀ q q' b, ((k :: r).any fun o => !(o.w == k.w)) = b → ex F W (.ife (.or (.cons (.cmp .Eq (.var 0) (.fz (.disp .nil))) (.cons (.b1 .any (.fz (.comp (.name 3) (.val (.var 0)) .none (.cmp .NotEq (.idx (.var 3) (.con (.int (1)))) (.idx (.idx (.var 0) (.con (.int (0)))) (.con (.int (1))))) [3]))) .nil))) q q') [some (.p (.lst ks)), none, none, none] s = if b = true then exs F W q [some (.p (.lst ks)), none, none, none] s else exs F W q' [some (.p (.lst ks)), none, none, none] s := fun q q' b hb => by
      simp [eqNil, wipe, hne]
      rw [lc_map (f := fun a => match a with
        | .tup [_, .str w, _] => .bl (!(w == k.w))
        | a => a) fun a ha => by
        obtain ⟨o, ho, rfl⟩ := hmem a ha
        simp [fk1, i0]
        rfl]
      rw [hks, List.map_map]
      rw [show ((fun a => match a with
        | .tup [_, .str w, _] => .bl (!(w == k.w))
        | a => a) ∘ FK.p) = fun o : FK => P.bl (!(o.w == k.w)) from rfl]
      simp only [bind_ok', any_map]
      rw [hb]
      cases b <;> simp
    unfold b_trunk
    rw [ss_cons, show ex F W (.exp (.call i_need_keys (.cons (.var 0) .nil))) [some (.p (.lst ks)), none, none, none] s = .nx [some (.p (.lst ks)), none, none, none] s by simp [nk], then_nx', ss_cons, an _ _ _ rfl]
    by_cases hw : ((k :: r).any fun o => !(o.w == k.w)) = true
    · have tp : trunkP (k :: r) = .non := if_pos hw
      rw [if_pos hw, tp]
      simp
    · have tp : trunkP (k :: r) = .tup [.str k.w, .tup (k.fs.take (tkN (k :: r) k.fs))] := if_neg hw
      rw [if_neg hw, tp, ss_nil, then_nx', ss_cons]
      rw [show ex F W (.asg (.name 1) (.idx (.idx (.var 0) (.con (.int (0)))) (.con (.int (2))))) [some (.p (.lst ks)), none, none, none] s = .nx [some (.p (.lst ks)), some (.p (.tup k.fs)), none, none] s by simp [i0, fk2], then_nx', ss_cons]
      rw [show ex F W (.asg (.name 2) (.con (.int (0)))) [some (.p (.lst ks)), some (.p (.tup k.fs)), none, none] s = .nx [some (.p (.lst ks)), some (.p (.tup k.fs)), some (.p (.int ((0 : Nat) : Int))), none] s by simp, then_nx', ss_cons, s_whl]
      obtain ⟨t1, t2, t3⟩ := tkN_ok (k :: r) k.fs
      have wc := while_count (c := ev F l_trunk_1) (body := exs F W l_trunk_2) (fun j => [some (.p (.lst ks)), some (.p (.tup k.fs)), some (.p (.int ((j : Nat) : Int))), none]) s (tkC (k :: r) k.fs) (tkN (k :: r) k.fs) t1 t2 (fun j hj => by
        have cj : ((j : Int) < (k.fs.length : Int)) ↔ j < k.fs.length := by omega
        have ct : ∀ gs : List P, cut gs none (some ((j : Int) + 1)) = gs.take (j + 1) := fun gs => by rw [show (j : Int) + 1 = ((j + 1 : Nat) : Int) by omega]; exact cutTk _ _
        by_cases hl : j < k.fs.length
        · simp [l_trunk_1, cj, hl, wipe]
          rw [lc_map (f := fun a => match a with
            | .tup [_, _, .tup gs] => .bl (P.eqvs (gs.take (j + 1)) (k.fs.take (j + 1)))
            | a => a) fun a ha => by
            obtain ⟨o, ho, rfl⟩ := hmem a ha
            simp [fk2, ct, cmpTk (j + 1) o.fs k.fs (h o ho).ok.2.2.2]
            rfl]
          rw [hks, List.map_map]
          rw [show ((fun a => match a with
            | .tup [_, _, .tup gs] => .bl (P.eqvs (gs.take (j + 1)) (k.fs.take (j + 1)))
            | a => a) ∘ FK.p) = fun o : FK => P.bl (P.eqvs (o.fs.take (j + 1)) (k.fs.take (j + 1))) from rfl]
          simp only [bind_ok', all_map, tkC, hl, decide_true, Bool.true_and, begin_]
        · simp [l_trunk_1, cj, hl, tkC]) (fun j hj => by
          simp [l_trunk_2]) 64 0 (by omega) (by omega)
      rw [wc, then_nx', ss_cons]
      simp [i0, fk1, cutTk]
/-- how many frames tell a key from others -/
def othr (L : List FK) (k : FK) : List FK := L.filter fun o => (o.w == k.w) && !(o.p.eqv k.p)
def shC (O : List FK) (k : FK) (j : Nat) : Bool := !(O.any fun o => P.eqvs (o.fs.take (j + 1)) (k.fs.take (j + 1)))
def shP (L : List FK) (k : FK) : P := match (List.range k.fs.length).find? (shC (othr L k) k) with
  | some j => .int ((j : Int) + 1)
  | none => .non
/-- a loop that ends at the first hit -/
theorem for_hit {body : Sl → Sto → RS} {σ : Sl} {s s0 : Sto} {i : Nat} {n : Nat} {C : Nat → Bool} (lo : Int) (r : Nat → D) (hb : ∀ j, j < n → body (σ.set i (some (.p (.int (lo + (j : Int)))))) s = if C j = true then .rt (r j) s else .nx (σ.set i (some (.p (.int (lo + (j : Int)))))) s) :
    ∃ o, forLoop (.fix (rangeL lo n)) (.name i) body ((Src.fix (rangeL lo n)).len s0 + 1) 0 σ s = match (List.range n).find? C with
      | some j => .rt (r j) s
      | none => .nx (σ.set i o) s := by
  have key : ∀ (k j : Nat) (o : Option D), j + k = n → ∃ o', forLoop (.fix (rangeL lo n)) (.name i) body (k + 1) j (σ.set i o) s = match ((List.range n).drop j).find? C with
      | some j => .rt (r j) s
      | none => .nx (σ.set i o') s := by
    intro k
    induction k with
    | zero =>
      intro j o h
      have : j = n := by omega
      subst this
      refine ⟨o, ?_⟩
      unfold forLoop
      rw [at_fix, rangeL_get, if_neg (by omega), List.drop_of_length_le (by simp)]
      rfl
    | succ k ih =>
      intro j o h
      obtain ⟨o', e⟩ := ih (j + 1) (some (.p (.int (lo + (j : Int))))) (by omega)
      refine ⟨o', ?_⟩
      unfold forLoop
      rw [at_fix, rangeL_get, if_pos (by omega)]
      simp only [put_name, List.set_set]
      rw [hb j (by omega)]
      have hd : (List.range n).drop j = j :: (List.range n).drop (j + 1) := by
        rw [List.drop_eq_getElem_cons (by simpa using (by omega : j < n)), List.getElem_range]
      rw [hd, List.find?_cons]
      by_cases hC : C j = true
      · simp [hC]
      · have hC : C j = false := by simpa using hC
        simp only [hC, Bool.false_eq_true, if_false]
        exact e
  obtain ⟨o', e⟩ := key n 0 (σ[i]?.getD none) (by omega)
  refine ⟨o', ?_⟩
  rw [set_self0, List.drop_zero] at e
  rw [len_fix, rangeL_len]
  exact e
where
  set_self0 {σ : Sl} {i : Nat} : σ.set i (σ[i]?.getD none) = σ := by
    apply List.ext_getElem?
    intro j
    rw [List.getElem?_set]
    by_cases h : i = j
    · subst h
      by_cases hl : i < σ.length
      · rw [if_pos rfl, if_pos hl, List.getElem?_eq_getElem hl]; rfl
      · rw [if_pos rfl, if_neg hl, List.getElem?_eq_none (by omega)]
    · rw [if_neg h]
theorem q_shortest (n : Nat) (L : List FK) (h : ∀ k ∈ L, FKo k) (k : FK) (hk : FKo k) : G7.run tab W (n + 5) i_shortest [.p (.lst (L.map FK.p)), .p k.p] s = .ok (.p (shP L k)) s := by
  have nk := fun s => q_need_keys_ok (W := W) (s := s) n L h
  have nk2 := fun s => q_need_keys_ok (W := W) (s := s) n [k] (by simpa using hk)
  simp only [List.map_cons, List.map_nil] at nk2
  rw [r_shortest]
  generalize G7.run tab W (n + 4) = F at nk nk2 ⊢
  have lk := (frs_lim hk.ok.2.2.2)
  have l20 : k.p.lim 20 = true := lim_mono 10 _ (isKey_key hk.key).2.2.1
  have k12 := hk.ok.2.2.1
  unfold b_shortest
  rw [ss_cons, show ex F W (.exp (.call i_need_keys (.cons (.var 0) .nil))) [some (.p (.lst (L.map FK.p))), some (.p k.p), none, none, none] s = .nx [some (.p (.lst (L.map FK.p))), some (.p k.p), none, none, none] s by simp [nk], then_nx', ss_cons]
  rw [show ex F W (.exp (.call i_need_keys (.cons (.fz (.disp (.cons (.var 1) .nil))) .nil))) [some (.p (.lst (L.map FK.p))), some (.p k.p), none, none, none] s = .nx [some (.p (.lst (L.map FK.p))), some (.p k.p), none, none, none] s by simp [nk2], then_nx', ss_cons]
  rw [show ex F W (.asg (.name 2) (.fz (.comp (.name 4) (.val (.var 0)) (.some (.and (.cons (.cmp .Eq (.idx (.var 4) (.con (.int (1)))) (.idx (.var 1) (.con (.int (1))))) (.cons (.cmp .NotEq (.var 4) (.var 1)) .nil)))) (.var 4) [4]))) [some (.p (.lst (L.map FK.p))), some (.p k.p), none, none, none] s = .nx [some (.p (.lst (L.map FK.p))), some (.p k.p), some (.p (.lst ((othr L k).map FK.p))), none, none] s by
    simp [wipe, -List.map_map]
    rw [lc_filter (p := fun a => match a with
      | .tup [x, .str w, y] => (w == k.w) && !((P.tup [x, .str w, y]).eqv k.p)
      | _ => false) (f := id) fun a ha => by
      obtain ⟨o, ho, rfl⟩ := List.mem_map.mp ha
      have e1 : ∀ s : Sto, cmpD .Eq (.p (.str o.w)) (.p (.str k.w)) s = .ok (.p (.bl (o.w == k.w))) s := fun s => eq_pp _ _ rfl
      have e2 : ∀ s : Sto, cmpD .NotEq (.p o.p) (.p k.p) s = .ok (.p (.bl (!o.p.eqv k.p))) s := fun s => ne_pp _ _ (by rw [l20, Bool.or_true])
      simp [fk1, e1, e2]
      have : ∀ b : Bool, (match o.p with
        | .tup [x, .str w, y] => (w == k.w) && !((P.tup [x, .str w, y]).eqv k.p)
        | _ => b) = ((o.w == k.w) && !(o.p.eqv k.p)) := fun b => rfl
      rw [this false]
      by_cases ho1 : o.w = k.w
      · cases ho2 : o.p.eqv k.p <;> simp [ho1]
      · simp [ho1]]
    simp [othr, List.filter_map]
    rfl, then_nx', ss_cons]
  obtain ⟨o, e⟩ := for_hit (body := exs F W l_shortest_1) (σ := [some (.p (.lst (L.map FK.p))), some (.p k.p), some (.p (.lst ((othr L k).map FK.p))), none, none]) (s := s) (s0 := s) (i := 3) (n := k.fs.length) (C := shC (othr L k) k) 1 (fun j => .p (.int (1 + (j : Int)))) (fun j hj => by
    have ct : ∀ gs : List P, cut gs none (some (1 + (j : Int))) = gs.take (j + 1) := fun gs => by rw [show 1 + (j : Int) = ((j + 1 : Nat) : Int) by omega]; exact cutTk _ _
    simp [l_shortest_1, wipe, -List.map_map]
    rw [lc_map (f := fun a => match a with
      | .tup [_, _, .tup gs] => .bl (P.eqvs (gs.take (j + 1)) (k.fs.take (j + 1)))
      | a => a) fun a ha => by
      obtain ⟨o, ho, rfl⟩ := List.mem_map.mp ha
      have ho := h o (List.mem_filter.mp ho).1
      simp [fk2, ct, cmpTk (j + 1) o.fs k.fs ho.ok.2.2.2]
      rfl, List.map_map]
    rw [show ((fun a => match a with
      | .tup [_, _, .tup gs] => .bl (P.eqvs (gs.take (j + 1)) (k.fs.take (j + 1)))
      | a => a) ∘ FK.p) = fun o : FK => P.bl (P.eqvs (o.fs.take (j + 1)) (k.fs.take (j + 1))) from rfl]
    have sc : shC (othr L k) k j = !((othr L k).any fun o => P.eqvs (o.fs.take (j + 1)) (k.fs.take (j + 1))) := rfl
    rw [sc]
    simp only [bind_ok', any_map]
    generalize ((othr L k).any fun o => P.eqvs (o.fs.take (j + 1)) (k.fs.take (j + 1))) = b
    cases b <;> simp)
  rw [s_loop, i_rng2n (F := F) (a := .con (.int (1))) k.fs.length (by omega) (by simp) (by simp [fk2]), st_ok', e]
  unfold shP
  cases (List.range k.fs.length).find? (shC (othr L k) k) with
  | some j => simp [Int.add_comm]
  | none => simp
end
end Rw

namespace Rw
open PySem G7
/-! whole numbers -/
def isWhole (a : P) (lo hi : Int) : Bool := match a with
  | .int i => decide (lo ≤ i) && decide (i ≤ hi)
  | _ => false
section
variable {W : Wh} {s : Sto}
theorem ati3 {α : Type} (a b c d : α) (xs : List α) : L2.atI (a :: b :: c :: d :: xs) 3 = some d := atI_nat (k := 3) rfl
theorem ati4 {α : Type} (a b c d e : α) (xs : List α) : L2.atI (a :: b :: c :: d :: e :: xs) 4 = some e := atI_nat (k := 4) rfl
theorem ati5 {α : Type} (a b c d e f : α) (xs : List α) : L2.atI (a :: b :: c :: d :: e :: f :: xs) 5 = some f := atI_nat (k := 5) rfl
theorem ati6 {α : Type} (a b c d e f g : α) (xs : List α) : L2.atI (a :: b :: c :: d :: e :: f :: g :: xs) 6 = some g := atI_nat (k := 6) rfl
theorem ix_t3 (a b c d : P) (xs : List P) : idxD (.p (.tup (a :: b :: c :: d :: xs))) (.p (.int 3)) s = .ok (.p d) s := idx_tup _ _ (ati3 a b c d xs)
theorem ix_t4 (a b c d e : P) (xs : List P) : idxD (.p (.tup (a :: b :: c :: d :: e :: xs))) (.p (.int 4)) s = .ok (.p e) s := idx_tup _ _ (ati4 a b c d e xs)
theorem ix_t5 (a b c d e f : P) (xs : List P) : idxD (.p (.tup (a :: b :: c :: d :: e :: f :: xs))) (.p (.int 5)) s = .ok (.p f) s := idx_tup _ _ (ati5 a b c d e f xs)
theorem ix_t6 (a b c d e f g : P) (xs : List P) : idxD (.p (.tup (a :: b :: c :: d :: e :: f :: g :: xs))) (.p (.int 6)) s = .ok (.p g) s := idx_tup _ _ (ati6 a b c d e f g xs)
theorem q_is_whole (n : Nat) (a : P) (lo hi : Int) : G7.run tab W (n + 1) i_is_whole [.p a, .p (.int lo), .p (.int hi)] s = .ok (.p (.bl (isWhole a lo hi))) s := by
  rw [r_is_whole]
  cases a with
  | int i =>
    simp [b_is_whole, isWhole]
    by_cases h : lo ≤ i <;> simp [h]
  | _ => simp [b_is_whole, isWhole]
end
end Rw

namespace Rw
open PySem G7 PyProof.Rows
/-! the order of keys -/
section
variable {a b c : P} {A B : List P}
theorem le_lx (ha : isKey a = true) (hb : isKey b = true) : (P.le a b = true) ↔ (listOrd itemOrd).kle (tk a) (tk b) := by
  unfold P.le KeyOrd.kle
  have := lt_lx (key_cok hb ha)
  show (!(b.lt a)) = true ↔ lx (tk b) (tk a) = false
  rw [this]
  cases b.lt a <;> simp
theorem tk_inj (ha : isKey a = true) (hb : isKey b = true) (h : tk a = tk b) : a = b := by
  rw [← key_eqv ha hb]
  cases e : a.eqv b with
  | true => rfl
  | false =>
    have k := (tk_lt a b (key_cok ha hb)).2 e
    have k1 := k [.inl 0] [.inl 1]
    have k2 := k [.inl 1] [.inl 0]
    rw [h] at k1 k2
    have t1 : ∀ l : List (Int ⊕ List Nat), lx (l ++ [.inl 0]) (l ++ [.inl 1]) = true := by
      intro l
      induction l with
      | nil => decide
      | cons x l ih =>
        rw [List.cons_append, List.cons_append]
        show (itemOrd.blt x x || (!(itemOrd.blt x x) && lexLt itemOrd (l ++ [.inl 0]) (l ++ [.inl 1]))) = true
        rw [itemOrd.irrefl]
        simpa using ih
    have t2 : lx (tk b ++ [.inl 1]) (tk b ++ [.inl 0]) = false := by
      cases z : lx (tk b ++ [.inl 1]) (tk b ++ [.inl 0]) with
      | false => rfl
      | true =>
        have := lex_trans (O := itemOrd) _ _ _ (t1 (tk b)) z
        rw [lex_irrefl (O := itemOrd)] at this
        cases this
    rw [t1] at k1
    rw [t2] at k2
    rw [← k1] at k2
    cases k2
theorem le_trans' (ha : isKey a = true) (hb : isKey b = true) (hc : isKey c = true) (h1 : P.le a b = true) (h2 : P.le b c = true) : P.le a c = true :=
  (le_lx ha hc).mpr (KeyOrd.kle_trans ((le_lx ha hb).mp h1) ((le_lx hb hc).mp h2))
theorem le_anti' (ha : isKey a = true) (hb : isKey b = true) (h1 : P.le a b = true) (h2 : P.le b a = true) : a = b :=
  tk_inj ha hb (KeyOrd.kle_antisymm ((le_lx ha hb).mp h1) ((le_lx hb ha).mp h2))
theorem le_total' (ha : isKey a = true) (hb : isKey b = true) : P.le a b = true ∨ P.le b a = true := by
  rw [le_lx ha hb, le_lx hb ha]
  by_cases h : (listOrd itemOrd).klt (tk a) (tk b)
  · exact .inl (KeyOrd.kle_of_klt h)
  · exact .inr (KeyOrd.kle_of_not_klt h)
theorem key_trans (ha : isKey a = true) (hb : isKey b = true) (hc : isKey c = true) (h1 : P.le a b = true) (h2 : P.le b c = true) : P.le a c = true := le_trans' ha hb hc h1 h2
/-! sorted lists of keys -/
def Srd (l : List P) : Prop := l.Pairwise fun a b => P.le a b = true
/-- a sort that is good on some data is good -/
theorem srtK_srd (h : ∀ x ∈ A, isKey x = true) : Srd (srtK A) := by
  have key : ∀ l : List {x : P // isKey x = true}, (l.mergeSort fun a b => P.le a.1 b.1).Pairwise fun a b => P.le a.1 b.1 = true := fun l =>
    List.pairwise_mergeSort (α := {x : P // isKey x = true}) (le := fun a b => P.le a.1 b.1) (fun a b c h1 h2 => le_trans' a.2 b.2 c.2 h1 h2) (fun a b => by
      rcases le_total' a.2 b.2 with h | h
      · simp [h]
      · simp [h]) l
  obtain ⟨l, rfl⟩ : ∃ l : List {x : P // isKey x = true}, A = l.map (·.1) := ⟨A.attach.map fun x => ⟨x.1, h x.1 x.2⟩, by simp⟩
  unfold Srd srtK
  rw [← List.map_mergeSort (r := fun a b : {x : P // isKey x = true} => P.le a.1 b.1) (s := P.le) (f := fun x => x.1) fun a _ b _ => rfl, List.pairwise_map]
  exact key l
theorem srd_one {A B : List P} (hA : ∀ x ∈ A, isKey x = true) (sA : Srd A) (sB : Srd B) (p : A.Perm B) : A = B :=
  List.Perm.eq_of_pairwise (le := fun a b => P.le a b = true) (fun a b ha hb h1 h2 => le_anti' (hA a ha) (hA b (p.mem_iff.mpr hb)) h1 h2) sA sB p
/-- a sorted list of the same is the sort -/
theorem srtK_is (hA : ∀ x ∈ A, isKey x = true) (sB : Srd B) (p : A.Perm B) : srtK A = B :=
  srd_one (fun x hx => hA x (srtK_mem.mp hx)) (srtK_srd hA) sB ((srtK_perm A).trans p)
theorem srtK_self (hA : ∀ x ∈ A, isKey x = true) (sA : Srd A) : srtK A = A := srtK_is hA sA (.refl _)
theorem srtK_congr (hA : ∀ x ∈ A, isKey x = true) (p : A.Perm B) : srtK A = srtK B :=
  srtK_is hA (srtK_srd fun x hx => hA x (p.mem_iff.mpr hx)) (p.trans (srtK_perm B).symm)
/-- of the same members, none twice -/
theorem srtK_ext (hA : ∀ x ∈ A, isKey x = true) (nA : A.Nodup) (nB : B.Nodup) (sB : Srd B) (h : ∀ x, x ∈ A ↔ x ∈ B) : srtK A = B :=
  srtK_is hA sB ((List.perm_ext_iff_of_nodup nA nB).mpr h)
end
end Rw

namespace Rw
open PySem G7
/-! keys in lots -/
theorem putTwo {α : Type} (k : P) (v w : α) : ∀ L : List (P × α), putK k w (putK k v L) = putK k w L
  | [] => by simp [putK, eqv_refl]
  | (j, u) :: L => by
    by_cases h : j.eqv k = true
    · simp [putK, h]
    · simp [putK, h, putTwo k v w L]
theorem putFind {α : Type} (k : P) (v : α) : ∀ L : List (P × α), findK k (putK k v L) = some v
  | [] => by simp [putK, findK, eqv_refl]
  | (j, w) :: L => by
    by_cases h : j.eqv k = true
    · simp [putK, findK, h]
    · simp [putK, findK, h, putFind k v L]
def gkM (many : Nat) (k : FK) : P := bgK k.w (k.fs.take many)
def lotAt (many : Nat) (l : List FK) (y : P) : List P := (l.filter fun k => (gkM many k).eqv y).map FK.p
def lI (many : Nat) (l : List FK) : List (P × IV) := (nubS (l.map (gkM many))).map fun y => (y, IV.l (lotAt many l y))
def lotsV (many : Nat) (l : List FK) : List P := (nubS (l.map (gkM many))).map fun y => P.lst (lotAt many l y)
theorem gkM_key {many : Nat} {k : FK} (h : FKo k) : (gkM many k).key = true := bg_key (frames_take h.ok.2.2.2 _)
theorem gkMs_key {many : Nat} {l : List FK} (h : ∀ k ∈ l, FKo k) : ∀ x ∈ l.map (gkM many), x.key = true := fun x hx => by
  obtain ⟨k, hk, rfl⟩ := List.mem_map.mp hx
  exact gkM_key (h k hk)
theorem lI_len (many : Nat) (l : List FK) : (lI many l).length ≤ l.length := by
  unfold lI
  rw [List.length_map]
  have : (nubS (l.map (gkM many))).length ≤ (l.map (gkM many)).length := by
    refine snoc_ind (Q := fun l => (nubS l).length ≤ l.length) (Nat.le_refl _) (fun l x ih => ?_) _
    rw [nubS_snoc]
    split <;> simp <;> omega
  simpa using this
theorem lI_snoc {many : Nat} {l : List FK} {k : FK} (hl : ∀ k ∈ l, FKo k) (hk : FKo k) : putK (gkM many k) (.l (lotAt many l (gkM many k) ++ [k.p])) (lI many l) = lI many (l ++ [k]) := by
  unfold lI
  rw [nub_put (c := fun y => IV.l (lotAt many l y)) (gkMs_key hl) (gkM_key hk), List.map_append]
  refine List.map_congr_left fun y hy => ?_
  have hy2 : y.key = true := by
    refine (nubS_ok _ ?_).1.k y hy
    intro z hz
    rcases List.mem_append.mp hz with h | h
    · exact gkMs_key hl z h
    · rw [List.mem_singleton.mp h]; exact gkM_key hk
  unfold lotAt
  rw [List.filter_append, List.map_append]
  by_cases e : y.eqv (gkM many k) = true
  · have := (key_eq hy2 (gkM_key hk)).mp e
    subst this
    simp [eqv_refl]
  · have e2 : ¬ (gkM many k).eqv y = true := by rw [eqv_comm]; exact e
    simp [e, e2]
theorem lI_none {many : Nat} {l : List FK} {k : FK} (hl : ∀ k ∈ l, FKo k) (hk : FKo k) (h : ¬ ((nubS (l.map (gkM many))).any fun y => y.eqv (gkM many k)) = true) : lotAt many l (gkM many k) = [] := by
  rw [any_mem (nubS_ok _ (gkMs_key hl)).1.k (gkM_key hk), (nubS_ok _ (gkMs_key hl)).2] at h
  unfold lotAt
  rw [List.map_eq_nil_iff, List.filter_eq_nil_iff]
  intro x hx e
  exact h (List.mem_map.mpr ⟨x, hx, (key_eq (gkM_key (hl x hx)) (gkM_key hk)).mp e⟩)
theorem lI_find {many : Nat} {l : List FK} {y : P} (hl : ∀ k ∈ l, FKo k) (hy : y.key = true) : findK y (lI many l) = if ((nubS (l.map (gkM many))).any fun z => z.eqv y) = true then some (.l (lotAt many l y)) else none :=
  find_fun (c := fun y => IV.l (lotAt many l y)) hy (nubS_ok _ (gkMs_key hl)).1.k
theorem lotAt_len (many : Nat) (l : List FK) (y : P) : (lotAt many l y).length ≤ l.length := by
  unfold lotAt
  rw [List.length_map]
  exact List.length_filter_le _ _
section
variable {W : Wh} {t m : List O}
theorem lot_turn {many : Nat} {l : List FK} {k : FK} (hl : ∀ k ∈ l, FKo k) (hk : FKo k) (hn : l.length ≤ 1000) :
    ∃ s1, sdefD (.l []) (.tmp t.length) (.p (gkM many k)) ⟨t ++ [.dg (lI many l)], m⟩ = .ok (.p .non) ⟨s1, m⟩ ∧ sappD (.tmp t.length) (.p (gkM many k)) (.p k.p) ⟨s1, m⟩ = .ok (.p .non) ⟨t ++ [.dg (lI many (l ++ [k]))], m⟩ := by
  have hb := big
  have hlen := lI_len many l
  have hlot := lotAt_len many l (gkM many k)
  have f := lI_find (many := many) hl (gkM_key (many := many) hk)
  by_cases h : ((nubS (l.map (gkM many))).any fun y => y.eqv (gkM many k)) = true
  · rw [if_pos h] at f
    refine ⟨t ++ [.dg (lI many l)], ?_, ?_⟩
    · simp only [sdefD, dgT, gkM_key hk, show (lI many l).length < sizeLine by omega, and_self, if_true, f]
    · simp only [sappD, dgT, f, if_pos (show (lotAt many l (gkM many k)).length < sizeLine by omega), setTT, lI_snoc hl hk]
  · rw [if_neg h] at f
    have e0 := lI_none hl hk h
    refine ⟨t ++ [.dg (putK (gkM many k) (.l []) (lI many l))], ?_, ?_⟩
    · simp only [sdefD, dgT, gkM_key hk, show (lI many l).length < sizeLine by omega, and_self, if_true, f, setTT]
    · have := lI_snoc (many := many) hl hk
      rw [e0] at this
      simp only [sappD, dgT, putFind, List.length_nil, if_pos (show 0 < sizeLine by omega), setTT, putTwo, this]
theorem coksK : ∀ {a b : List P}, (∀ k ∈ a, isKey k = true) → (∀ k ∈ b, isKey k = true) → P.coks a b = true
  | [], b, _, _ => by cases b <;> rfl
  | x :: a, [], _, _ => rfl
  | x :: a, y :: b, ha, hb => by
    have := coksK (a := a) (b := b) (fun k h => ha k (List.mem_cons_of_mem _ h)) (fun k h => hb k (List.mem_cons_of_mem _ h))
    simp only [P.coks, this, key_cok (ha x List.mem_cons_self) (hb y List.mem_cons_self), ite_self]
theorem lists_srt {E : List P} (h : ∀ a ∈ E, ∃ ks : List P, a = .lst ks ∧ ∀ k ∈ ks, isKey k = true) {s : Sto} : srtD (.p (.lst E)) s = .ok (srtP E) s := by
  cases hE : E with
  | nil => simp [srtD, intsP, srtP]
  | cons x r =>
    rw [← hE]
    have e1 : intsP E = none := by
      rw [hE]
      obtain ⟨ks, rfl, _⟩ := h x (by rw [hE]; exact List.mem_cons_self)
      rfl
    have e2 : srtOk E = true := by
      unfold srtOk
      rw [List.all_eq_true]
      intro a ha
      obtain ⟨ks, rfl, hf⟩ := h a ha
      have l20 : (P.lst ks).lim 20 = true := keys_lims 9 hf
      rw [l20, Bool.true_and, Bool.and_eq_true]
      refine ⟨rfl, List.all_eq_true.mpr fun b hb => ?_⟩
      obtain ⟨gs, rfl, hg⟩ := h b hb
      have : (P.lst ks).cok (.lst gs) = true := coksK hf hg
      rw [this]; rfl
    simp only [srtD, get_p, e1, e2, if_true]
theorem lotsV_is {many : Nat} {l : List FK} (h : ∀ k ∈ l, FKo k) : ∀ a ∈ lotsV many l, ∃ ks : List P, a = .lst ks ∧ ∀ k ∈ ks, isKey k = true := fun a ha => by
  obtain ⟨y, _, rfl⟩ := List.mem_map.mp ha
  refine ⟨_, rfl, fun k hk => ?_⟩
  obtain ⟨o, ho, rfl⟩ := List.mem_map.mp hk
  exact (h o (List.mem_filter.mp ho).1).key
theorem q_need_count (n : Nat) (a : P) (s : Sto) : G7.run tab W (n + 2) i_need_count [.p a] s = if isWhole a 1 12 = true then .ok (.p .non) s else .exc x_NoCount s := by
  rw [r_need_count]
  simp [b_need_count, q_is_whole]
  cases isWhole a 1 12 <;> simp
/-- the keys, each once, in order -/
theorem fk_list : ∀ {l : List P}, (∀ a ∈ l, ∃ k : FK, a = k.p ∧ FKo k) → ∃ L : List FK, l = L.map FK.p ∧ ∀ k ∈ L, FKo k
  | [], _ => ⟨[], rfl, fun _ h => (by cases h)⟩
  | a :: l, h => by
    obtain ⟨L, rfl, hL⟩ := fk_list (l := l) fun b hb => h b (List.mem_cons_of_mem _ hb)
    obtain ⟨k, rfl, hk⟩ := h a List.mem_cons_self
    exact ⟨k :: L, rfl, fun o ho => by
      rcases List.mem_cons.mp ho with rfl | ho
      · exact hk
      · exact hL o ho⟩
theorem uniq_fk {L : List FK} (h : ∀ k ∈ L, FKo k) : ∃ U : List FK, srtK (nubP (L.map FK.p)) = U.map FK.p ∧ ∀ k ∈ U, FKo k := fk_list fun a ha => by
  obtain ⟨k, hk, rfl⟩ := List.mem_map.mp (nubP_sub _ _ (srtK_mem.mp ha))
  exact ⟨k, rfl, h k hk⟩
theorem nubP_len : ∀ l : List P, (nubP l).length ≤ l.length
  | [] => Nat.le_refl _
  | x :: l => by
    have := nubP_len l
    have h2 := List.length_filter_le (fun y => !(x.eqv y)) (nubP l)
    simp only [nubP, List.length_cons]
    omega
theorem sset_fk {L : List FK} (h : ∀ k ∈ L, FKo k) (hl : L.length < 64) (s : Sto) : ssetD (.p (.lst (L.map FK.p))) s = .ok (srtK (nubP (L.map FK.p))) s := by
  have hk : ∀ a ∈ L.map FK.p, isKey a = true := fun a ha => by
    obtain ⟨k, hk, rfl⟩ := List.mem_map.mp ha
    exact (h k hk).key
  cases hn : L.map FK.p with
  | nil => simp [ssetD, intsP, nubI, nubP, srtK]
  | cons x r =>
    rw [← hn]
    have e := keys_ints hk (by rw [hn]; simp)
    have e2 : srtOk (nubP (L.map FK.p)) = true := keys_srt fun a ha => hk a (nubP_sub _ a ha)
    have e3 : setOk (L.map FK.p) = true := by
      simp only [setOk, List.length_map, hl, decide_true, Bool.true_and, Bool.or_eq_true]
      exact .inr (List.all_eq_true.mpr fun k hk' => (isKey_key (hk k hk')).1)
    simp only [ssetD, get_p, e, e3, e2, and_self, if_true]; rfl
def lotsP (U : List FK) (many : Nat) : P := .lst (srtP (lotsV many U))
theorem lots_loop (F : Fns) (kd : D) (many : Nat) (U : List FK) (h : ∀ k ∈ U, FKo k) (hl : U.length ≤ 1000) : ∃ o3, forLoop (.fix ((U.map FK.p).map D.p)) (.name 3) (exs F W l_lots_1) ((Src.fix ((U.map FK.p).map D.p)).len (⟨t ++ [.dg []], m⟩ : Sto) + 1) 0 [some kd, some (.p (.int many)), some (.tmp t.length), none] ⟨t ++ [.dg []], m⟩
    = .nx [some kd, some (.p (.int many)), some (.tmp t.length), o3] ⟨t ++ [.dg (lI many U)], m⟩ := by
  obtain ⟨σ', s', e, ⟨o3, rfl⟩, rfl⟩ := for_fix0 (xs := (U.map FK.p).map D.p) (tg := .name 3) (body := exs F W l_lots_1) (s0 := ⟨t ++ [.dg []], m⟩) (σ := [some kd, some (.p (.int many)), some (.tmp t.length), none]) (s := ⟨t ++ [.dg []], m⟩)
    (fun j σ s => (∃ o3, σ = [some kd, some (.p (.int many)), some (.tmp t.length), o3]) ∧ s = ⟨t ++ [.dg (lI many (U.take j))], m⟩) (fun j d σ s hd ⟨⟨o3, h1⟩, h2⟩ => by
      subst h1 h2
      rw [List.getElem?_map, List.getElem?_map] at hd
      cases hk : U[j]? with
      | none => rw [hk] at hd; cases hd
      | some k =>
        rw [hk] at hd
        cases hd
        have ko := h k (List.mem_of_getElem? hk)
        have hT : ∀ k ∈ U.take j, FKo k := fun k hk => h k (List.mem_of_mem_take hk)
        have hlt : (U.take j).length ≤ 1000 := by rw [List.length_take]; omega
        obtain ⟨s1, a1, a2⟩ := lot_turn (t := t) (m := m) (many := many) hT ko hlt
        have et : U.take (j + 1) = U.take j ++ [k] := by rw [List.take_add_one, hk]; rfl
        refine ⟨_, [some kd, some (.p (.int many)), some (.tmp t.length), some (.p k.p)], ⟨t ++ [.dg (lI many (U.take j ++ [k]))], m⟩, rfl, ?_, ⟨_, rfl⟩, by rw [et]⟩
        have a1 : sdefD (.l []) (.tmp t.length) (.p (.tup [.str k.w, .tup (k.fs.take many)])) ⟨t ++ [.dg (lI many (U.take j))], m⟩ = .ok (.p .non) ⟨s1, m⟩ := a1
        have a2 : sappD (.tmp t.length) (.p (.tup [.str k.w, .tup (k.fs.take many)])) (.p k.p) ⟨s1, m⟩ = _ := a2
        simp [l_lots_1, isDctT, fk1, fk2, cutTk, a1, a2]) ⟨⟨none, rfl⟩, rfl⟩
  have hlen : ((U.map FK.p).map D.p).length = U.length := by simp
  rw [hlen, List.take_length] at e
  exact ⟨o3, e⟩
theorem q_lots (n : Nat) (L U : List FK) (many : Nat) (h : ∀ k ∈ L, FKo k) (hl : L.length < 64) (hU : srtK (nubP (L.map FK.p)) = U.map FK.p) (hUo : ∀ k ∈ U, FKo k) (hm : 1 ≤ many ∧ many ≤ 12) : G7.run tab W (n + 5) i_lots [.p (.lst (L.map FK.p)), .p (.int many)] ⟨t, m⟩ = .ok (.p (lotsP U many)) ⟨t, m⟩ := by
  have nk := fun s => q_need_keys_ok (W := W) (s := s) n L h
  have nc := fun s => q_need_count (W := W) (n + 2) (.int many) s
  have hw : isWhole (.int (many : Int)) 1 12 = true := by simp [isWhole]; omega
  simp only [hw, if_true] at nc
  have ss := fun s => sset_fk h hl s
  rw [hU] at ss
  have hUl : U.length ≤ 1000 := by
    have e : (U.map FK.p).length = (nubP (L.map FK.p)).length := by rw [← hU]; exact (srtK_perm _).length_eq
    have := nubP_len (L.map FK.p)
    simp only [List.length_map] at e this
    omega
  rw [r_lots]
  generalize G7.run tab W (n + 4) = F at nk nc ⊢
  have p0 : (⟨t, m⟩ : Sto).pushT (.dg []) = ⟨t ++ [.dg []], m⟩ := rfl
  obtain ⟨o3, e⟩ := lots_loop (W := W) (t := t) (m := m) F (.p (.lst (L.map FK.p))) many U hUo hUl
  unfold b_lots
  rw [ss_cons, show ex F W (.exp (.call i_need_keys (.cons (.var 0) .nil))) [some (.p (.lst (L.map FK.p))), some (.p (.int many)), none, none] ⟨t, m⟩ = .nx [some (.p (.lst (L.map FK.p))), some (.p (.int many)), none, none] ⟨t, m⟩ by simp [nk], then_nx', ss_cons]
  rw [show ex F W (.exp (.call i_need_count (.cons (.var 1) .nil))) [some (.p (.lst (L.map FK.p))), some (.p (.int many)), none, none] ⟨t, m⟩ = .nx [some (.p (.lst (L.map FK.p))), some (.p (.int many)), none, none] ⟨t, m⟩ by simp [nc], then_nx', ss_cons]
  rw [show ex F W (.asg (.name 2) .gnew) [some (.p (.lst (L.map FK.p))), some (.p (.int many)), none, none] ⟨t, m⟩ = .nx [some (.p (.lst (L.map FK.p))), some (.p (.int many)), some (.tmp t.length), none] ⟨t ++ [.dg []], m⟩ by simp [p0], then_nx', ss_cons]
  rw [show ex F W (.loop (.name 3) (.val (.fz (.sset (.var 0)))) l_lots_1) [some (.p (.lst (L.map FK.p))), some (.p (.int many)), some (.tmp t.length), none] ⟨t ++ [.dg []], m⟩ = .nx [some (.p (.lst (L.map FK.p))), some (.p (.int many)), some (.tmp t.length), o3] ⟨t ++ [.dg (lI many U)], m⟩ by
    simp [ss, -List.map_map]
    exact e, then_nx', ss_cons]
  have al : (lI many U).all (fun kv => noD kv.2) = true := by simp [lI, noD]
  have fz : frzSl 2 [some (.p (.lst (L.map FK.p))), some (.p (.int many)), some (.tmp t.length), o3] ⟨t ++ [.dg (lI many U)], m⟩ = some ([some (.p (.lst (L.map FK.p))), some (.p (.int many)), some (.dct (nubS (U.map (gkM many))) ((lotsV many U).map D.p)), o3], ⟨t ++ [.gone], m⟩) := by
    simp only [frzSl, List.getElem?_cons_succ, List.getElem?_cons_zero, List.getElem?_concat_length, al, if_true, setTT]
    simp [lI, lotsV, ivF, Function.comp_def]
  have lv := lotsV_is (many := many) hUo
  simp [fz, gfzS, dvlD, allP_p _ _ rfl, lists_srt lv, fin, Sto.back, lotsP]
end
end Rw

namespace Rw
open PySem G7
section
variable {W : Wh} {s : Sto} {xs : List Int} {ts m : List O}
theorem k_pick (n c : Nat) (ys : List P) (hy : ys ≠ []) (hc : c < sizeLine) : ∃ a ∈ ys, G7.run tab W (n + 4) i__law_pick [.scr xs, .tmp 0, .p (.lst ys)] (tw c ts m) = .ok (.p a) (tw (c + 1) ts m) := by
  have hl : 0 < ys.length := List.length_pos_iff.mpr hy
  obtain ⟨d, hd, e⟩ := k_draw (W := W) (xs := xs) (ts := ts) (m := m) n c ys.length (by omega) hc
  have hd' : d < ys.length := by omega
  refine ⟨ys[d], List.getElem_mem hd', ?_⟩
  rw [r__law_pick]
  simp [b__law_pick, e, idx_lst _ _ (atI_nat (List.getElem?_eq_getElem hd')), tw_back]
end
end Rw

namespace Rw
open PySem G7
section
variable {W : Wh} {s : Sto} {xs : List Int} {ts m : List O}
theorem tw_push (c : Nat) (ts m : List O) (o : O) : (tw c ts m).pushT o = tw c (ts ++ [o]) m := rfl
theorem tw_tlen (c : Nat) (ts m : List O) : (tw c ts m).t.length = ts.length + 1 := rfl
theorem get_top (c : Nat) (ts m : List O) (o : O) : (tw c (ts ++ [o]) m).t[ts.length + 1]? = some o := by simp [tw]
theorem src_top (c : Nat) (ts m : List O) (ps : List P) : R.of (srcOf (tw c (ts ++ [.lst ps]) m) (.tmp (ts.length + 1))) (tw c (ts ++ [.lst ps]) m) = .ok (.tm (ts.length + 1)) (tw c (ts ++ [.lst ps]) m) := by
  simp only [srcOf, get_top]; rfl
theorem lst_top (c : Nat) (ts m : List O) (ps : List P) : isLstD (.tmp (ts.length + 1)) (tw c (ts ++ [.lst ps]) m) = true := by
  simp only [isLstD, Sto.get, get_top]
theorem set_top (ts : List O) (o o' : O) : (ts ++ [o]).set ts.length o' = ts ++ [o'] := by simp
theorem app_top (c : Nat) (ts m : List O) (ps : List P) (a : P) (h : ps.length < sizeLine) : appD (.tmp (ts.length + 1)) (.p a) (tw c (ts ++ [.lst ps]) m) = .ok (.p .non) (tw c (ts ++ [.lst (ps ++ [a])]) m) := by
  simp only [appD, get_top, if_pos h]
  simp [tw, Sto.setT]
theorem frz_top (c : Nat) (ts m : List O) (ps : List P) : (tw c (ts ++ [.lst ps]) m).frz (ts.length + 1) (.tmp (ts.length + 1)) = some (.p (.lst ps)) := by
  rw [Sto.frz, if_neg (by omega), get_top]
theorem back_top (c : Nat) (ts m : List O) (o : O) : (tw c (ts ++ [o]) m).back (ts.length + 1) = tw c ts m := by
  simp [tw, Sto.back]
end
end Rw

namespace Rw
open PySem G7
/-! drawn keys of frames -/
def frD (f : P) : Prop := f ∈ [P.tup [.str (Str.ofString "a"), .str (Str.ofString "f")], .tup [.str (Str.ofString "a"), .str (Str.ofString "g")], .tup [.str (Str.ofString "a.b"), .str (Str.ofString "f")], .tup [.str (Str.ofString "a.b"), .str (Str.ofString "g")]]
theorem frD_ok {f : P} (h : frD f) : frameOk f = true ∧ sm f = true := by
  have a : ([P.tup [.str (Str.ofString "a"), .str (Str.ofString "f")], .tup [.str (Str.ofString "a"), .str (Str.ofString "g")], .tup [.str (Str.ofString "a.b"), .str (Str.ofString "f")], .tup [.str (Str.ofString "a.b"), .str (Str.ofString "g")]].all fun f => frameOk f && sm f) = true := by decide +kernel
  have := List.all_eq_true.mp a f h
  simpa using this
theorem fkD_ok {w : Str} {fs : List P} (hw : w = Str.ofString "err" ∨ w = Str.ofString "oops") (hf : ∀ f ∈ fs, frD f) (h1 : 1 ≤ fs.length) (h2 : fs.length ≤ 12) : FKo ⟨w, fs⟩ := by
  have a1 : fs.all frameOk = true := List.all_eq_true.mpr fun f h => (frD_ok (hf f h)).1
  have a2 : sms fs = true := by
    clear h1 h2 a1
    induction fs with
    | nil => rfl
    | cons f r ih => rw [sms, (frD_ok (hf f List.mem_cons_self)).2, ih fun f h => hf f (List.mem_cons_of_mem _ h)]; rfl
  have e : (Str.ofString "frames" == Str.ofString "text") = false := by decide +kernel
  have w1 : isWord (.str w) = true := by rcases hw with rfl | rfl <;> decide +kernel
  have w2 : sm (.str w) = true := by rcases hw with rfl | rfl <;> decide +kernel
  have f2 : sm (.str (Str.ofString "frames")) = true := by decide +kernel
  refine ⟨?_, ?_⟩
  · simp only [FK.p, isKey, e, w1, framesOk, a1, Bool.and_eq_true, decide_eq_true_eq]
    simp [h1, h2]
  · simp only [FK.p, sm, sms, Bool.and_eq_true]
    simp only [sm] at w2 f2
    exact ⟨f2, w2, a2, trivial⟩
section
variable {W : Wh} {xs : List Int} {ts m : List O}
theorem fk_turn (n c : Nat) (ps : List P) (hc : c + 10 < sizeLine) (hp : ps.length < 1000) (d : D) : ∃ f, frD f ∧ exs (G7.run tab W (n + 4)) W l__law_frame_key_1 [some (.scr xs), some (.tmp 0), some (.tmp (ts.length + 1)), some d] (tw c (ts ++ [.lst ps]) m) = .nx [some (.scr xs), some (.tmp 0), some (.tmp (ts.length + 1)), some d] (tw (c + 2) (ts ++ [.lst (ps ++ [f])]) m) := by
  have hb := big
  obtain ⟨x, hx, e1⟩ := k_pick (W := W) (xs := xs) (ts := ts ++ [.lst ps]) (m := m) n c [.str (Str.ofString "a"), .str (Str.ofString "a"), .str (Str.ofString "a.b")] (by simp) (by omega)
  obtain ⟨y, hy, e2⟩ := k_pick (W := W) (xs := xs) (ts := ts ++ [.lst ps]) (m := m) n (c + 1) [.str (Str.ofString "f"), .str (Str.ofString "f"), .str (Str.ofString "g")] (by simp) (by omega)
  refine ⟨.tup [x, y], ?_, ?_⟩
  · simp only [List.mem_cons, List.not_mem_nil, or_false] at hx hy
    rcases hx with rfl | rfl | rfl <;> rcases hy with rfl | rfl | rfl <;> simp [frD]
  · simp [l__law_frame_key_1, e1, e2, lst_top, app_top c, app_top (c + 2) ts m ps (.tup [x, y]) (by omega)]
theorem k_frame_key (n c : Nat) (hc : c + 100 < sizeLine) : ∃ (k : FK) (c' : Nat), FKo k ∧ k.fs.length ≤ 4 ∧ c ≤ c' ∧ c' ≤ c + 10 ∧ G7.run tab W (n + 5) i__law_frame_key [.scr xs, .tmp 0] (tw c ts m) = .ok (.p k.p) (tw c' ts m) := by
  have hb := big
  obtain ⟨d, hd, e1⟩ := k_draw (W := W) (xs := xs) (ts := ts ++ [.lst []]) (m := m) (n + 1) c 4 (by omega) (by omega)
  have hd : d < 4 := by omega
  have rn : ∀ s : Sto, rng1D (.p (.int (1 + (d : Int)))) s = .ok (.fix (rangeL 0 (d + 1))) s := fun s => by
    rw [show 1 + (d : Int) = ((d + 1 : Nat) : Int) by omega]
    exact rng1_ok (d + 1) (by omega) s
  obtain ⟨σ', s', e, ⟨o, ps, rfl, hl, hps, rfl⟩⟩ := for_fix0 (xs := rangeL 0 (d + 1)) (tg := .name 3) (body := exs (G7.run tab W (n + 4)) W l__law_frame_key_1) (s0 := tw (c + 1) (ts ++ [.lst []]) m) (σ := [some (.scr xs), some (.tmp 0), some (.tmp (ts.length + 1)), none]) (s := tw (c + 1) (ts ++ [.lst []]) m)
    (fun j σ s => ∃ o ps, σ = [some (.scr xs), some (.tmp 0), some (.tmp (ts.length + 1)), o] ∧ ps.length = j ∧ (∀ f ∈ ps, frD f) ∧ s = tw (c + 1 + 2 * j) (ts ++ [.lst ps]) m) (fun j dd σ s hdd ⟨o, ps, h1, h2, h3, h4⟩ => by
      subst h1 h4
      rw [rangeL_get] at hdd
      by_cases hj : j < d + 1
      · rw [if_pos hj] at hdd
        cases hdd
        obtain ⟨f, hf, e⟩ := fk_turn (W := W) (xs := xs) (ts := ts) (m := m) n (c + 1 + 2 * j) ps (by omega) (by omega) (.p (.int (0 + (j : Int))))
        refine ⟨_, _, _, rfl, e, _, ps ++ [f], rfl, by simp [h2], fun g hg => ?_, rfl⟩
        rcases List.mem_append.mp hg with hg | hg
        · exact h3 g hg
        · rw [List.mem_singleton.mp hg]; exact hf
      · rw [if_neg hj] at hdd; cases hdd) ⟨none, [], rfl, rfl, fun _ h => (by cases h), rfl⟩
  rw [rangeL_len] at hl e
  obtain ⟨w, hw, e2⟩ := k_pick (W := W) (xs := xs) (ts := ts ++ [.lst ps]) (m := m) n (c + 1 + 2 * (d + 1)) [.str (Str.ofString "err"), .str (Str.ofString "err"), .str (Str.ofString "oops")] (by simp) (by omega)
  obtain ⟨w, rfl, hw2⟩ : ∃ w', w = .str w' ∧ (w' = Str.ofString "err" ∨ w' = Str.ofString "oops") := by
    simp only [List.mem_cons, List.not_mem_nil, or_false] at hw
    rcases hw with rfl | rfl | rfl
    · exact ⟨_, rfl, .inl rfl⟩
    · exact ⟨_, rfl, .inl rfl⟩
    · exact ⟨_, rfl, .inr rfl⟩
  refine ⟨⟨w, ps⟩, c + 1 + 2 * (d + 1) + 1, fkD_ok hw2 hps (by omega) (by omega), by show ps.length ≤ 4; omega, by omega, by omega, ?_⟩
  rw [r__law_frame_key]
  have tt : ∀ c, b1D .tuple (.tmp (ts.length + 1)) (tw c (ts ++ [.lst ps]) m) = .ok (.p (.tup ps)) (tw c (ts ++ [.lst ps]) m) := fun c => by
    simp only [b1D, Sto.get, get_top, b1P]; rfl
  simp only [b__law_frame_key]
  rw [ss_cons, show ex (G7.run tab W (n + 4)) W (.asg (.name 2) (.own (.disp .nil))) [some (.scr xs), some (.tmp 0), none, none] (tw c ts m) = .nx [some (.scr xs), some (.tmp 0), some (.tmp (ts.length + 1)), none] (tw c (ts ++ [.lst []]) m) by simp [tw_push, tw_tlen], then_nx', ss_cons]
  rw [show ex (G7.run tab W (n + 4)) W (.loop (.name 3) (.rng1 (.bin .Add (.con (.int (1))) (.call i__law_draw (.cons (.var 0) (.cons (.var 1) (.cons (.con (.int (4))) .nil)))))) l__law_frame_key_1) [some (.scr xs), some (.tmp 0), some (.tmp (ts.length + 1)), none] (tw c (ts ++ [.lst []]) m) = .nx [some (.scr xs), some (.tmp 0), some (.tmp (ts.length + 1)), o] (tw (c + 1 + 2 * (d + 1)) (ts ++ [.lst ps]) m) by
    simp [e1, rn]
    exact e, then_nx', ss_cons]
  simp [e2, tt, tw_tlen, back_top]
  rfl
theorem k_keys (n c most : Nat) (hm : most ≤ 20) (hc : c + 1000 < sizeLine) : ∃ (L : List FK) (c' : Nat), (∀ k ∈ L, FKo k) ∧ L.length ≤ most ∧ c ≤ c' ∧ c' ≤ c + 300 ∧ G7.run tab W (n + 6) i__law_keys [.scr xs, .tmp 0, .p (.int most)] (tw c ts m) = .ok (.p (.lst (L.map FK.p))) (tw c' ts m) := by
  obtain ⟨d, hd, e1⟩ := k_draw (W := W) (xs := xs) (ts := ts) (m := m) (n + 2) c ((most : Int) + 1) (by omega) (by omega)
  have hd : d ≤ most := by omega
  have rn : ∀ s : Sto, rng1D (.p (.int (d : Int))) s = .ok (.fix (rangeL 0 d)) s := fun s => rng1_ok d (by omega) s
  obtain ⟨acc, s', e, L, rfl, hL, hl, c', h1, h2, rfl⟩ := lc_fix0 (xs := rangeL 0 d) (stp := fun d s => (G7.run tab W (n + 5) i__law_frame_key [.scr xs, .tmp 0] s).bind eltD) (s := tw (c + 1) ts m) (s0 := tw (c + 1) ts m)
    (fun j acc s => ∃ L : List FK, acc = L.map FK.p ∧ (∀ k ∈ L, FKo k) ∧ L.length = j ∧ ∃ c', c + 1 ≤ c' ∧ c' ≤ c + 1 + 10 * j ∧ s = tw c' ts m) (fun j dd acc s hdd ⟨L, h1, h2, h3, c', h4, h5, h6⟩ => by
      subst h1 h6
      have hj : j < d := by
        have := (List.getElem?_eq_some_iff.mp hdd).1
        rwa [rangeL_len] at this
      obtain ⟨k, c2, k1, _, k3, k4, e⟩ := k_frame_key (W := W) (xs := xs) (ts := ts) (m := m) n c' (by omega)
      refine ⟨some k.p, tw c2 ts m, by simp [e], L ++ [k], by simp, fun o ho => ?_, by simp [h3], c2, by omega, by omega, rfl⟩
      rcases List.mem_append.mp ho with ho | ho
      · exact h2 o ho
      · rw [List.mem_singleton.mp ho]; exact k1) ⟨[], rfl, fun _ h => (by cases h), rfl, c + 1, by omega, by omega, rfl⟩
  rw [rangeL_len] at hl h2
  refine ⟨L, c', hL, by omega, by omega, by omega, ?_⟩
  rw [r__law_keys]
  simp [b__law_keys, e1, rn, wipe, rangeL_len]
  rw [e]
  simp [tw_back]
end
end Rw

namespace Rw
open PySem G7
/-! a law's body, statement by statement -/
def Tru (r : RS) : Prop := ∃ s, r = .rt (.p (.bl true)) s
section
variable {F : Fns} {W : Wh} {st : S} {r b : Ss} {σ σ2 : Sl} {s s2 s0 : Sto}
theorem Tru.step (h : ex F W st σ s = .nx σ2 s2) (k : Tru (exs F W r σ2 s2)) : Tru (exs F W (.cons st r) σ s) := by
  rw [ss_cons, h]; exact k
theorem Tru.fin {n : Nat} (h : Tru (exs F W r σ s)) : ∃ s', G7.fin n (exs F W r σ s) = .ok (.p (.bl true)) s' := by
  obtain ⟨s', e⟩ := h
  rw [e]; exact ⟨_, rfl⟩
theorem Tru.ret {s' : Sto} (h : ex F W st σ s = .rt (.p (.bl true)) s') : Tru (exs F W (.cons st r) σ s) := by
  rw [ss_cons, h]; exact ⟨_, rfl⟩
theorem set_self (σ : Sl) (i : Nat) : σ.set i (σ[i]?.getD none) = σ := by
  apply List.ext_getElem?
  intro j
  rw [List.getElem?_set]
  by_cases h : i = j
  · subst h
    by_cases hl : i < σ.length
    · rw [if_pos rfl, if_pos hl, List.getElem?_eq_getElem hl]; rfl
    · rw [if_pos rfl, if_neg hl, List.getElem?_eq_none (by omega)]
  · rw [if_neg h]
/-- a for loop that changes no slot but its own -/
theorem loopI {xs : List P} {i : Nat} (I : Nat → Sto → Prop) (h0 : I 0 s) (h : ∀ j a s, xs[j]? = some a → I j s → ∃ s', exs F W b (σ.set i (some (.p a))) s = .nx (σ.set i (some (.p a))) s' ∧ I (j + 1) s') :
    ∃ o s', forLoop (.fix (xs.map .p)) (.name i) (exs F W b) ((Src.fix (xs.map .p)).len s0 + 1) 0 σ s = .nx (σ.set i o) s' ∧ I xs.length s' := by
  obtain ⟨σ', s', e, ⟨o, rfl⟩, h2⟩ := for_fix0 (xs := xs.map D.p) (tg := .name i) (body := exs F W b) (σ := σ) (s := s) (s0 := s0) (fun j σ' s => (∃ o, σ' = σ.set i o) ∧ I j s) (fun j d σ' s hd ⟨⟨o, h1⟩, h2⟩ => by
    subst h1
    rw [List.getElem?_map] at hd
    cases hf : xs[j]? with
    | none => rw [hf] at hd; cases hd
    | some a =>
      rw [hf] at hd
      cases hd
      obtain ⟨s', e, h3⟩ := h j a s hf h2
      refine ⟨σ.set i (some (.p a)), _, s', by rw [put_name, List.set_set], e, ⟨_, rfl⟩, h3⟩) ⟨⟨σ[i]?.getD none, (set_self σ i).symm⟩, h0⟩
  exact ⟨o, s', e, by rwa [List.length_map] at h2⟩
theorem rangeL_eq (lo : Int) (n : Nat) : rangeL lo n = ((List.range n).map fun (k : Nat) => P.int (lo + k)).map .p := by
  unfold rangeL; rw [List.map_map]; rfl
/-- a comprehension with a state: elements in order -/
theorem lcI {xs : List P} {stp : D → Sto → R (Option P)} (I : Nat → List P → Sto → Prop) (h0 : I 0 [] s) (h : ∀ j a acc s, xs[j]? = some a → I j acc s → ∃ x s', stp (.p a) s = .ok (some x) s' ∧ I (j + 1) (acc ++ [x]) s') :
    ∃ acc s', lcLoop (.fix (xs.map .p)) stp ((Src.fix (xs.map .p)).len s0 + 1) 0 [] s = .ok acc s' ∧ I xs.length acc s' := by
  obtain ⟨acc, s', e, h2⟩ := lc_fix0 (xs := xs.map D.p) (stp := stp) (s := s) (s0 := s0) I (fun j d acc s hd hi => by
    rw [List.getElem?_map] at hd
    cases hf : xs[j]? with
    | none => rw [hf] at hd; cases hd
    | some a =>
      rw [hf] at hd
      cases hd
      obtain ⟨x, s2, e, h3⟩ := h j a acc s hf hi
      exact ⟨some x, s2, e, h3⟩) h0
  exact ⟨acc, s', e, by rwa [List.length_map] at h2⟩
theorem rng_get {n j : Nat} {a : P} (h : ((List.range n).map fun (k : Nat) => P.int (0 + (k : Int)))[j]? = some a) : j < n ∧ a = .int (j : Int) := by
  rw [List.getElem?_map] at h
  by_cases hj : j < n
  · rw [List.getElem?_range hj] at h
    refine ⟨hj, ?_⟩
    have := Option.some.inj h
    rw [← this]
    show P.int (0 + (j : Int)) = _
    rw [Int.zero_add]
  · rw [List.getElem?_eq_none (by simpa using hj)] at h; cases h
end
end Rw

namespace Rw
open PySem G7
def rfd (j : Int) : P := .tup [.str (Str.ofString "refused"), .int j]
section
variable {W : Wh} {s : Sto} {xs : List Int}
theorem bk_br (n : Nat) (a : P) (h : sm a = true) (hb : isFKs a = false) : G7.run tab W (n + 5) i_branches [.p a] s = .exc x_NoKey s := by
  have nk := fun s => q_need_keys (W := W) (s := s) n a h
  simp only [hb, Bool.false_eq_true, if_false] at nk
  rw [r_branches]
  simp [b_branches, nk]
theorem bk_tr (n : Nat) (a : P) (h : sm a = true) (hb : isFKs a = false) : G7.run tab W (n + 5) i_trunk [.p a] s = .exc x_NoKey s := by
  have nk := fun s => q_need_keys (W := W) (s := s) n a h
  simp only [hb, Bool.false_eq_true, if_false] at nk
  rw [r_trunk]
  simp [b_trunk, nk]
theorem bk_lo (n : Nat) (a b : P) (h : sm a = true) (hb : isFKs a = false) : G7.run tab W (n + 5) i_lots [.p a, .p b] s = .exc x_NoKey s := by
  have nk := fun s => q_need_keys (W := W) (s := s) n a h
  simp only [hb, Bool.false_eq_true, if_false] at nk
  rw [r_lots]
  simp [b_lots, nk]
theorem bk_sh (n : Nat) (a b : P) (h : sm a = true) (hb : isFKs a = false) : G7.run tab W (n + 5) i_shortest [.p a, .p b] s = .exc x_NoKey s := by
  have nk := fun s => q_need_keys (W := W) (s := s) n a h
  simp only [hb, Bool.false_eq_true, if_false] at nk
  rw [r_shortest]
  simp [b_shortest, nk]
theorem bk_sh2 (n : Nat) (L : List FK) (hL : ∀ k ∈ L, FKo k) (b : P) (h : sm b = true) (hb : isFK b = false) : G7.run tab W (n + 5) i_shortest [.p (.lst (L.map FK.p)), .p b] s = .exc x_NoKey s := by
  have nk := fun s => q_need_keys_ok (W := W) (s := s) n L hL
  have nk2 := fun s => q_need_keys (W := W) (s := s) n (.lst [b]) (by simp [sm, sms, h])
  have e : isFKs (.lst [b]) = false := by simp [isFKs, hb]
  simp only [e, Bool.false_eq_true, if_false] at nk2
  rw [r_shortest]
  simp [b_shortest, nk, nk2]
theorem bk_lo2 (n : Nat) (L : List FK) (hL : ∀ k ∈ L, FKo k) (b : P) (hb : isWhole b 1 12 = false) : G7.run tab W (n + 5) i_lots [.p (.lst (L.map FK.p)), .p b] s = .exc x_NoCount s := by
  have nk := fun s => q_need_keys_ok (W := W) (s := s) n L hL
  have nc := fun s => q_need_count (W := W) (n + 2) b s
  simp only [hb, Bool.false_eq_true, if_false] at nc
  rw [r_lots]
  simp [b_lots, nk, nc]
/-! what the law's own def tells -/
theorem told0_ex (n : Nat) (a th : P) {c : Nat} {k : Int} (h : G7.run tab W n i_branches [.p a] s = .exc c s) (hW : W c = some k) : G7.run tab W (n + 1) i__law_told [.p (.int 0), .p a, .p th] s = .ok (.p (rfd k)) s := by
  rw [r__law_told]
  simp [b__law_told, tabF, at0, h, tryW_ex _ _ _ _ _ _ hW]
  rfl
theorem told0_ok (n : Nat) (a th : P) {r : P} (h : G7.run tab W n i_branches [.p a] s = .ok (.p r) s) : G7.run tab W (n + 1) i__law_told [.p (.int 0), .p a, .p th] s = .ok (.p r) s := by
  rw [r__law_told]
  simp [b__law_told, tabF, at0, h]
theorem told1_ex (n : Nat) (a th : P) {c : Nat} {k : Int} (h : G7.run tab W n i_trunk [.p a] s = .exc c s) (hW : W c = some k) : G7.run tab W (n + 1) i__law_told [.p (.int 1), .p a, .p th] s = .ok (.p (rfd k)) s := by
  rw [r__law_told]
  simp [b__law_told, tabF, at1, h, tryW_ex _ _ _ _ _ _ hW]
  rfl
theorem told1_ok (n : Nat) (a th : P) {r : P} (h : G7.run tab W n i_trunk [.p a] s = .ok (.p r) s) : G7.run tab W (n + 1) i__law_told [.p (.int 1), .p a, .p th] s = .ok (.p r) s := by
  rw [r__law_told]
  simp [b__law_told, tabF, at1, h]
theorem told2_ex (n : Nat) (a th : P) {c : Nat} {k : Int} (h : G7.run tab W n i_lots [.p a, .p th] s = .exc c s) (hW : W c = some k) : G7.run tab W (n + 1) i__law_told [.p (.int 2), .p a, .p th] s = .ok (.p (rfd k)) s := by
  rw [r__law_told]
  simp [b__law_told, tabF, at0, h, tryW_ex _ _ _ _ _ _ hW]
  rfl
theorem told2_ok (n : Nat) (a th : P) {r : P} (h : G7.run tab W n i_lots [.p a, .p th] s = .ok (.p r) s) : G7.run tab W (n + 1) i__law_told [.p (.int 2), .p a, .p th] s = .ok (.p r) s := by
  rw [r__law_told]
  simp [b__law_told, tabF, at0, h]
theorem told3_ex (n : Nat) (a th : P) {c : Nat} {k : Int} (h : G7.run tab W n i_shortest [.p a, .p th] s = .exc c s) (hW : W c = some k) : G7.run tab W (n + 1) i__law_told [.p (.int 3), .p a, .p th] s = .ok (.p (rfd k)) s := by
  rw [r__law_told]
  simp [b__law_told, tabF, at1, h, tryW_ex _ _ _ _ _ _ hW]
  rfl
theorem told3_ok (n : Nat) (a th : P) {r : P} (h : G7.run tab W n i_shortest [.p a, .p th] s = .ok (.p r) s) : G7.run tab W (n + 1) i__law_told [.p (.int 3), .p a, .p th] s = .ok (.p r) s := by
  rw [r__law_told]
  simp [b__law_told, tabF, at1, h]
theorem bad4 (n : Nat) (a : P) (h : sm a = true) (hb : isFKs a = false) (h3 : W 3 = some 3) (j : Nat) (hj : j < 4) : G7.run tab W (n + 6) i__law_told [.p (.int j), .p a, .p .non] s = .ok (.p (rfd 3)) s := by
  match j, hj with
  | 0, _ => exact told0_ex (n + 5) a .non (bk_br n a h hb) h3
  | 1, _ => exact told1_ex (n + 5) a .non (bk_tr n a h hb) h3
  | 2, _ => exact told2_ex (n + 5) a .non (bk_lo n a _ h hb) h3
  | 3, _ => exact told3_ex (n + 5) a .non (bk_sh n a _ h hb) h3
/-! what is drawn -/
def odd1 : List P := [.non, .int 5, .tup [.str (Str.ofString "text"), .str (Str.ofString "err"), .str (Str.ofString "x")], .tup [.str (Str.ofString "frames"), .str (Str.ofString "err"), .tup []], .tup [.str (Str.ofString "frames"), .str (Str.ofString "Err"), .tup [.tup [.str (Str.ofString "a"), .str (Str.ofString "f")]]], .tup [.str (Str.ofString "keys")]]
def fr13 : List P := (List.replicate 13 [P.tup [.str (Str.ofString "a"), .str (Str.ofString "f")]]).flatten
def odd2 : List P := [.lst [.str (Str.ofString "frames"), .str (Str.ofString "err"), .tup [.tup [.str (Str.ofString "a"), .str (Str.ofString "f")]]], .tup [.str (Str.ofString "frames"), .str (Str.ofString "err"), .tup fr13]]
def odd3 : List P := [.tup [.str (Str.ofString "frames"), .str (Str.ofString "err"), .tup [.tup [.str (Str.ofString "a")]]]]
theorem odds_ok : ∀ a ∈ odd1 ++ odd2 ++ odd3, isFK a = false ∧ sm a = true := by
  have h : ((odd1 ++ odd2 ++ odd3).all fun a => !isFK a && sm a) = true := by decide +kernel
  intro a ha
  have := List.all_eq_true.mp h a ha
  simpa using this
def cnts : List P := [.non, .int 0, .int 13, .bl true, .str (Str.ofString "1"), .int (-1)]
theorem cnts_ok : ∀ a ∈ cnts, isWhole a 1 12 = false := by
  have h : (cnts.all fun a => !isWhole a 1 12) = true := by decide +kernel
  intro a ha
  have := List.all_eq_true.mp h a ha
  simpa using this
theorem fks_sm {L : List FK} (h : ∀ k ∈ L, FKo k) : sms (L.map FK.p) = true := by
  induction L with
  | nil => rfl
  | cons k r ih => rw [List.map_cons, sms, (h k List.mem_cons_self).sm, ih fun k hk => h k (List.mem_cons_of_mem _ hk)]; rfl
theorem sms_app {a b : List P} (ha : sms a = true) (hb : sms b = true) : sms (a ++ b) = true := by
  induction a with
  | nil => exact hb
  | cons x r ih =>
    rw [sms, Bool.and_eq_true] at ha
    rw [List.cons_append, sms, ha.1, ih ha.2]; rfl
theorem bads_ok {L : List FK} {od a : P} (h : ∀ k ∈ L, FKo k) (h1 : isFK od = false) (h2 : sm od = true) (ha : a ∈ [P.non, .int 5, .tup (L.map FK.p), .lst (L.map FK.p ++ [od]), .lst (od :: L.map FK.p), .str (Str.ofString "keys")]) : isFKs a = false ∧ sm a = true := by
  have hs := fks_sm h
  simp only [List.mem_cons, List.not_mem_nil, or_false] at ha
  rcases ha with rfl | rfl | rfl | rfl | rfl | rfl
  · exact ⟨rfl, rfl⟩
  · exact ⟨rfl, rfl⟩
  · exact ⟨rfl, by simpa [sm] using hs⟩
  · refine ⟨by simp [isFKs, h1], ?_⟩
    simp only [sm]
    exact sms_app hs (by simp [sms, h2])
  · refine ⟨by simp [isFKs, h1], ?_⟩
    simp only [sm]
    exact sms_app (a := [od]) (by simp [sms, h2]) hs
  · exact ⟨rfl, by decide +kernel⟩
theorem neR (a : P) (h : a.lim 20 = true) : cmpD .NotEq (.p a) (.p a) s = .ok (.p (.bl false)) s := by
  rw [ne_pp a a (by rw [h]; rfl), eqv_refl]; rfl
theorem eqR (a : P) (h : a.lim 20 = true) : cmpD .Eq (.p a) (.p a) s = .ok (.p (.bl true)) s := by
  rw [eq_pp a a (by rw [h]; rfl), eqv_refl]
theorem addLL (x y : List P) (h : x.length + y.length ≤ 1000) (s : Sto) : binD .Add (.p (.lst x)) (.p (.lst y)) s = .ok (.p (.lst (x ++ y))) s := by
  have hb := big
  simp only [binD, get_p, binP, if_pos (show x.length + y.length ≤ sizeLine by omega)]; rfl
theorem mul13 (s : Sto) : binD .Mult (.p (.tup [.tup [.str (Str.ofString "a"), .str (Str.ofString "f")]])) (.p (.int 13)) s = .ok (.p (.tup fr13)) s := rfl
theorem mul4 (s : Sto) : binD .Mult (.p (.lst [rfd 3])) (.p (.int 4)) s = .ok (.p (.lst [rfd 3, rfd 3, rfd 3, rfd 3])) s := by
  have hb := big
  simp only [binD, get_p, binP]
  rw [if_pos ⟨by decide, by decide, by show 1 * 4 ≤ sizeLine; omega⟩]
  rfl
theorem lc4 {stp : D → Sto → R (Option P)} {r : P} (h : ∀ j : Nat, j < 4 → stp (.p (.int j)) s = .ok (some r) s) (s0 : Sto) : lcLoop (.fix (rangeL 0 4)) stp ((Src.fix (rangeL 0 4)).len s0 + 1) 0 [] s = .ok [r, r, r, r] s := by
  have e : rangeL 0 4 = [P.int 0, .int 1, .int 2, .int 3].map D.p := rfl
  rw [e, lc_map (f := fun _ => r) fun a ha => by
    simp only [List.mem_cons, List.not_mem_nil, or_false] at ha
    rcases ha with rfl | rfl | rfl | rfl
    · exact h 0 (by omega)
    · exact h 1 (by omega)
    · exact h 2 (by omega)
    · exact h 3 (by omega)]
  rfl
theorem lc3 {stp : D → Sto → R (Option P)} {a b c : P} (h0 : stp (.p (.int 0)) s = .ok (some a) s) (h1 : stp (.p (.int 1)) s = .ok (some b) s) (h2 : stp (.p (.int 2)) s = .ok (some c) s) (s0 : Sto) : lcLoop (.fix (rangeL 0 3)) stp ((Src.fix (rangeL 0 3)).len s0 + 1) 0 [] s = .ok [a, b, c] s := by
  have e : rangeL 0 3 = [P.int 0, .int 1, .int 2].map D.p := rfl
  rw [e, lc_map (f := fun x => match x with
    | .int 0 => a
    | .int 1 => b
    | _ => c) fun x hx => by
    simp only [List.mem_cons, List.not_mem_nil, or_false] at hx
    rcases hx with rfl | rfl | rfl
    · exact h0
    · exact h1
    · exact h2]
  rfl
theorem brP_nil : brP [] = [] := by simp [brP, srtP, begs, nubS]
theorem loP_nil : lotsP [] 1 = .lst [] := by simp [lotsP, lotsV, srtP, nubS]
theorem sh_nil (k : FK) (h : FKo k) : shP [] k = .int 1 := by
  have h1 := h.ok.2.1
  obtain ⟨j, hj⟩ : ∃ j, k.fs.length = j + 1 := ⟨k.fs.length - 1, by omega⟩
  unfold shP
  rw [hj, List.range_succ_eq_map, List.find?_cons]
  simp [shC, othr]
theorem tr_two (k : FK) (h : FKo k) : trunkP [k, k] = .tup [.str k.w, .tup k.fs] := by
  have e : tkN [k, k] k.fs = k.fs.length := by
    obtain ⟨_, h2, h3⟩ := tkN_ok [k, k] k.fs
    by_cases hl : tkN [k, k] k.fs < k.fs.length
    · exfalso
      simp [tkC, hl, begin_, eqvs_refl] at h2
    · omega
  simp [trunkP, e]
theorem k23_law (h3 : W 3 = some 3) (h6 : W 6 = some 6) (xs : List Int) : ∃ s, G7.run tab W 20 i_law [.scr xs] ⟨[], []⟩ = .ok (.p (.bl true)) s := by
  have hbg := big
  obtain ⟨L, c1, hL, hl, _, hc1, e1⟩ := k_keys (W := W) (xs := xs) (ts := []) (m := []) 13 0 5 (by omega) (by omega)
  obtain ⟨od, hod, e2⟩ := k_pick (W := W) (xs := xs) (ts := []) (m := []) 15 c1 (odd1 ++ odd2 ++ odd3) (by simp [odd1]) (by omega)
  obtain ⟨o1, o2⟩ := odds_ok od hod
  obtain ⟨bad, hbad, e3⟩ := k_pick (W := W) (xs := xs) (ts := []) (m := []) 15 (c1 + 1) [P.non, .int 5, .tup (L.map FK.p), .lst (L.map FK.p ++ [od]), .lst (od :: L.map FK.p), .str (Str.ofString "keys")] (by simp) (by omega)
  obtain ⟨b1, b2⟩ := bads_ok hL o1 o2 hbad
  have e4 := fun s j hj => bad4 (W := W) (s := s) 13 bad b2 b1 h3 j hj
  have e5 := fun s => told3_ex (W := W) (s := s) 18 (.lst (L.map FK.p)) od (bk_sh2 13 L hL od o2 o1) h3
  obtain ⟨ct, hct, e6⟩ := k_pick (W := W) (xs := xs) (ts := []) (m := []) 15 (c1 + 1 + 1) cnts (by simp [cnts]) (by omega)
  have e7 := fun s => told2_ex (W := W) (s := s) 18 (.lst (L.map FK.p)) ct (bk_lo2 13 L hL ct (cnts_ok ct hct)) h6
  have n0 : ∀ t m, G7.run tab W 19 i__law_told [.p (.int 0), .p (.lst []), .p (.int 1)] ⟨t, m⟩ = .ok (.p (.lst [])) ⟨t, m⟩ := fun t m => told0_ok (W := W) 18 (.lst []) (.int 1) (by
    have := q_branches (W := W) (t := t) (m := m) 13 [] (fun _ h => (by cases h)) (by simp)
    rw [brP_nil] at this; exact this)
  have n1 : ∀ s, G7.run tab W 19 i__law_told [.p (.int 1), .p (.lst []), .p (.int 1)] s = .ok (.p .non) s := fun s => told1_ok (W := W) 18 (.lst []) (.int 1) (by
    have := q_trunk (W := W) (s := s) 13 [] (fun _ h => (by cases h))
    exact this)
  have n2 : ∀ t m, G7.run tab W 19 i__law_told [.p (.int 2), .p (.lst []), .p (.int 1)] ⟨t, m⟩ = .ok (.p (.lst [])) ⟨t, m⟩ := fun t m => told2_ok (W := W) 18 (.lst []) (.int 1) (by
    have := q_lots (W := W) (t := t) (m := m) 13 [] [] 1 (fun _ h => (by cases h)) (by simp) (by simp [nubP, srtK]) (fun _ h => (by cases h)) (by omega)
    rw [loP_nil] at this; exact this)
  obtain ⟨k, c2, hk, _, _, _, e8⟩ := k_frame_key (W := W) (xs := xs) (ts := []) (m := []) 14 (c1 + 1 + 1 + 1) (by omega)
  have e9 : ∀ s, G7.run tab W 19 i__law_told [.p (.int 3), .p (.lst []), .p k.p] s = .ok (.p (.int 1)) s := fun s => told3_ok (W := W) 18 (.lst []) k.p (by
    have := q_shortest (W := W) (s := s) 13 [] (fun _ h => (by cases h)) k hk
    rw [sh_nil k hk] at this; exact this)
  have e10 : ∀ s, G7.run tab W 19 i__law_told [.p (.int 1), .p (.lst [k.p, k.p]), .p .non] s = .ok (.p (.tup [.str k.w, .tup k.fs])) s := fun s => told1_ok (W := W) 18 _ .non (by
    have := q_trunk (W := W) (s := s) 13 [k, k] (by simpa using hk)
    rw [tr_two k hk] at this; exact this)
  have klim : (P.tup [.str k.w, .tup k.fs]).lim 20 = true := by
    have := (two_hk k.fs 17 hk.ok.2.2.2).2
    simp [P.lim, P.lims, this]
  rw [r_law]
  generalize G7.run tab W 19 = F at *
  refine Tru.fin ?_
  have t0 : (⟨[], []⟩ : Sto).pushT (.lst []) = tw 0 [] [] := rfl
  have e1 : F i__law_keys [.scr xs, .tmp 0, .p (.int 5)] (tw 0 [] []) = .ok (.p (.lst (L.map FK.p))) (tw c1 [] []) := e1
  have rn4 : ∀ s : Sto, rng1D (.p (.int 4)) s = .ok (.fix (rangeL 0 4)) s := fun s => rng1_ok 4 (by omega) s
  have rn3 : ∀ s : Sto, rng1D (.p (.int 3)) s = .ok (.fix (rangeL 0 3)) s := fun s => rng1_ok 3 (by omega) s
  unfold b_law
  (apply Tru.step; focus (simp [t0]; first | done | exact ⟨rfl, rfl⟩ | rfl))
  unfold t_law_1
  (apply Tru.step; focus (simp [e1]; first | done | exact ⟨rfl, rfl⟩ | rfl))
  unfold t_law_2
  have s2 : ex F W (.asg (.name 3) (.fz (.disp (.cons (.con .non) (.cons (.con (.int (5))) (.cons (.tup (.cons (.con (.str (Str.ofString "text"))) (.cons (.con (.str (Str.ofString "err"))) (.cons (.con (.str (Str.ofString "x"))) .nil)))) (.cons (.tup (.cons (.con (.str (Str.ofString "frames"))) (.cons (.con (.str (Str.ofString "err"))) (.cons (.tup .nil) .nil)))) (.cons (.tup (.cons (.con (.str (Str.ofString "frames"))) (.cons (.con (.str (Str.ofString "Err"))) (.cons (.tup (.cons (.tup (.cons (.con (.str (Str.ofString "a"))) (.cons (.con (.str (Str.ofString "f"))) .nil))) .nil)) .nil)))) (.cons (.tup (.cons (.con (.str (Str.ofString "keys"))) .nil)) .nil)))))))))
      [some (.scr xs), some (.tmp 0), some (.p (.lst (L.map FK.p))), none, none, none, none] (tw c1 [] []) = .nx [some (.scr xs), some (.tmp 0), some (.p (.lst (L.map FK.p))), some (.p (.lst odd1)), none, none, none] (tw c1 [] []) := by
    simp [odd1]
  refine Tru.step s2 ?_
  unfold t_law_3
  have s3 : ex F W (.asg (.name 3) (.bin .Add (.var 3) (.fz (.disp (.cons (.fz (.disp (.cons (.con (.str (Str.ofString "frames"))) (.cons (.con (.str (Str.ofString "err"))) (.cons (.tup (.cons (.tup (.cons (.con (.str (Str.ofString "a"))) (.cons (.con (.str (Str.ofString "f"))) .nil))) .nil)) .nil))))) (.cons (.tup (.cons (.con (.str (Str.ofString "frames"))) (.cons (.con (.str (Str.ofString "err"))) (.cons (.bin .Mult (.tup (.cons (.tup (.cons (.con (.str (Str.ofString "a"))) (.cons (.con (.str (Str.ofString "f"))) .nil))) .nil)) (.con (.int (13)))) .nil)))) .nil))))))
      [some (.scr xs), some (.tmp 0), some (.p (.lst (L.map FK.p))), some (.p (.lst odd1)), none, none, none] (tw c1 [] []) = .nx [some (.scr xs), some (.tmp 0), some (.p (.lst (L.map FK.p))), some (.p (.lst (odd1 ++ odd2))), none, none, none] (tw c1 [] []) := by
    have a := addLL odd1 odd2 (by simp [odd1, odd2]) (tw c1 [] [])
    generalize odd1 = x1 at *
    simp only [odd2] at a ⊢
    simp [mul13, a]
  refine Tru.step s3 ?_
  unfold t_law_4
  have s4 : ex F W (.asg (.name 3) (.call i__law_pick (.cons (.var 0) (.cons (.var 1) (.cons (.bin .Add (.var 3) (.fz (.disp (.cons (.tup (.cons (.con (.str (Str.ofString "frames"))) (.cons (.con (.str (Str.ofString "err"))) (.cons (.tup (.cons (.tup (.cons (.con (.str (Str.ofString "a"))) .nil)) .nil)) .nil)))) .nil)))) .nil)))))
      [some (.scr xs), some (.tmp 0), some (.p (.lst (L.map FK.p))), some (.p (.lst (odd1 ++ odd2))), none, none, none] (tw c1 [] []) = .nx [some (.scr xs), some (.tmp 0), some (.p (.lst (L.map FK.p))), some (.p od), none, none, none] (tw (c1 + 1) [] []) := by
    have a := addLL (odd1 ++ odd2) odd3 (by simp [odd1, odd2, odd3]) (tw c1 [] [])
    generalize odd1 ++ odd2 = x1 at *
    simp only [odd3] at a e2 ⊢
    simp [a, e2]
  refine Tru.step s4 ?_
  have hLl : (L.map FK.p).length ≤ 5 := by simpa using hl
  generalize L.map FK.p = KS at *
  clear s2 s3 s4 e1 e2
  unfold t_law_5
  have al := addLL KS [od] (by simp; omega) (tw (c1 + 1) [] [])
  have al2 := addLL [od] KS (by simp; omega) (tw (c1 + 1) [] [])
  (apply Tru.step; focus (simp [al, al2, e3]; first | done | exact ⟨rfl, rfl⟩ | rfl))
  unfold t_law_6
  have e4' := fun s s0 => lc4 (s := s) (stp := fun d s => (F i__law_told [d, .p bad, .p .non] s).bind eltD) (r := rfd 3) (fun j hj => by rw [e4 s j hj]; rfl) s0
  have m4 := fun s => mul4 s
  have q4 := fun s : Sto => neR (s := s) (.lst [rfd 3, rfd 3, rfd 3, rfd 3]) rfl
  simp only [rfd] at e4' m4 q4
  (apply Tru.step; focus (simp [rn4, wipe, e4', m4, q4]; first | done | exact ⟨rfl, rfl⟩ | rfl))
  unfold t_law_7
  have q1 := fun s : Sto => neR (s := s) (rfd 3) rfl
  have q2 := fun s : Sto => neR (s := s) (rfd 6) rfl
  simp only [rfd] at q1 q2 e5 e7
  (apply Tru.step; focus (simp [e5, q1]; first | done | exact ⟨rfl, rfl⟩ | rfl))
  unfold t_law_8
  simp only [cnts] at e6
  (apply Tru.step; focus (simp [e6, e7, q2]; first | done | exact ⟨rfl, rfl⟩ | rfl))
  unfold t_law_9
  have e11 := fun t m s0 => lc3 (s := ⟨t, m⟩) (stp := fun d s => (F i__law_told [d, .p (.lst []), .p (.int 1)] s).bind eltD) (a := .lst []) (b := .non) (c := .lst []) (by rw [n0]; rfl) (by rw [n1]; rfl) (by rw [n2]; rfl) s0
  have e11 : ∀ (c : Nat) (s0 : Sto), lcLoop (.fix (rangeL 0 3)) (fun d s => (F i__law_told [d, .p (.lst []), .p (.int 1)] s).bind eltD) ((Src.fix (rangeL 0 3)).len s0 + 1) 0 [] (tw c [] []) = .ok [.lst [], .non, .lst []] (tw c [] []) := fun c s0 => e11 _ _ s0
  have q3 := fun s : Sto => neR (s := s) (.lst [.lst [], .non, .lst []]) rfl
  (apply Tru.step; focus (simp [rn3, wipe, e11, q3]; first | done | exact ⟨rfl, rfl⟩ | rfl))
  unfold t_law_10
  (apply Tru.step; focus (simp [e8]; first | done | exact ⟨rfl, rfl⟩ | rfl))
  unfold t_law_11
  apply Tru.ret
  have q5 := fun s : Sto => eqR (s := s) _ klim
  simp [e9, e10, fk1, fk2, q5]
  rfl
end
end Rw

namespace Rw
open PySem PySem.Spec PyProof.Rows G7

theorem law_true (xs : List Int) (h : xs.length ≤ 63) : ∃ s, G7.run tab Rb.row.wh 20 i_law [.scr xs] ⟨[], []⟩ = .ok (.p (.bl true)) s := k23_law (by rw [Rb.row_wh]; rfl) (by rw [Rb.row_wh]; rfl) xs
end Rw

set_option maxHeartbeats 0
set_option autoImplicit true
open PySem PySem.W PySem.Calls PyProof.Rows
theorem PySem.Challenge.cw_fallgroups_k23_branching_refused_holds : PySem.Challenge.rw_fallgroups_k23_branching_refused.Holds := by
  w_on; o_law
  refine HandSHeadRun.head_any (r := OpenLaw.row PySem.Challenge.rw_fallgroups_k23_branching_refused) (q := view (OpenLaw.row PySem.Challenge.rw_fallgroups_k23_branching_refused).prog [51]) (H := Rb.hk) (ob := Rb.ob) (M := 6000) (loose := Rb.nm) (d := HandSHeadRun.topDef (OpenLaw.row PySem.Challenge.rw_fallgroups_k23_branching_refused).prog 51) (kwd := []) Rb.ob_eq
    (by kernel_rfl) (fun s => by kernel_rfl) Rb.run (by kernel_rfl) (by kernel_rfl) (by kernel_rfl) (by rfl) (by first | assumption | decide +kernel) (by decide +kernel) ⟨rfl, rfl, rfl, rfl, rfl, by decide +kernel⟩ ?hw ?hc
  case hw => w_witness2
  case hc =>
    refine L2.walk_ofE (l := PySem.Challenge.rw_fallgroups_k23_branching_refused) (n := 63) (k := 40) (x := "script") (CX := L2.CX0) rfl (by decide) (by kernel_rfl) ⟨rfl, by decide, by decide⟩ ?F (fun _ _ _ _ z => z)
    intro w mg fa h Y G hmg0
    have hmg : mg (PySem.Str.ofString "law") = some (.ref fa) := by
      have e : (HandSHeadRun.topDef (OpenLaw.row PySem.Challenge.rw_fallgroups_k23_branching_refused).prog 51).name = (PySem.Str.ofString "law") := by kernel_rfl
      rw [← e]
      exact hmg0
    exact G7.law_F (P := (PySem.Challenge.rw_fallgroups_k23_branching_refused).prog) Rb.row Rb.row_ok Rw.law_true w mg fa h Y G hmg
