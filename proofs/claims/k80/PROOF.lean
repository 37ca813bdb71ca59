import PyProof.Rows.All
import Wide.All
import OpenK.AllK
import Wide.FinOn
import HandS.ForMost
import HandS.IsInst
import HandS.TupAny
import HandS.TupMul
import HandS.Deep
import HandS.Conv
import HandS.Zip
import HandS.Strs
import HandS.ListItems
import HandS.Style
import HandS.Nested
import HandS.EndTab
import HandS.Text
import PyProof.StrOps2
import KE.KRevSl
import HandS.RaiseMore
import HandS.Walk
import KE.GoesEnum
import KE.KDictZip
import HandS.Set
import HandS.TupSets
import KE.SortData
import HandS.DictTup
import KE.KDictPairs
import PySem.Challenge.RW_throwless_k80_sources
set_option Elab.async false
set_option linter.all false
set_option maxRecDepth 100000
/-! C1: a small language over plain data, its evaluator. -/
namespace Tw
open PySem

/-- what a name or an expression holds: data, a mutable object of the store, a list owned by a field of an instance -/
inductive Vl where
  | d (x : PyData)
  | r (n : Nat)
  | f (n : Nat) (a : Str)
  | s (ns : List Int)
inductive Fl where
  | d (x : PyData)
  | l (xs : List PyData)
/-- mutable objects -/
inductive MO where
  | lst (xs : List PyData)
  | dct (kvs : List (Str × PyData))
  | ins (c : Nat) (fs : List (Str × Fl))
  | dead
  | tab (j : Nat)
  | ptup (xs : List PyData)
  | clo (k : Nat) (ws : List PyData)
abbrev Sto := List MO
abbrev En := List (Option Vl)

inductive Bop where
  | add | sub | mul | fdiv | mod
inductive Cop where
  | eq | ne | lt | le | gt | ge | inn | nin
/-- built-ins of one argument -/
inductive F1 where
  | len | sum | any | all | srt | int | str | lst | tup | lenset | srtset | srtitems | dctd | dctz
/-- methods of one argument -/
inductive M1 where
  | app | ext | join | starts | split | index | upd
inductive M0 where
  | pop
inductive Tg where
  | nm (i : Nat)
  | tp (is : List Nat)
mutual
inductive E where
  | var (i : Nat)
  | cst (c : PyData)
  | glb (x : Str) (c : PyData)
  | tup (es : Es)
  | lst (es : Es)
  | nlst (es : Es)
  | nadd (a b : E)
  | ndct (es : Es)
  | ndc1 (a : E)
  | ndcz (a b : E)
  | bin (o : Bop) (a b : E)
  | neg (a : E)
  | cmp (o : Cop) (a b : E)
  | chn (o p : Cop) (a b c : E)
  | isn (pos : Bool) (a : E)
  | ix (a b : E)
  | sl (a : E) (lo hi : Oe)
  | rev (a : E)
  | isi (t : String) (a : E)
  | fn1 (f : F1) (a : E)
  | band (a : E) (es : Es)
  | bor (a : E) (es : Es)
  | nt (a : E)
  | call (f : Nat) (es : Es)
  | calln (f : Nat) (es : Es)
  | meth (o : E) (c : Nat) (m : Str) (f : Nat) (es : Es)
  | make (c : Nat) (f : Nat) (es : Es)
  | fld (c : Nat) (o : E) (a : Str)
  | mt1 (m : M1) (o a : E)
  | mt0 (m : M0) (o : E)
  | get (o k v : E)
  | callv (i : Nat) (es : Es)
  | ptsi (a : E)
  | ndcp (i : Nat)
  | comp (elt : E) (tg : Tg) (it : Iv) (cond : Oe)
inductive Es where
  | nil
  | cons (e : E) (es : Es)
inductive Oe where
  | none
  | some (e : E)
inductive Iv where
  | seq (e : E)
  | keys (e : E)
  | rng (a b : Oe) (e : E)
  | enm (e : E)
  | zip (a b : E)
end
mutual
inductive S where
  | frz (i : Nat)
  | asg (i : Nat) (e : E)
  | unp (is : List Nat) (e : E)
  | seti (o k v : E)
  | setf (c : Nat) (o : E) (a : Str) (e : E)
  | setl (c : Nat) (o : E) (a : Str)
  | exp (e : E)
  | ret (e : E)
  | retN
  | retl (f : Nat) (es : Es) (j k : Nat) (js : List Nat)
  | retd (f : Nat) (es : Es) (j k : Nat) (js : List Nat) (i : Nat)
  | ite (c : E) (a b : Ss)
  | fors (tg : Tg) (it : Iv) (b : Ss)
  | whl (k : Nat) (c : E) (b : Ss)
  | brk
  | cnt
  | pas
inductive Ss where
  | nil
  | cons (s : S) (ss : Ss)
end

/-! ### data -/
def sizeL : Nat := 16777216
def kvD (kvs : List (Str × PyData)) : PyData := .dict (kvs.map fun p => (.str p.1, p.2))
def toKv : List (PyData × PyData) → Option (List (Str × PyData))
  | [] => some []
  | (.str k, v) :: r => (toKv r).map fun q => (k, v) :: q
  | _ :: _ => none
/-- what is read: a mutable object's content as data -/
def dat (st : Sto) : Vl → Option PyData
  | .d x => some x
  | .r n => match st[n]? with
    | some (.lst xs) => some (.list xs)
    | some (.dct kvs) => some (kvD kvs)
    | _ => none
  | .f n a => match st[n]? with
    | some (.ins _ fs) => match fs.lookup a with
      | some (.l xs) => some (.list xs)
      | _ => none
    | _ => none
  | .s _ => none
def putF (a : Str) (x : Fl) : List (Str × Fl) → List (Str × Fl)
  | [] => [(a, x)]
  | p :: r => if p.1 = a then (a, x) :: r else p :: putF a x r
def setL (st : Sto) (v : Vl) (xs : List PyData) : Option Sto := match v with
  | .r n => match st[n]? with
    | some (.lst _) => some (st.set n (.lst xs))
    | _ => none
  | .f n a => match st[n]? with
    | some (.ins c fs) => match fs.lookup a with
      | some (.l _) => some (st.set n (.ins c (putF a (.l xs) fs)))
      | _ => none
    | _ => none
  | .d _ => none
  | .s _ => none
def flatD : PyData → Bool
  | .none => true
  | .bool _ => true
  | .int _ => true
  | .str _ => true
  | _ => false
def lookD (kvs : List (Str × PyData)) (k : Str) : Option PyData := (kvs.find? fun p => decide (p.1 = k)).map (·.2)
def putD (kvs : List (Str × PyData)) (k : Str) (v : PyData) : List (Str × PyData) :=
  if kvs.any fun p => decide (p.1 = k) then kvs.map fun p => if p.1 = k then (p.1, v) else p else kvs ++ [(k, v)]
def mergeD (kvs more : List (Str × PyData)) : List (Str × PyData) := more.foldl (fun acc p => putD acc p.1 p.2) kvs

def addD : PyData → PyData → Option PyData
  | .int i, .int j => some (.int (i + j))
  | .str x, .str y => if x.length + y.length ≤ sizeL then some (.str (x ++ y)) else none
  | .list xs, .list ys => if xs.length + ys.length ≤ sizeL then some (.list (xs ++ ys)) else none
  | .tuple xs, .tuple ys => if xs.length + ys.length ≤ sizeL then some (.tuple (xs ++ ys)) else none
  | _, _ => none
def catL : PyData → PyData → Option (List PyData)
  | .list xs, .list ys => if xs.length + ys.length ≤ sizeL then some (xs ++ ys) else none
  | _, _ => none
def repS (x : Str) (k : Nat) : Str := ⟨(List.replicate k x.cps.toList).flatten.toArray⟩
def mulD : PyData → PyData → Option PyData
  | .int i, .int j => if (-(2 ^ 64) < i ∧ i < 2 ^ 64) ∨ (-(2 ^ 64) < j ∧ j < 2 ^ 64) then some (.int (i * j)) else none
  | .str x, .int k => if 0 ≤ k ∧ k ≤ 16777216 ∧ x.length * k.toNat ≤ sizeL then some (.str (repS x k.toNat)) else none
  | .tuple xs, .int k => if 0 ≤ k ∧ k ≤ 1000 ∧ xs.length ≤ 1000 then some (.tuple (List.replicate k.toNat xs).flatten) else none
  | _, _ => none
def binD : Bop → PyData → PyData → Option PyData
  | .add, x, y => addD x y
  | .sub, .int i, .int j => some (.int (i - j))
  | .mul, x, y => mulD x y
  | .fdiv, .int i, .int j => if 0 < j ∧ j < 1073741824 then some (.int (i / j)) else none
  | .mod, .int i, .int j => if 0 < j then some (.int (i % j)) else none
  | _, _, _ => none
/-- may be compared at any depth -/
def okD (x : PyData) : Bool := x.canLay0 && decide (x.depth ≤ 150)
def eqD : PyData → PyData → Option Bool
  | .int i, .int j => some (decide (i = j))
  | .str x, .str y => some (decide (x = y))
  | x, y => if okD x && okD y then some (PyData.eqv x y) else none
/-- in, of a list or tuple -/
def inD (x : PyData) (ys : List PyData) : Option Bool := if flatD x && ys.all flatD then some (ys.any fun y => PyData.eqv y x) else
  if x.canLay0 && decide (x.depth ≤ 60) && ys.all okD then some (ys.any fun y => PyData.eqv y x) else none
/-- text in text: one sign -/
def inS (x y : Str) : Option Bool := match x.cps.toList with
  | [c] => some (decide (c ∈ y.cps.toList))
  | _ => none
def cmpD : Cop → PyData → PyData → Option Bool
  | .eq, x, y => eqD x y
  | .ne, x, y => (eqD x y).map (!·)
  | .lt, .int i, .int j => some (decide (i < j))
  | .le, .int i, .int j => some (decide (i ≤ j))
  | .gt, .int i, .int j => some (decide (j < i))
  | .ge, .int i, .int j => some (decide (j ≤ i))
  | .le, .str x, .str y => some (!decide (y.cps.toList < x.cps.toList))
  | .inn, x, .list ys => inD x ys
  | .inn, x, .tuple ys => inD x ys
  | .inn, .str x, .str y => inS x y
  | .inn, .str x, .dict kvs => (toKv kvs).map fun q => (lookD q x).isSome
  | .nin, x, .list ys => (inD x ys).map (!·)
  | .nin, x, .tuple ys => (inD x ys).map (!·)
  | .nin, .str x, .str y => (inS x y).map (!·)
  | .nin, .str x, .dict kvs => (toKv kvs).map fun q => !(lookD q x).isSome
  | _, _, _ => none
def ixD : PyData → PyData → Option PyData
  | .list xs, .int i => L2.atI xs i
  | .tuple xs, .int i => L2.atI xs i
  | .str z, .int i => if z.length ≤ sizeL then (L2.atI z.cps.toList i).map fun c => .str ⟨#[c]⟩ else none
  | .dict kvs, .str k => (toKv kvs).bind fun q => lookD q k
  | _, _ => none
def cutD {α : Type} (xs : List α) (lo hi : Option Int) : List α := (xs.drop (HT.sIx xs.length 0 lo)).take (HT.sIx xs.length xs.length hi - HT.sIx xs.length 0 lo)
def slD (x : PyData) (lo hi : Option Int) : Option PyData := match x with
  | .list xs => some (.list (cutD xs lo hi))
  | .tuple xs => some (.tuple (cutD xs lo hi))
  | _ => none
def isiD (t : String) : PyData → Bool
  | .none => false
  | .bool _ => t == "bool" || t == "int"
  | .int _ => t == "int"
  | .str _ => t == "str"
  | .list _ => t == "list"
  | .tuple _ => t == "tuple"
  | .dict _ => t == "dict"
def intsD : List PyData → Option (List Int)
  | [] => some []
  | .int i :: r => (intsD r).map (i :: ·)
  | _ :: _ => none
def bolsD : List PyData → Option (List Bool)
  | [] => some []
  | .bool i :: r => (bolsD r).map (i :: ·)
  | _ :: _ => none
def strsD : List PyData → Option (List Str)
  | [] => some []
  | .str i :: r => (strsD r).map (i :: ·)
  | _ :: _ => none
def leS (x y : Str) : Bool := !decide (y.cps.toList < x.cps.toList)
/-- the texts, each once -/
def dedS : List Str → List Str
  | [] => []
  | x :: r => if x ∈ r then dedS r else x :: dedS r
/-- pairs of texts -/
def prsD : List PyData → Option (List (Str × Str))
  | [] => some []
  | .tuple [.str a, .str b] :: r => (prsD r).map ((a, b) :: ·)
  | _ :: _ => none
def leP (x y : Str × Str) : Bool := if x.1 = y.1 then leS x.2 y.2 else leS x.1 y.1
def dedP : List (Str × Str) → List (Str × Str)
  | [] => []
  | x :: r => if x ∈ r then dedP r else x :: dedP r
def encP (p : Str × Str) : PyData := .tuple [.str p.1, .str p.2]
def rises : List Str → Bool
  | x :: y :: r => decide (x.cps.toList < y.cps.toList) && rises (y :: r)
  | _ => true
def isIntD : PyData → Bool
  | .int _ => true
  | _ => false
def srtD (xs : List PyData) : Option PyData := match strsD xs with
  | some ys => if ys.length < 64 then some (.list ((ys.mergeSort leS).map .str)) else none
  | none => match prsD xs with
    | some ps => if ps.length < 64 then some (.list ((ps.mergeSort leP).map encP)) else none
    | none => none
def srtT (xs : List PyData) : Option PyData := match strsD xs with
  | some ys => if ys.length < 64 then some (.list ((ys.mergeSort leS).map .str)) else none
  | none => none
def srtsetD (xs : List PyData) : Option PyData := match strsD xs with
  | some ys => if (dedS ys).length < 64 then some (.list (((dedS ys).mergeSort leS).map .str)) else none
  | none => match prsD xs with
    | some ps => if (dedP ps).length < 63 then some (.list (((dedP ps).mergeSort leP).map encP)) else none
    | none => none
def fn1D : F1 → PyData → Option PyData
  | .lenset, .list xs => (strsD xs).bind fun ys => if (dedS ys).length < 1000 then some (.int (dedS ys).length) else none
  | .lenset, .tuple xs => (strsD xs).bind fun ys => if (dedS ys).length < 1000 then some (.int (dedS ys).length) else none
  | .srtset, .list xs => srtsetD xs
  | .srt, .list xs => srtD xs
  | .srt, .tuple xs => srtT xs
  | .len, .list xs => some (.int xs.length)
  | .len, .tuple xs => some (.int xs.length)
  | .len, .str z => if z.length ≤ sizeL then some (.int z.length) else none
  | .sum, .list xs => (intsD xs).map fun ns => .int ns.sum
  | .any, .list xs => (bolsD xs).map fun bs => .bool (bs.any id)
  | .all, .list xs => (bolsD xs).map fun bs => .bool (bs.all id)
  | .int, .int i => some (.int i)
  | .int, .bool b => some (.int (if b then 1 else 0))
  | .str, .int i => if i.natAbs.log2 < 1920 then some (.str (toString i)) else none
  | .str, .str z => some (.str z)
  | .lst, .list xs => some (.list xs)
  | .lst, .tuple xs => some (.list xs)
  | .tup, .list xs => some (.tuple xs)
  | .tup, .tuple xs => some (.tuple xs)
  | _, _ => none
def mt1D : M1 → PyData → PyData → Option PyData
  | .join, .str z, .list xs => (strsD xs).bind fun ys => if (ys.map (·.length)).sum + z.length * ys.length ≤ sizeL then some (.str (Txt.join z ys)) else none
  | .join, .str z, .tuple xs => (strsD xs).bind fun ys => if (ys.map (·.length)).sum + z.length * ys.length ≤ sizeL then some (.str (Txt.join z ys)) else none
  | .starts, .str a, .str b => some (.bool (Txt.startswith a b))
  | .index, .tuple xs, .str z => (strsD xs).bind fun ys => if z ∈ ys then some (.int (ys.idxOf z : Nat)) else none
  | _, _, _ => none

/-! ### targets and items -/
def setAll : List Nat → List PyData → En → Option En
  | [], [], ρ => some ρ
  | i :: is, x :: xs, ρ => setAll is xs (ρ.set i (some (.d x)))
  | _, _, _ => none
def tgS (tg : Tg) (x : PyData) (ρ : En) : Option En := match tg with
  | .nm i => some (ρ.set i (some (.d x)))
  | .tp is => match x with
    | .tuple xs => setAll is xs ρ
    | _ => none
def tgIs : Tg → List Nat
  | .nm i => [i]
  | .tp is => is
def wipeE (ρ : En) : List Nat → En
  | [] => ρ
  | v :: vs => (wipeE ρ vs).set v none
def rngL (lo : Int) : Nat → List PyData
  | 0 => []
  | n + 1 => .int lo :: rngL (lo + 1) n
def enmL (k : Nat) : List PyData → List PyData
  | [] => []
  | x :: r => .tuple [.int k, x] :: enmL (k + 1) r
def zipL : List PyData → List PyData → List PyData
  | x :: r, y :: q => .tuple [x, y] :: zipL r q
  | _, _ => []

def zipT : Vl → Vl → Option (List PyData)
  | .d (.tuple xs), .d (.tuple ys) => some (zipL xs ys)
  | _, _ => none

inductive Out where
  | nx | ret (v : Vl) | brk | cnt
/-- the fold of a for -/
def forS (f : PyData → En → Sto → Option (Out × En × Sto)) : List PyData → En → Sto → Option (Out × En × Sto)
  | [], ρ, st => some (.nx, ρ, st)
  | x :: r, ρ, st => (f x ρ st).bind fun p => match p.1 with
      | .nx => forS f r p.2.1 p.2.2
      | .cnt => forS f r p.2.1 p.2.2
      | .brk => some (.nx, p.2.1, p.2.2)
      | .ret v => some (.ret v, p.2.1, p.2.2)
/-- the fold of a comprehension -/
def compS (f : PyData → Sto → Option (Option PyData × Sto)) : List PyData → Sto → Option (List PyData × Sto)
  | [], st => some ([], st)
  | x :: r, st => (f x st).bind fun p => (compS f r p.2).map fun q => match p.1 with
      | some y => (y :: q.1, q.2)
      | none => q
def whlS (c : En → Sto → Option (Bool × Sto)) (f : En → Sto → Option (Out × En × Sto)) : Nat → En → Sto → Option (Out × En × Sto)
  | 0, _, _ => none
  | k + 1, ρ, st => (c ρ st).bind fun p => if p.1 then (f ρ p.2).bind fun q => match q.1 with
      | .nx => whlS c f k q.2.1 q.2.2
      | .cnt => whlS c f k q.2.1 q.2.2
      | .brk => some (.nx, q.2.1, q.2.2)
      | .ret v => some (.ret v, q.2.1, q.2.2)
    else some (.nx, ρ, p.2)

/-! ### what leaves the store as it is -/
mutual
def pureE : E → Bool
  | .var _ => true
  | .cst _ => true
  | .glb _ _ => true
  | .tup es => pureEs es
  | .lst es => pureEs es
  | .bin _ a b => pureE a && pureE b
  | .neg a => pureE a
  | .cmp _ a b => pureE a && pureE b
  | .chn _ _ a b c => pureE a && pureE b && pureE c
  | .isn _ a => pureE a
  | .ix a b => pureE a && pureE b
  | .sl a lo hi => pureE a && pureO lo && pureO hi
  | .rev a => pureE a
  | .isi _ a => pureE a
  | .fn1 _ a => pureE a
  | .band a es => pureE a && pureEs es
  | .bor a es => pureE a && pureEs es
  | .nt a => pureE a
  | .fld _ o _ => pureE o
  | .get a b c => pureE a && pureE b && pureE c
  | _ => false
def pureEs : Es → Bool
  | .nil => true
  | .cons e es => pureE e && pureEs es
def pureO : Oe → Bool
  | .none => true
  | .some e => pureE e
end

/-! ### the evaluator -/
abbrev CallF := Nat → List Vl → Sto → Option (PyData × Sto)
def dOf : Vl → Option PyData
  | .d x => some x
  | _ => none
def allD : List Vl → Option (List PyData)
  | [] => some []
  | .d x :: r => (allD r).map (x :: ·)
  | _ :: _ => none
def boolOf : Vl → Option Bool
  | .d (.bool b) => some b
  | _ => none
def isR (n : Nat) : Vl → Bool
  | .r m => m == n
  | _ => false
def pairUp : List Vl → Option (List (Str × PyData))
  | [] => some []
  | .d (.str k) :: .d x :: r => (pairUp r).map ((k, x) :: ·)
  | _ => none
/-- a dict that was made in a call, still nobody's -/
def newD (x : PyData) (st : Sto) : Option (Vl × Sto) := match x with
  | .dict kvs => (toKv kvs).map fun q => (.r st.length, st ++ [.dct q])
  | _ => none
/-- the new dict gets its pairs -/
def ndctS (n : Nat) (q : List (Str × PyData)) (st : Sto) : Option (Vl × Sto) := match st[n]? with
  | some (.dct []) => some (.r n, st.set n (.dct (mergeD [] q)))
  | _ => none
def prsOf : List PyData → Option (List (Str × PyData))
  | [] => some []
  | .tuple [.str k, x] :: r => (prsOf r).map ((k, x) :: ·)
  | _ => none
/-- dict(x) -/
def dctOf : PyData → Option (List (Str × PyData))
  | .dict kvs => toKv kvs
  | .list xs => (prsOf xs).map fun q => mergeD [] q
  | _ => none
/-- dict(list(zip(a, b))) -/
def zipOf : List Vl → Option (List (Str × PyData))
  | [.d (.tuple xs), .d (.tuple ys)] => (strsD xs).map fun ks => mergeD [] (ks.zip ys)
  | _ => none
def keysOf : Vl → Option (List PyData)
  | .d (.dict kvs) => (toKv kvs).map fun q => q.map fun t => .str t.1
  | _ => none
/-- the store's entry n becomes data -/
def frzE (n : Nat) (x : PyData) (ρ : En) : En := ρ.map fun o => match o with
  | some (.r m) => if m = n then some (.d x) else some (.r m)
  | o => o
def frzS (ρ : En) (st : Sto) : Option (Option Vl) → Option (En × Sto)
  | some (some (.r n)) => match st[n]? with
    | some (.lst xs) => some (frzE n (.list xs) ρ, st.set n .dead)
    | some (.dct kvs) => some (frzE n (kvD kvs) ρ, st.set n .dead)
    | _ => none
  | _ => none
def mt1S (m : M1) (o a : Vl) (st : Sto) : Option (Vl × Sto) := match m with
  | .app => (dOf a).bind fun x => (dat st o).bind fun y => match y with
    | .list xs => if xs.length < sizeL then (setL st o (xs ++ [x])).map fun st' => (.d .none, st') else none
    | _ => none
  | .ext => (dOf a).bind fun x => match x with
    | .list zs => (dat st o).bind fun y => match y with
      | .list xs => if xs.length + zs.length ≤ sizeL then (setL st o (xs ++ zs)).map fun st' => (.d .none, st') else none
      | _ => none
    | .tuple zs => (dat st o).bind fun y => match y with
      | .list xs => if xs.length + zs.length ≤ sizeL then (setL st o (xs ++ zs)).map fun st' => (.d .none, st') else none
      | _ => none
    | _ => none
  | .upd => match o with
    | .r n => match st[n]? with
      | some (.dct kvs) => if isR n a then none else (dat st a).bind fun x => match x with
        | .dict qs => (toKv qs).bind fun more => if kvs.length + more.length ≤ sizeL then some (.d .none, st.set n (.dct (mergeD kvs more))) else none
        | _ => none
      | _ => none
    | _ => none
  | m => (dat st o).bind fun x => (dat st a).bind fun y => (mt1D m x y).map fun z => (.d z, st)
def mt0S (m : M0) (o : Vl) (st : Sto) : Option (Vl × Sto) := match m with
  | .pop => (dat st o).bind fun y => match y with
    | .list xs => (xs[xs.length - 1]?).bind fun z => (setL st o xs.dropLast).map fun st' => (.d z, st')
    | _ => none
def isDct : Option PyData → Bool
  | some (.dict _) => true
  | _ => false
def getS (x : PyData) (k v : Vl) (st : Sto) : Option (Vl × Sto) := match x, k, v with
  | .dict kvs, .d (.str z), .d y => (toKv kvs).map fun qs => (.d ((lookD qs z).getD y), st)
  | _, _, _ => none
/-- what a method is asked of -/
def rcvOk (m : M1) (v : Vl) (st : Sto) : Bool := match m, dat st v with
  | .app, some (.list _) => true
  | .ext, some (.list _) => true
  | .upd, some (.dict _) => match v with
    | .r _ => true
    | _ => false
  | .join, some (.str _) => true
  | .starts, some (.str _) => true
  | .split, some (.str _) => true
  | .index, some (.tuple _) => true
  | _, _ => false
/-- the script's items, its length -/
def scrOf : Vl → Option (List Int)
  | .s ns => some ns
  | _ => none
def ixS (o i : Vl) (st : Sto) : Option (Vl × Sto) := match scrOf o with
  | some ns => match i with
    | .d (.int k) => (L2.atI ns k).map fun n => (.d (.int n), st)
    | _ => none
  | none => (dat st o).bind fun x => (dat st i).bind fun y => (ixD x y).map fun z => (.d z, st)
def fn1S (f : F1) (a : Vl) (st : Sto) : Option (Vl × Sto) := match f, scrOf a with
  | .len, some ns => some (.d (.int ns.length), st)
  | f, _ => (dat st a).bind fun x => (fn1D f x).map fun z => (.d z, st)
def fldS (c : Nat) (o : Vl) (a : Str) (st : Sto) : Option (Vl × Sto) := match o with
  | .r n => match st[n]? with
    | some (.ins c' fs) => if c' = c then match fs.lookup a with
      | some (.d x) => some (.d x, st)
      | some (.l _) => some (.f n a, st)
      | none => none
      else none
    | _ => none
  | _ => none
/-- o.a = x; a field that holds an owned list is not written -/
def setfS (c : Nat) (o : Vl) (a : Str) (x : Fl) (st : Sto) : Option Sto := match o with
  | .r n => match st[n]? with
    | some (.ins c' fs) => if c' = c then match fs.lookup a with
      | some (.l _) => none
      | _ => if fs.length < 100 then some (st.set n (.ins c (putF a x fs))) else none
      else none
    | _ => none
  | _ => none
/-- o.a = [], a new field -/
def setlS (c : Nat) (o : Vl) (a : Str) (st : Sto) : Option Sto := match o with
  | .r n => match st[n]? with
    | some (.ins c' fs) => if c' = c ∧ (fs.lookup a).isNone ∧ fs.length < 100 then some (st.set n (.ins c (fs ++ [(a, .l [])]))) else none
    | _ => none
  | _ => none
def intOf : Vl → Option Int
  | .d (.int i) => some i
  | _ => none

/-- a list or a tuple that is walked; g: the items as they come -/
def seqI (g : List PyData → List PyData) (v : Vl) (st : Sto) : Option ((List PyData × Bool) × Sto) := match v with
  | .d (.list xs) => some ((g xs, true), st)
  | .d (.tuple xs) => some ((g xs, true), st)
  | .d _ => none
  | v => match dat st v with
    | some (.list xs) => some ((g xs, false), st)
    | _ => none
/-- a text's signs -/
def chrs (z : Str) : List PyData := z.cps.toList.map fun c => .str ⟨#[c]⟩
/-- what is walked: a list, a tuple, a text -/
def seqT (v : Vl) (st : Sto) : Option ((List PyData × Bool) × Sto) := match v with
  | .d (.str z) => if z.length ≤ sizeL then some ((chrs z, true), st) else none
  | .s ns => if ns.length ≤ sizeL then some ((ns.map .int, true), st) else none
  | v => seqI id v st
/-- one item of a comprehension -/
def compF (tg : Tg) (mt : En → Sto → Option (Bool × Sto)) (me : En → Sto → Option (Vl × Sto)) (ρ : En) (x : PyData) (st : Sto) : Option (Option PyData × Sto) :=
  (tgS tg x (wipeE ρ (tgIs tg))).bind fun ρ' => (mt ρ' st).bind fun b => if b.1 then (me ρ' b.2).bind fun v => (dOf v.1).map fun y => (some y, v.2) else some (none, b.2)
/-- tuple(sorted(d.items())) -/
def ptsiS (v : Vl) (st : Sto) : Option (Vl × Sto) := match v with
  | .r n => match st[n]? with
    | some (.dct q) => if rises (q.map (·.1)) && q.all (fun p => isIntD p.2) && decide (q.length < 1000) then some (.r st.length, st ++ [.ptup (q.map fun p => .tuple [.str p.1, p.2])]) else none
    | _ => none
  | _ => none
/-- dict(x), x such a tuple -/
def ndcpS (o : Option (Option Vl)) (st : Sto) : Option (Vl × Sto) := match o with
  | some (some (.r n)) => match st[n]? with
    | some (.ptup xs) => (prsOf xs).map fun q => (.r st.length, st ++ [.dct (mergeD [] q)])
    | _ => none
  | _ => none
/-- no function that was made in a def -/
def noClo (st : Sto) : Bool := st.all fun m => match m with
  | .clo _ _ => false
  | _ => true
/-- what a made function has captured -/
def capD (ρ : En) : List Nat → Option (List PyData)
  | [] => some []
  | i :: is => match ρ[i]? with
    | some (some (.d x)) => (capD ρ is).map (x :: ·)
    | _ => none
def isTab (j : Nat) : Option MO → Bool
  | some (.tab i) => i == j
  | _ => false
def noVal : Option (Option Vl) → Bool
  | some none => true
  | _ => false
/-- f(.., g), g a function just made -/
def retlS (C : CallF) (f j k : Nat) (ws : Option (List PyData)) (vs : List Vl) (st : Sto) : Option (PyData × Sto) := if isTab j st[j]? && noClo st then
    ws.bind fun ws => (C f (vs ++ [.r st.length]) (st ++ [.clo k ws])).bind fun q => if noClo (q.2.take st.length) then some (q.1, q.2.take st.length) else none
  else none
def isClo (o : Option (Option Vl)) (st : Sto) : Bool := match o with
  | some (some (.r n)) => match st[n]? with
    | some (.clo _ _) => true
    | _ => false
  | _ => false
/-- g(..), g a name that holds a made function -/
def callvS (C : CallF) (o : Option (Option Vl)) (vs : List Vl) (st : Sto) : Option (Vl × Sto) := match o with
  | some (some (.r n)) => match st[n]? with
    | some (.clo k ws) => if noClo (st.set n .dead) then (C k (vs ++ ws.map .d) (st.set n .dead)).bind fun q => match q.2[n]? with
      | some .dead => some (.d q.1, q.2.set n (.clo k ws))
      | _ => none
      else none
    | _ => none
  | _ => none
section
variable (C I : CallF)
mutual
def evE : E → En → Sto → Option (Vl × Sto)
  | .var i, ρ, st => match ρ[i]? with
    | some (some v) => some (v, st)
    | _ => none
  | .cst c, _, st => some (.d c, st)
  | .glb _ c, _, st => some (.d c, st)
  | .tup es, ρ, st => (evEs es ρ st).bind fun p => if p.1.length ≤ sizeL then (allD p.1).map fun xs => (.d (.tuple xs), p.2) else none
  | .lst es, ρ, st => (evEs es ρ st).bind fun p => if p.1.length ≤ sizeL then (allD p.1).map fun xs => (.d (.list xs), p.2) else none
  | .nlst es, ρ, st => (evEs es ρ st).bind fun p => if p.1.length ≤ sizeL then (allD p.1).map fun xs => (.r p.2.length, p.2 ++ [.lst xs]) else none
  | .nadd a b, ρ, st => (evE a ρ st).bind fun p => (evE b ρ p.2).bind fun q => (dat q.2 p.1).bind fun x => (dat q.2 q.1).bind fun y => (catL x y).map fun z => (.r q.2.length, q.2 ++ [.lst z])
  | .ndct es, ρ, st => (evEs es ρ (st ++ [.dct []])).bind fun p => (pairUp p.1).bind fun q => if q.length ≤ 15 then ndctS st.length q p.2 else none
  | .ndc1 a, ρ, st => (evE a ρ st).bind fun p => (dat p.2 p.1).bind fun x => (dctOf x).map fun q => (.r p.2.length, p.2 ++ [.dct q])
  | .ndcz a b, ρ, st => (evE a ρ st).bind fun p => (evE b ρ p.2).bind fun q => (zipOf [p.1, q.1]).map fun kv => (.r q.2.length, q.2 ++ [.dct kv])
  | .bin o a b, ρ, st => (evE a ρ st).bind fun p => (evE b ρ p.2).bind fun q => (dat q.2 p.1).bind fun x => (dat q.2 q.1).bind fun y => (binD o x y).map fun z => (.d z, q.2)
  | .neg a, ρ, st => (evE a ρ st).bind fun p => (intOf p.1).map fun i => (.d (.int (-i)), p.2)
  | .cmp o a b, ρ, st => (evE a ρ st).bind fun p => (evE b ρ p.2).bind fun q => (dat q.2 p.1).bind fun x => (dat q.2 q.1).bind fun y => (cmpD o x y).map fun z => (.d (.bool z), q.2)
  | .chn o o' a b c, ρ, st => (evE a ρ st).bind fun p => (evE b ρ p.2).bind fun q => (dOf p.1).bind fun x => (dOf q.1).bind fun y => (cmpD o x y).bind fun k =>
      if k then (evE c ρ q.2).bind fun s => (dOf s.1).bind fun z => (cmpD o' y z).map fun k' => (.d (.bool k'), s.2) else some (.d (.bool false), q.2)
  | .isn pos a, ρ, st => (evE a ρ st).map fun p => (.d (.bool (match p.1 with | .d .none => pos | _ => !pos)), p.2)
  | .ix a b, ρ, st => (evE a ρ st).bind fun p => (evE b ρ p.2).bind fun q => ixS p.1 q.1 q.2
  | .sl a lo hi, ρ, st => (evE a ρ st).bind fun p => (evO lo ρ p.2).bind fun q => (evO hi ρ q.2).bind fun s => (dat s.2 p.1).bind fun x => (slD x q.1 s.1).map fun z => (.d z, s.2)
  | .rev a, ρ, st => (evE a ρ st).bind fun p => match p.1 with
    | .d (.tuple xs) => some (.d (.tuple xs.reverse), p.2)
    | _ => none
  | .isi t a, ρ, st => (evE a ρ st).bind fun p => (dOf p.1).map fun x => (.d (.bool (isiD t x)), p.2)
  | .fn1 f a, ρ, st => (evE a ρ st).bind fun p => fn1S f p.1 p.2
  | .band a es, ρ, st => (evE a ρ st).bind fun p => (boolOf p.1).bind fun k => if k then evAnd es ρ p.2 else some (.d (.bool false), p.2)
  | .bor a es, ρ, st => (evE a ρ st).bind fun p => (boolOf p.1).bind fun k => if k then some (.d (.bool true), p.2) else evOr es ρ p.2
  | .nt a, ρ, st => (evE a ρ st).bind fun p => (boolOf p.1).map fun k => (.d (.bool (!k)), p.2)
  | .call f es, ρ, st => (evEs es ρ st).bind fun p => (C f p.1 p.2).map fun q => (.d q.1, q.2)
  | .calln f es, ρ, st => (evEs es ρ st).bind fun p => (C (f + 1000) p.1 p.2).bind fun q => newD q.1 q.2
  | .meth o c m f es, ρ, st => (evE o ρ st).bind fun p => match p.1 with
    | .r n => match p.2[n]? with
      | some (.ins c' fs) => if c' = c ∧ (fs.lookup m).isNone then (evEs es ρ p.2).bind fun q => (C f (.r n :: q.1) q.2).map fun s => (.d s.1, s.2) else none
      | _ => none
    | _ => none
  | .make c f es, ρ, st => (evEs es ρ st).bind fun p => (I f (.r p.2.length :: p.1) (p.2 ++ [.ins c []])).bind fun q => match q.1 with
    | .none => some (.r p.2.length, q.2)
    | _ => none
  | .fld c o a, ρ, st => (evE o ρ st).bind fun p => fldS c p.1 a p.2
  | .mt1 m o a, ρ, st => (evE o ρ st).bind fun p => if rcvOk m p.1 p.2 then (evE a ρ p.2).bind fun q => mt1S m p.1 q.1 q.2 else none
  | .mt0 m o, ρ, st => (evE o ρ st).bind fun p => mt0S m p.1 p.2
  | .get o k v, ρ, st => (evE o ρ st).bind fun p => if isDct (dat p.2 p.1) then (evE k ρ p.2).bind fun q => (evE v ρ q.2).bind fun s => (dat s.2 p.1).bind fun x => getS x q.1 s.1 s.2 else none
  | .ptsi a, ρ, st => (evE a ρ st).bind fun p => ptsiS p.1 p.2
  | .ndcp i, ρ, st => ndcpS (ρ[i]?) st
  | .callv i es, ρ, st => if isClo (ρ[i]?) st then (evEs es ρ st).bind fun p => callvS C (ρ[i]?) p.1 p.2 else none
  | .comp elt tg it cond, ρ, st => (evI it ρ st).bind fun p => if p.1.2 || (pureE elt && pureO cond) then
      (compS (compF tg (evC cond) (evE elt) ρ) p.1.1 p.2).map fun q => (.d (.list q.1), q.2) else none
def evEs : Es → En → Sto → Option (List Vl × Sto)
  | .nil, _, st => some ([], st)
  | .cons e es, ρ, st => (evE e ρ st).bind fun p => (evEs es ρ p.2).map fun q => (p.1 :: q.1, q.2)
/-- the rest of an and, of an or -/
def evAnd : Es → En → Sto → Option (Vl × Sto)
  | .nil, _, _ => none
  | .cons e es, ρ, st => (evE e ρ st).bind fun p => match es with
    | .nil => some p
    | .cons e' es' => (boolOf p.1).bind fun k => if k then evAnd (.cons e' es') ρ p.2 else some (.d (.bool false), p.2)
def evOr : Es → En → Sto → Option (Vl × Sto)
  | .nil, _, _ => none
  | .cons e es, ρ, st => (evE e ρ st).bind fun p => match es with
    | .nil => some p
    | .cons e' es' => (boolOf p.1).bind fun k => if k then some (.d (.bool true), p.2) else evOr (.cons e' es') ρ p.2
/-- a slice's bound -/
def evO : Oe → En → Sto → Option (Option Int × Sto)
  | .none, _, st => some (none, st)
  | .some e, ρ, st => (evE e ρ st).bind fun p => (intOf p.1).map fun i => (some i, p.2)
/-- a comprehension's test -/
def evC : Oe → En → Sto → Option (Bool × Sto)
  | .none, _, st => some (true, st)
  | .some e, ρ, st => (evE e ρ st).bind fun p => (boolOf p.1).map fun k => (k, p.2)
/-- the items that are walked; true: nothing can change them -/
def evI : Iv → En → Sto → Option ((List PyData × Bool) × Sto)
  | .seq e, ρ, st => (evE e ρ st).bind fun p => seqT p.1 p.2
  | .keys e, ρ, st => (evE e ρ st).bind fun p => (keysOf p.1).map fun q => ((q, true), p.2)
  | .rng .none .none e, ρ, st => (evE e ρ st).bind fun p => (intOf p.1).bind fun n => if -(2 ^ 62) ≤ n ∧ n < 2 ^ 24 then some ((rngL 0 n.toNat, true), p.2) else none
  | .rng (.some a) .none e, ρ, st => (evE a ρ st).bind fun p => (evE e ρ p.2).bind fun q => (intOf p.1).bind fun lo => (intOf q.1).bind fun n => if (0 ≤ lo ∧ lo < 2 ^ 24) ∧ 0 ≤ n ∧ n < 2 ^ 24 then some ((rngL lo (n - lo).toNat, true), q.2) else none
  | .rng _ (.some _) _, _, _ => none
  | .enm e, ρ, st => (evE e ρ st).bind fun p => seqI (enmL 0) p.1 p.2
  | .zip a b, ρ, st => (evE a ρ st).bind fun p => (evE b ρ p.2).bind fun q => (zipT p.1 q.1).map fun z => ((z, true), q.2)
end
mutual
def evS : S → En → Sto → Option (Out × En × Sto)
  | .frz i, ρ, st => (frzS ρ st ρ[i]?).map fun p => (.nx, p.1, p.2)
  | .asg i e, ρ, st => (evE C I e ρ st).map fun p => (.nx, ρ.set i (some p.1), p.2)
  | .unp is e, ρ, st => (evE C I e ρ st).bind fun p => (dOf p.1).bind fun x => (tgS (.tp is) x ρ).map fun ρ' => (.nx, ρ', p.2)
  | .seti o k v, ρ, st => (evE C I v ρ st).bind fun p => (evE C I o ρ p.2).bind fun q => (evE C I k ρ q.2).bind fun s => match p.1, q.1, s.1 with
    | .d x, .r n, .d (.str z) => match s.2[n]? with
      | some (.dct kvs) => if kvs.length < sizeL then some (.nx, ρ, s.2.set n (.dct (putD kvs z x))) else none
      | _ => none
    | _, _, _ => none
  | .setf c o a e, ρ, st => (evE C I e ρ st).bind fun p => (evE C I o ρ p.2).bind fun q => (dOf p.1).bind fun x => (setfS c q.1 a (.d x) q.2).map fun st' => (.nx, ρ, st')
  | .setl c o a, ρ, st => (evE C I o ρ st).bind fun q => (setlS c q.1 a q.2).map fun st' => (.nx, ρ, st')
  | .exp e, ρ, st => (evE C I e ρ st).map fun p => (.nx, ρ, p.2)
  | .ret e, ρ, st => (evE C I e ρ st).map fun p => (.ret p.1, ρ, p.2)
  | .retN, ρ, st => some (.ret (.d .none), ρ, st)
  | .retl f es j k js, ρ, st => (evEs C I es ρ st).bind fun p => (retlS C f j k (capD ρ js) p.1 p.2).map fun q => (.ret (.d q.1), ρ, q.2)
  | .retd f es j k js i, ρ, st => if noVal (ρ[i]?) && isTab j st[j]? then (evEs C I es ρ st).bind fun p => (retlS C f j k (capD ρ js) p.1 p.2).map fun q => (.ret (.d q.1), ρ, q.2) else none
  | .ite c a b, ρ, st => (evE C I c ρ st).bind fun p => (boolOf p.1).bind fun k => if k then evSs a ρ p.2 else evSs b ρ p.2
  | .fors tg it b, ρ, st => (evI C I it ρ st).bind fun p => if p.1.2 then forS (fun x ρ st => (tgS tg x ρ).bind fun ρ' => evSs b ρ' st) p.1.1 ρ p.2 else none
  | .whl k c b, ρ, st => whlS (fun ρ st => (evE C I c ρ st).bind fun p => (boolOf p.1).map fun k => (k, p.2)) (fun ρ st => evSs b ρ st) k ρ st
  | .brk, ρ, st => some (.brk, ρ, st)
  | .cnt, ρ, st => some (.cnt, ρ, st)
  | .pas, ρ, st => some (.nx, ρ, st)
def evSs : Ss → En → Sto → Option (Out × En × Sto)
  | .nil, ρ, st => some (.nx, ρ, st)
  | .cons s ss, ρ, st => (evS s ρ st).bind fun p => match p.1 with
    | .nx => evSs ss p.2.1 p.2.2
    | o => some (o, p.2.1, p.2.2)
end
end

/-- a def: its name, parameters, names by slot, body; a method's class -/
structure Fn where
  nm : Str
  ps : List Str
  N : List Str
  body : Ss
  cls : Option Nat := none
  cap : Option Nat := none
  crt : Option (Nat × Nat) := none
/-- a returned value: data; a list or dict that was made in the call becomes data -/
def retD (L : Nat) (st : Sto) : Vl → Option PyData
  | .d x => some x
  | .r n => if L ≤ n then dat st (.r n) else none
  | .f _ _ => none
  | .s _ => none
def finS (L : Nat) : Out × En × Sto → Option (PyData × Sto)
  | (.nx, _, st) => some (.none, st.take L)
  | (.ret v, _, st) => (retD L st v).map fun x => (x, st.take L)
  | _ => none
def startE (N : List Str) (vs : List Vl) : En := vs.map some ++ List.replicate (N.length - vs.length) none
/-- a dict that was made in the call, handed out as it is -/
def finN (L : Nat) : Out × En × Sto → Option (PyData × Sto)
  | (.ret (.r n), _, st) => if L ≤ n then match st[n]? with
    | some (.dct kvs) => some (kvD kvs, st.take L)
    | _ => none
    else none
  | _ => none
def finF (f L : Nat) (o : Out × En × Sto) : Option (PyData × Sto) := if f < 1000 then finS L o else finN L o
def evF (C I : CallF) (P : List Fn) (f : Nat) (vs : List Vl) (st : Sto) : Option (PyData × Sto) := match P[f % 1000]? with
  | some d => if vs.length = d.ps.length then (evSs C I d.body (startE d.N vs) st).bind (finF f st.length) else none
  | none => none
def noC : CallF := fun _ _ _ => none
/-- __init__ of a class: no calls in it -/
def ini (P : List Fn) : CallF := evF noC noC P
/-- n calls deep -/
def run (P : List Fn) : Nat → CallF
  | 0 => noC
  | n + 1 => evF (run P n) (if 2 ≤ n then ini P else noC) P
theorem toKv_kvD : ∀ (q : List (Str × PyData)), toKv (q.map fun p => (.str p.1, p.2)) = some q
  | [] => rfl
  | (k, v) :: q => by
    show (toKv (q.map fun p => (.str p.1, p.2))).map _ = _
    rw [toKv_kvD q]; rfl
theorem rngL_len (lo : Int) (n : Nat) : (rngL lo n).length = n := by
  induction n generalizing lo with
  | zero => rfl
  | succ n ih => unfold rngL; rw [List.length_cons, ih]
end Tw
set_option Elab.async false
set_option linter.all false
set_option maxRecDepth 100000
set_option maxHeartbeats 4000000
/-! C3g: functions made in a def and handed on: made, called; their cells told while others run. -/
namespace Tw
open PySem PySem.Spec PyProof.Rows L2 LamX NdefX
/-- a cell, by its very object -/
def CelO (c : Addr) (o : Obj) : HO := .ext fun h => h.get? c = some o
/-- the words of a made function -/
structure CW where
  name : Str
  params : Arguments
  body : FuncBody
  scope : Scope
  qual : Str
abbrev cfd (W : CW) (cl : List (Str × Addr)) (c : Addr) (doc pm ctv : Value) : FuncData where
  name := W.name
  qualname := W.qual
  params := W.params
  body := W.body
  scope := W.scope
  globals := mainGlobals
  closure := cl
  defaults := .none
  kwdefaults := .none
  doc := doc
  pyModule := pm
  annotations := none
  code := .ref c
  closureTuple := ctv
  builtins := builtinsNs
def CloO (f : Addr) (W : CW) (cl : List (Str × Addr)) (c : Addr) : HO := .ext fun h => ∃ (od : Option Addr) (sl : Array (Option Value)) (doc pm ctv : Value), h.get? f = some (⟨.type "function", od, .func (cfd W cl c doc pm ctv), sl⟩ : Obj)
/-- what carries its context -/
abbrev nfOf (W : CW) (cl : List (Str × Addr)) (c : Addr) : NF := ⟨W.name, W.qual, W.params, [], W.scope, cl, c⟩
theorem celO_ok {P : Program} {w : World} {H : Hp} {h : Heap} {c : Addr} {o : Obj} (e : h.get? c = some o) : ObjOk P w H h c (CelO c o) := ⟨e, ⟨_, e⟩, fun _ _ x k => k _ x⟩
theorem cloO_at {P : Program} {w : World} {H : Hp} {h : Heap} {f c : Addr} {W : CW} {cl : List (Str × Addr)} (hok : HOk P w H h) (e : H f = some (CloO f W cl c)) : ∃ (od : Option Addr) (sl : Array (Option Value)) (doc pm ctv : Value), h.get? f = some (⟨.type "function", od, .func (cfd W cl c doc pm ctv), sl⟩ : Obj) := by
  obtain ⟨z, _, _⟩ := hok f _ e
  exact z
section
variable {X : Cx} {pins : List (Addr × Obj)} {σ : L2.St} {H : Hp} {s : Shared}
theorem invClo {W : CW} {cl : List (Str × Addr)} {c : Addr} {o : Obj} {t' : Nat} {doc pm ctv : Value} (I : Inv X pins σ H s) (ho : o = { cls := .type "function", data := .func (cfd W cl c doc pm ctv) }) :
    Inv X pins σ (upd H s.heap.objs.size (CloO s.heap.objs.size W cl c)) { s with heap := s.heap.push o, toks := t' } := by
  subst ho
  refine I.laid (a := s.heap.objs.size) (fun b u e => Heap.get?_push_of_some _ e) (Nat.le_refl _) ?_
  have e : (s.heap.push ({ cls := .type "function", data := .func (cfd W cl c doc pm ctv) } : Obj)).get? s.heap.objs.size = some ({ cls := .type "function", data := .func (cfd W cl c doc pm ctv) } : Obj) := Heap.get?_push_size _ rfl
  exact ⟨⟨_, _, doc, pm, ctv, e⟩, ⟨_, e⟩, fun _ _ ⟨od, sl, d, p, t, z⟩ st => ⟨od, sl, d, p, t, st _ z⟩⟩
/-- what the making leaves: the code object was in the table, or is new there -/
def MadeC (H : Hp) (P : Addr) (ps : Array Value) (q : Str) (pos : Pos) (c' : Addr) (H1 : Hp) : Prop :=
  (H1 = H ∧ codeAmong pos ps.toList = some (.ref c')) ∨ (H c' = none ∧ H1 = upd (upd H P (.tbl (ps ++ #[rawInt pos.line, rawInt pos.col, .ref c']))) c' (CodeO c' q))
theorem lamMake {c P : Addr} {ps : Array Value} {q : Str} {params : Arguments} {body : Expr} {scope : Scope} {pos : Pos} {E : Value → Shared → Prop} {Q : Value → Shared → Prop} (I : Inv X pins σ H s) (TB : TabB X.base X.mg c P) (hcode : X.env.code = .ref c)
    (hq : X.env.qual ++ "<lambda>" = q) (hP : H P = some (.tbl ps)) (ht : TriplesOk ps.toList) (ha : ∀ cv, codeAmong pos ps.toList = some cv → ∃ c, cv = .ref c) (hdef : defaultsOf params X.env = ([], [])) (hfree : ∀ y ∈ scope.names, y.2 = .free → ∃ c, X.env.cells.lookup y.1 = some c)
    (h : ∀ (f c' : Addr) (H1 : Hp) (s' : Shared), MadeC H P ps q pos c' H1 → H1 f = none → Inv X pins σ (upd H1 f (CloO f ⟨"<lambda>", params, .expr body, scope, q⟩ (cloFrom X.env.cells scope.names []) c')) s' → Q (.ref f) s') :
    wpAny (model X.prog X.w) X.A (eval (.Lambda params body scope pos) X.env) Q E s := by
  refine PySem.W.kla_eval hdef ?_
  rw [hq]
  have bP : s.heap.BuiltinsAt X.mg P := TB.bm.keeps I.bk
  have hP' : s.heap.get? P = some { cls := .none, data := .fields ps } := I.hok P _ hP
  cases hc : codeAmong pos ps.toList with
  | none =>
    refine PySem.W.kla_makeFunction (mg := X.mg) (c := c) (P := P) (ps := ps) (closure_ok hfree) I.ok.glob (I.mod.glob.keeps I.bk) hcode (TB.code.keeps I.bk) hP' ht hc TB.gP bP fun c' ctv h' tk hx hge hlt hrec htb => ?_
    obtain ⟨c2, oc, vs, t, e2, hoc, hd, hv⟩ := hrec
    cases e2
    have I1 := inv_table (t' := tk) (more := #[rawInt pos.line, rawInt pos.col, .ref c']) (h' := h') I hP (fun b o hb e => hx b o hb e) htb hge ⟨oc, vs, t, hoc, hd, hv⟩
    have I2 := invClo (W := ⟨"<lambda>", params, .expr body, scope, q⟩) (cl := cloFrom X.env.cells scope.names []) (c := c') (t' := tk) (doc := .none) (pm := (X.mg "__name__").getD .none) (ctv := ctv) I1 rfl
    exact h _ c' _ _ (.inr ⟨I.hok.fresh hge, rfl⟩) (I1.hok.fresh (Nat.le_refl _)) I2
  | some cv =>
    obtain ⟨c', rfl⟩ := ha cv hc
    refine PySem.W.kla_makeFunctionHit (mg := X.mg) (c := c) (P := P) (ps := ps) (closure_ok hfree) I.ok.glob (I.mod.glob.keeps I.bk) hcode (TB.code.keeps I.bk) hP' ht hc bP fun ctv h' tk hx hsz => ?_
    have I1 : Inv X pins σ H { s with heap := h', toks := tk } := I.kept hx
    have I2 := invClo (W := ⟨"<lambda>", params, .expr body, scope, q⟩) (cl := cloFrom X.env.cells scope.names []) (c := c') (t' := tk) (doc := .none) (pm := (X.mg "__name__").getD .none) (ctv := ctv) I1 rfl
    exact h _ c' _ _ (.inl ⟨rfl, hc⟩) (I1.hok.fresh (Nat.le_refl _)) I2
theorem defMake {c P : Addr} {ps : Array Value} {q name : Str} {params : Arguments} {body : List Stmt} {scope : Scope} {pos : Pos} {E : Value → Shared → Prop} {Q : Value → Shared → Prop} (I : Inv X pins σ H s) (TB : TabB X.base X.mg c P) (hcode : X.env.code = .ref c)
    (hP : H P = some (.tbl ps)) (ht : TriplesOk ps.toList) (ha : ∀ cv, codeAmong pos ps.toList = some cv → ∃ c, cv = .ref c) (hfree : ∀ y ∈ scope.names, y.2 = .free → ∃ c, X.env.cells.lookup y.1 = some c)
    (h : ∀ (f c' : Addr) (H1 : Hp) (s' : Shared), MadeC H P ps q pos c' H1 → H1 f = none → Inv X pins σ (upd H1 f (CloO f ⟨name, params, .stmts body, scope, q⟩ (cloFrom X.env.cells scope.names []) c')) s' → Q (.ref f) s') :
    wpAny (model X.prog X.w) X.A (makeFunction name q params (.stmts body) scope X.env [] [] [] pos pos.line) Q E s := by
  have bP : s.heap.BuiltinsAt X.mg P := TB.bm.keeps I.bk
  have hP' : s.heap.get? P = some { cls := .none, data := .fields ps } := I.hok P _ hP
  cases hc : codeAmong pos ps.toList with
  | none =>
    refine PySem.W.makeFunction_K (mg := X.mg) (c := c) (P := P) (ps := ps) (closure_ok hfree) I.ok.glob (I.mod.glob.keeps I.bk) hcode (TB.code.keeps I.bk) hP' ht hc TB.gP bP fun c' ctv doc h' tk hx hge hlt hrec htb => ?_
    obtain ⟨c2, oc, vs, t, e2, hoc, hd, hv⟩ := hrec
    cases e2
    have I1 := inv_table (t' := tk) (more := #[rawInt pos.line, rawInt pos.col, .ref c']) (h' := h') I hP (fun b o hb e => hx b o hb e) htb hge ⟨oc, vs, t, hoc, hd, hv⟩
    have I2 := invClo (W := ⟨name, params, .stmts body, scope, q⟩) (cl := cloFrom X.env.cells scope.names []) (c := c') (t' := tk) (doc := doc) (pm := (X.mg "__name__").getD .none) (ctv := ctv) I1 rfl
    exact h _ c' _ _ (.inr ⟨I.hok.fresh hge, rfl⟩) (I1.hok.fresh (Nat.le_refl _)) I2
  | some cv =>
    obtain ⟨c', rfl⟩ := ha cv hc
    refine PySem.W.makeFunction_hit (mg := X.mg) (c := c) (P := P) (ps := ps) (closure_ok hfree) I.ok.glob (I.mod.glob.keeps I.bk) hcode (TB.code.keeps I.bk) hP' ht hc bP fun ctv doc h' tk hx hsz => ?_
    have I1 : Inv X pins σ H { s with heap := h', toks := tk } := I.kept hx
    have I2 := invClo (W := ⟨name, params, .stmts body, scope, q⟩) (cl := cloFrom X.env.cells scope.names []) (c := c') (t' := tk) (doc := doc) (pm := (X.mg "__name__").getD .none) (ctv := ctv) I1 rfl
    exact h _ c' _ _ (.inl ⟨rfl, hc⟩) (I1.hok.fresh (Nat.le_refl _)) I2
end
/-! ### the body -/
def CBody (X : Cx) (σ : L2.St) (H : Hp) (Q : VK) : FuncBody → Prop
  | .stmts b => ∃ t, PSs X b t ∧ t { nx := fun _ H' => Q .non H', rt := Q } σ H
  | .expr e => ∃ t, PE X e t ∧ t σ H Q
theorem cloRun {CX : CXT} {P : Program} {w : World} {K : PySem.W.Frag} {mg : Str → Option Value} {base : Heap} {N ps fr : List Str} {W : CW} {cl : List (Str × Addr)} {f c : Addr} {k : Nat} (S : NScope N ps fr W.scope)
    (hb : ∀ (doc pm ctv : Value) (us : List Value), us.length = ps.length → bindArgs (cfd W cl c doc pm ctv) ⟨us, []⟩ = pure (ps.zip us))
    {A : Around} {outer : List Env} {s : Shared} {H : Hp} {us : List Value} {vs : List V} {ws : List (Option V)} {Q : VK} {E : XK} (hr : Room (k + 1) A) (e0 : Env0 P w K mg base A outer s H) (hf : H f = some (CloO f W cl c)) (hc : H c = some (CodeO c W.qual))
    (C : CellsAt cl fr ws s.heap H) (r : Vals vs us) (hl : vs.length = ps.length)
    (hbody : Room k (A.deeper (envF (nfOf W cl c) f s.heap.objs.size)) → CBody (ncx CX P w K mg base N (nfOf W cl c) f A outer s H E) (startF N vs ws) H Q W.body) :
    codeAny (model P w) A (.call (.ref f) ⟨us, []⟩) (CR CX outer P w H s Q E) s := by
  have lim : s.heap.NoLimit := e0.mod.nolimit.keeps fun b o e => (e0.bs b o e).1
  obtain ⟨od, sl, doc, pm, ctv, ho⟩ := cloO_at e0.hok hf
  have hlu : us.length = ps.length := by rw [← r.length]; exact hl
  have hbd := hbody (hr.deeper _)
  have start : ∀ {h₁ : Heap} {tk : Nat}, (h₁.Ns s.heap.objs.size fun y => (ps.zip us).reverse.lookup y) → (∀ b o, s.heap.get? b = some o → h₁.get? b = some o) → Inv (ncx CX P w K mg base N (nfOf W cl c) f A outer s H E) [] (startF N vs ws) H { s with heap := h₁, toks := tk } :=
    fun hns kp => inv_startN S hr.hd e0 hl r C hns kp
  cases hB : W.body with
  | stmts b =>
    rw [hB] at hbd
    obtain ⟨t, ht, hq⟩ := hbd
    refine codeAny_call_function hr.depth ho rfl S.co S.gen hB (codeO_at e0.hok hc) ?_
    rw [hb doc pm ctv us hlu]
    refine wpAny_pure (wpAny_newFunctionEnv S.nocell (fun ⟨n, _⟩ hy => S.par n (List.of_mem_zip hy).1) (fun h₁ hns hsb => ⟨lim.fresh _ hsb, ?_⟩) S.kind)
    show codeAny _ _ (.func b (envF (nfOf W cl c) f s.heap.objs.size)) _ _
    refine codeAny_func ?_
    have kp : ∀ b o, s.heap.get? b = some o → h₁.get? b = some o := fun b o e => hsb.extBut b o (Nat.ne_of_lt (Heap.lt_size e)) (Heap.get?_push_of_some _ e)
    refine wpAny_mono (ht.run [] _ (startF N vs ws) H _ (start (tk := s.toks + (ps.zip us).length) hns kp) hq) (fun fl s' hs => ?_) fun e s' hs => hs
    have fin : ∀ {σ' : L2.St} {H' : Hp} {v : V} {u : Value}, Inv (ncx CX P w K mg base N (nfOf W cl c) f A outer s H E) [] σ' H' s' → L2.RelV v u → Q v H' → CE outer P w H s Q u s' :=
      fun {σ' H' v u} J rv q => ⟨v, H', J.os, J.bare, J.base, J.hok, rv, q⟩
    cases fl with
    | ret u => obtain ⟨v, σ', H', J, rv, q⟩ := hs; exact fin J rv q
    | next => obtain ⟨σ', H', J, q⟩ := hs; exact fin (v := V.non) (u := Value.none) J rfl q
    | brk => obtain ⟨_, _, _, q⟩ := hs; exact False.elim q
    | cont => obtain ⟨_, _, _, q⟩ := hs; exact False.elim q
  | expr e =>
    rw [hB] at hbd
    obtain ⟨t, ht, hq⟩ := hbd
    refine PySem.W.kla_callFunE hr.depth ho rfl S.co S.gen hB (codeO_at e0.hok hc) ?_
    rw [hb doc pm ctv us hlu]
    refine wpAny_pure (wpAny_newFunctionEnv S.nocell (fun ⟨n, _⟩ hy => S.par n (List.of_mem_zip hy).1) (fun h₁ hns hsb => ⟨lim.fresh _ hsb, ?_⟩) S.kind)
    show codeAny _ _ (.expr e (envF (nfOf W cl c) f s.heap.objs.size)) _ _
    have kp : ∀ b o, s.heap.get? b = some o → h₁.get? b = some o := fun b o e => hsb.extBut b o (Nat.ne_of_lt (Heap.lt_size e)) (Heap.get?_push_of_some _ e)
    refine PySem.W.kla_codeExpr (wpAny_mono (ht.run [] _ _ H Q (start (tk := s.toks + (ps.zip us).length) hns kp) hq) (fun v s' hv => ?_) fun e s' hv => hv)
    obtain ⟨w', H', J', rv, q⟩ := hv
    exact ⟨w', H', J'.os, J'.bare, J'.base, J'.hok, rv, q⟩
/-! ### cells told, and told no more -/
def trk (H : Hp) (cs : Addr → Option Obj) : Hp := fun a => match cs a with
  | some o => some (CelO a o)
  | none => H a
def unt (H : Hp) (cs : Addr → Option Obj) : Hp := fun a => match cs a with
  | some _ => none
  | none => H a
theorem trk_yes {H : Hp} {cs : Addr → Option Obj} {a : Addr} {o : Obj} (h : cs a = some o) : trk H cs a = some (CelO a o) := by unfold trk; rw [h]
theorem trk_no {H : Hp} {cs : Addr → Option Obj} {a : Addr} (h : cs a = none) : trk H cs a = H a := by unfold trk; rw [h]
theorem unt_yes {H : Hp} {cs : Addr → Option Obj} {a : Addr} {o : Obj} (h : cs a = some o) : unt H cs a = none := by unfold unt; rw [h]
theorem unt_no {H : Hp} {cs : Addr → Option Obj} {a : Addr} (h : cs a = none) : unt H cs a = H a := by unfold unt; rw [h]
theorem cs_of {H : Hp} {cs : Addr → Option Obj} (h1 : ∀ a o, cs a = some o → H a = none) {a : Addr} {u : HO} (h : H a = some u) : cs a = none := by
  cases e : cs a with
  | none => rfl
  | some o => rw [h1 a o e] at h; cases h
theorem cs_of' {H : Hp} {cs : Addr → Option Obj} (h1 : ∀ a o, cs a = some o → H a = some (CelO a o)) {a : Addr} {u : HO} (h : H a = some u) (ne : ∀ o, u ≠ CelO a o) : cs a = none := by
  cases e : cs a with
  | none => rfl
  | some o => rw [h1 a o e] at h; exact absurd (Option.some.inj h).symm (ne o)
section
variable {P : Program} {w : World} {K : PySem.W.Frag} {mg : Str → Option Value} {base : Heap} {A : Around} {outer : List Env} {s : Shared} {H H' : Hp} {cs : Addr → Option Obj} {h h' : Heap}
theorem HOk.trk (hok : HOk P w H h) (h1 : ∀ a o, cs a = some o → H a = none) (h2 : ∀ a o, cs a = some o → h.get? a = some o) : HOk P w (trk H cs) h := fun a u e => by
  cases q : cs a with
  | some o =>
    rw [trk_yes q] at e
    cases e
    exact celO_ok (h2 a o q)
  | none =>
    rw [trk_no q] at e
    exact (hok a u e).stay (fun _ _ _ z => z) (fun b z => by rw [trk_no (cs_of h1 z)]; exact z) fun b xs z => by rw [trk_no (cs_of h1 z)]; exact z
theorem HOk.unt (hok : HOk P w H h) (h1 : ∀ a o, cs a = some o → H a = some (CelO a o)) : HOk P w (unt H cs) h := fun a u e => by
  cases q : cs a with
  | some o => rw [unt_yes q] at e; cases e
  | none =>
    rw [unt_no q] at e
    exact (hok a u e).stay (fun _ _ _ z => z) (fun b z => by rw [unt_no (cs_of' h1 z fun o z => by cases z)]; exact z) fun b xs z => by rw [unt_no (cs_of' h1 z fun o z => by cases z)]; exact z
theorem env0_trk (e0 : Env0 P w K mg base A outer s H) (h1 : ∀ a o, cs a = some o → H a = none) (h2 : ∀ a o, cs a = some o → s.heap.get? a = some o) (h3 : ∀ a o, cs a = some o → a ∉ frs outer) (h4 : ∀ a o, cs a = some o → base.get? a = none) : Env0 P w K mg base A outer s (trk H cs) := by
  refine ⟨e0.frames, e0.mod, fun b o e => ⟨(e0.bs b o e).1, ?_⟩, e0.bsz, e0.funs, fun b hb => ?_, HOk.trk e0.hok h1 h2, e0.bare⟩
  · cases q : cs b with
    | none => rw [trk_no q]; exact (e0.bs b o e).2
    | some o' => rw [h4 b o' q] at e; cases e
  · cases q : cs b with
    | none => rw [trk_no q]; exact e0.frf b hb
    | some o' => exact absurd hb (h3 b o' q)
theorem env0_unt (e0 : Env0 P w K mg base A outer s H) (h1 : ∀ a o, cs a = some o → H a = some (CelO a o)) : Env0 P w K mg base A outer s (unt H cs) := by
  refine ⟨e0.frames, e0.mod, fun b o e => ⟨(e0.bs b o e).1, ?_⟩, e0.bsz, e0.funs, fun b hb => ?_, HOk.unt e0.hok h1, e0.bare⟩
  · cases q : cs b with
    | none => rw [unt_no q]; exact (e0.bs b o e).2
    | some o' => rw [unt_yes q]
  · cases q : cs b with
    | none => rw [unt_no q]; exact e0.frf b hb
    | some o' => rw [unt_yes q]
/-- behind a call that knew the cells -/
theorem un_trk {fs : List Addr} (u : Un fs [] (trk H cs) H' h h') (hok : HOk P w H' h') (h1 : ∀ a o, cs a = some o → H a = none) (h2 : ∀ a o, cs a = some o → h.get? a = some o) (h3 : ∀ a o, cs a = some o → H' a = some (CelO a o)) : Un fs [] H (unt H' cs) h h' := by
  have at' : ∀ a o, cs a = some o → h'.get? a = some o := fun a o q => (hok a _ (h3 a o q)).1
  refine ⟨fun b o e n hb hx => ?_, fun b o e n hb hx => ?_, fun b o e n hx => ?_, fun b o e hx => u.there b o e hx, fun b xs e => ?_, fun b o v e => ?_, fun b ps e => ?_⟩
  · cases q : cs b with
    | none => exact u.keep b o e (by rw [trk_no q]; exact n) hb hx
    | some o' => rw [h2 b o' q] at e; cases e; exact at' b _ q
  · cases q : cs b with
    | none => exact u.slot b o e (by rw [trk_no q]; exact n) hb hx
    | some o' => rw [h2 b o' q] at e; cases e; exact ⟨_, at' b _ q⟩
  · cases q : cs b with
    | none => rw [unt_no q]; exact u.free b o e (by rw [trk_no q]; exact n) hx
    | some o' => rw [unt_yes q]
  · have q := cs_of h1 e
    rw [unt_no q]; exact u.tups b xs (by rw [trk_no q]; exact e)
  · have q := cs_of h1 e
    rw [unt_no q]; exact u.frzs b o v (by rw [trk_no q]; exact e)
  · have q := cs_of h1 e
    rw [unt_no q]; exact u.tbls b ps (by rw [trk_no q]; exact e)
/-- behind a call that did not -/
theorem un_unt {fs : List Addr} (u : Un fs [] (unt H cs) H' h h') (h1 : ∀ a o, cs a = some o → H a = some (CelO a o)) : Un fs [] H (trk H' cs) h h' := by
  refine ⟨fun b o e n hb hx => ?_, fun b o e n hb hx => ?_, fun b o e n hx => ?_, fun b o e hx => u.there b o e hx, fun b xs e => ?_, fun b o v e => ?_, fun b ps e => ?_⟩
  · have q : cs b = none := by cases q : cs b with | none => rfl | some o' => rw [h1 b o' q] at n; cases n
    exact u.keep b o e (by rw [unt_no q]; exact n) hb hx
  · have q : cs b = none := by cases q : cs b with | none => rfl | some o' => rw [h1 b o' q] at n; cases n
    exact u.slot b o e (by rw [unt_no q]; exact n) hb hx
  · have q : cs b = none := by cases q : cs b with | none => rfl | some o' => rw [h1 b o' q] at n; cases n
    rw [trk_no q]; exact u.free b o e (by rw [unt_no q]; exact n) hx
  · have q := cs_of' h1 e fun o z => by cases z
    rw [trk_no q]; exact u.tups b xs (by rw [unt_no q]; exact e)
  · have q := cs_of' h1 e fun o z => by cases z
    rw [trk_no q]; exact u.frzs b o v (by rw [unt_no q]; exact e)
  · have q := cs_of' h1 e fun o z => by cases z
    rw [trk_no q]; exact u.tbls b ps (by rw [unt_no q]; exact e)
theorem hok_unt {fs : List Addr} (u : Un fs [] (unt H cs) H' h h') (hok : HOk P w H' h') (h2 : ∀ a o, cs a = some o → h.get? a = some o) (h3 : ∀ a o, cs a = some o → a ∉ fs) : HOk P w (trk H' cs) h' := by
  refine HOk.trk hok (fun a o q => u.free a o (h2 a o q) (unt_yes q) (by simp)) fun a o q => u.keep a o (h2 a o q) (unt_yes q) (h3 a o q) (by simp)
end
end Tw
set_option Elab.async false
set_option linter.all false
set_option maxRecDepth 100000
set_option maxHeartbeats 4000000
/-! C2: how data and the store lie in the heap. -/
namespace Tw
open PySem L2

abbrev Le (F F' : Hp) : Prop := ∀ a o, F a = some o → F' a = some o
theorem Le.rfl {F : Hp} : Le F F := fun _ _ h => h
theorem Le.trans {F F' F'' : Hp} (h : Le F F') (h' : Le F' F'') : Le F F'' := fun a o e => h' a o (h a o e)
theorem Le.upd {F : Hp} {p : Addr} {o : HO} (h : F p = none) : Le F (upd F p o) := fun a u e => by
  rw [upd_ne (ne_of_none e h)]; exact e

mutual
inductive Rp (K : PySem.W.Frag) (F : Hp) : V → PyData → Prop
  | non : Rp K F .non .none
  | bl (b : Bool) : Rp K F (.bl b) (.bool b)
  | int (i : Int) : Rp K F (.int i) (.int i)
  | str (x : Str) : Rp K F (.str x) (.str x)
  | lst {a : Addr} {xs : List V} {ds : List PyData} : F a = some (.lst xs) → ds.length ≤ sizeL → RpA K F xs ds → Rp K F (.ref a) (.list ds)
  | tup {a : Addr} {xs : List V} {ds : List PyData} : SqT K F a xs → ds.length ≤ sizeL → RpA K F xs ds → Rp K F (.ref a) (.tuple ds)
  | dct {a : Addr} {xs : List (Key × V)} {ds : List (PyData × PyData)} : Rd F a (.dK xs) → RpK K F xs ds → Rp K F (.ref a) (.dict ds)
inductive RpA (K : PySem.W.Frag) (F : Hp) : List V → List PyData → Prop
  | nil : RpA K F [] []
  | cons {v : V} {vs : List V} {d : PyData} {ds : List PyData} : Rp K F v d → RpA K F vs ds → RpA K F (v :: vs) (d :: ds)
inductive RpK (K : PySem.W.Frag) (F : Hp) : List (Key × V) → List (PyData × PyData) → Prop
  | nil : RpK K F [] []
  | cons {k : Str} {v : V} {vs : List (Key × V)} {d : PyData} {ds : List (PyData × PyData)} : Rp K F v d → RpK K F vs ds → RpK K F ((Sum.inr k, v) :: vs) ((.str k, d) :: ds)
end

theorem Rd.le {F F' : Hp} {a : Addr} {u : HO} (l : Le F F') (h : Rd F a u) : Rd F' a u := by
  rcases h with h | ⟨o, h⟩
  · exact .inl (l _ _ h)
  · exact .inr ⟨o, l _ _ h⟩
theorem SqT.le {K : PySem.W.Frag} {F F' : Hp} {a : Addr} {xs : List V} (l : Le F F') (h : SqT K F a xs) : SqT K F' a xs := by
  rcases h with (h | ⟨o, h⟩) | h
  · exact .inl (.inl (l _ _ h))
  · exact .inl (.inr ⟨o, l _ _ h⟩)
  · exact .inr h
section
variable {K : PySem.W.Frag} {F F' : Hp}
mutual
theorem Rp.le (l : Le F F') : ∀ {v : V} {d : PyData}, Rp K F v d → Rp K F' v d
  | _, _, .non => .non
  | _, _, .bl b => .bl b
  | _, _, .int i => .int i
  | _, _, .str x => .str x
  | _, _, .lst h z r => .lst (l _ _ h) z (RpA.le l r)
  | _, _, .tup h z r => .tup (SqT.le l h) z (RpA.le l r)
  | _, _, .dct h r => .dct (Rd.le l h) (RpK.le l r)
theorem RpA.le (l : Le F F') : ∀ {vs : List V} {ds : List PyData}, RpA K F vs ds → RpA K F' vs ds
  | _, _, .nil => .nil
  | _, _, .cons h r => .cons (Rp.le l h) (RpA.le l r)
theorem RpK.le (l : Le F F') : ∀ {vs : List (Key × V)} {ds : List (PyData × PyData)}, RpK K F vs ds → RpK K F' vs ds
  | _, _, .nil => .nil
  | _, _, .cons h r => .cons (Rp.le l h) (RpK.le l r)
end
theorem RpA.length : ∀ {vs : List V} {ds : List PyData}, RpA K F vs ds → vs.length = ds.length
  | _, _, .nil => rfl
  | _, _, .cons _ r => by rw [List.length_cons, List.length_cons, RpA.length r]
theorem RpA.append : ∀ {vs vs' : List V} {ds ds' : List PyData}, RpA K F vs ds → RpA K F vs' ds' → RpA K F (vs ++ vs') (ds ++ ds')
  | _, _, _, _, .nil, h => h
  | _, _, _, _, .cons h r, h' => .cons h (RpA.append r h')
theorem RpA.get : ∀ {vs : List V} {ds : List PyData} {i : Nat} {d : PyData}, RpA K F vs ds → ds[i]? = some d → ∃ v, vs[i]? = some v ∧ Rp K F v d
  | _, _, _, _, .nil, h => by simp at h
  | _, _, 0, _, .cons h _, e => by simp at e; subst e; exact ⟨_, rfl, h⟩
  | _, _, i + 1, _, .cons _ r, e => by
    obtain ⟨v, h1, h2⟩ := RpA.get r (i := i) (by simpa using e)
    exact ⟨v, by simpa using h1, h2⟩
theorem RpA.getV : ∀ {vs : List V} {ds : List PyData} {i : Nat} {v : V}, RpA K F vs ds → vs[i]? = some v → ∃ d, ds[i]? = some d ∧ Rp K F v d
  | _, _, _, _, .nil, h => by simp at h
  | _, _, 0, _, .cons h _, e => by simp at e; subst e; exact ⟨_, rfl, h⟩
  | _, _, i + 1, _, .cons _ r, e => by
    obtain ⟨v, h1, h2⟩ := RpA.getV r (i := i) (by simpa using e)
    exact ⟨v, by simpa using h1, h2⟩
theorem RpA.drop : ∀ {vs : List V} {ds : List PyData} (n : Nat), RpA K F vs ds → RpA K F (vs.drop n) (ds.drop n)
  | _, _, 0, h => h
  | _, _, _ + 1, .nil => .nil
  | _, _, n + 1, .cons _ r => RpA.drop n r
theorem RpA.take : ∀ {vs : List V} {ds : List PyData} (n : Nat), RpA K F vs ds → RpA K F (vs.take n) (ds.take n)
  | _, _, 0, _ => .nil
  | _, _, _ + 1, .nil => .nil
  | _, _, n + 1, .cons h r => .cons h (RpA.take n r)
theorem RpA.reverse {vs : List V} {ds : List PyData} (h : RpA K F vs ds) : RpA K F vs.reverse ds.reverse := by
  induction vs generalizing ds with
  | nil => cases h; exact .nil
  | cons v vs ih =>
    cases h with
    | cons h r =>
      rw [List.reverse_cons, List.reverse_cons]
      exact RpA.append (ih r) (.cons h .nil)
theorem RpA.ints : ∀ {vs : List V} {ds : List PyData} {ns : List Int}, RpA K F vs ds → intsD ds = some ns → vs = ns.map V.int
  | _, _, _, .nil, e => by cases e; rfl
  | _, _, _, .cons (d := .int i) h r, e => by
    simp only [intsD, Option.map_eq_some_iff] at e
    obtain ⟨ms, e1, rfl⟩ := e
    cases h
    rw [RpA.ints r e1]; rfl
  | _, _, _, .cons (d := .none) h r, e => by simp [intsD] at e
  | _, _, _, .cons (d := .bool _) h r, e => by simp [intsD] at e
  | _, _, _, .cons (d := .str _) h r, e => by simp [intsD] at e
  | _, _, _, .cons (d := .list _) h r, e => by simp [intsD] at e
  | _, _, _, .cons (d := .tuple _) h r, e => by simp [intsD] at e
  | _, _, _, .cons (d := .dict _) h r, e => by simp [intsD] at e
theorem RpA.bols : ∀ {vs : List V} {ds : List PyData} {ns : List Bool}, RpA K F vs ds → bolsD ds = some ns → vs = ns.map V.bl
  | _, _, _, .nil, e => by cases e; rfl
  | _, _, _, .cons (d := .bool i) h r, e => by
    simp only [bolsD, Option.map_eq_some_iff] at e
    obtain ⟨ms, e1, rfl⟩ := e
    cases h
    rw [RpA.bols r e1]; rfl
  | _, _, _, .cons (d := .none) h r, e => by simp [bolsD] at e
  | _, _, _, .cons (d := .int _) h r, e => by simp [bolsD] at e
  | _, _, _, .cons (d := .str _) h r, e => by simp [bolsD] at e
  | _, _, _, .cons (d := .list _) h r, e => by simp [bolsD] at e
  | _, _, _, .cons (d := .tuple _) h r, e => by simp [bolsD] at e
  | _, _, _, .cons (d := .dict _) h r, e => by simp [bolsD] at e
theorem RpA.strs : ∀ {vs : List V} {ds : List PyData} {ns : List Str}, RpA K F vs ds → strsD ds = some ns → vs = ns.map V.str
  | _, _, _, .nil, e => by cases e; rfl
  | _, _, _, .cons (d := .str i) h r, e => by
    simp only [strsD, Option.map_eq_some_iff] at e
    obtain ⟨ms, e1, rfl⟩ := e
    cases h
    rw [RpA.strs r e1]; rfl
  | _, _, _, .cons (d := .none) h r, e => by simp [strsD] at e
  | _, _, _, .cons (d := .int _) h r, e => by simp [strsD] at e
  | _, _, _, .cons (d := .bool _) h r, e => by simp [strsD] at e
  | _, _, _, .cons (d := .list _) h r, e => by simp [strsD] at e
  | _, _, _, .cons (d := .tuple _) h r, e => by simp [strsD] at e
  | _, _, _, .cons (d := .dict _) h r, e => by simp [strsD] at e
end

/-! ### the store -/
abbrev FP := Addr × List (Str × Addr)
/-- a made function's words, its parameters, its captured names -/
structure CQ where
  W : CW
  ps : List Str
  fr : List Str
/-- where classes stand; tables of code objects: whose code, where, the name; made functions -/
structure CAT where
  ca : Nat → Addr
  tc : Nat → Addr
  tb : Nat → Addr
  tq : Nat → Str
  cw : Nat → CQ
  ck : Nat → Bool
instance : CoeFun CAT (fun _ => Nat → Addr) := ⟨CAT.ca⟩
/-- what the cells hold -/
structure CellR (K : PySem.W.Frag) (F : Hp) (cl : List (Str × Addr)) (fr : List Str) (ws : List PyData) : Prop where
  inj : ∀ x y c, cl.lookup x = some c → cl.lookup y = some c → x = y
  all : ∀ y c, cl.lookup y = some c → ∃ o v, F c = some (CelO c o) ∧ o.data = .cell v
  has : ∃ vs : List V, RpA K F vs ws ∧ vs.length = fr.length ∧ ∀ (i : Nat) (y : Str) (v : V), fr[i]? = some y → vs[i]? = some v → ∃ c o u, cl.lookup y = some c ∧ F c = some (CelO c o) ∧ o.data = .cell (some u) ∧ RelV v u
theorem CellR.le {K : PySem.W.Frag} {F F' : Hp} {cl : List (Str × Addr)} {fr : List Str} {ws : List PyData} (l : Le F F') (h : CellR K F cl fr ws) : CellR K F' cl fr ws :=
  ⟨h.inj, fun y c e => let ⟨o, v, e1, e2⟩ := h.all y c e; ⟨o, v, l _ _ e1, e2⟩, let ⟨vs, g1, g2, g3⟩ := h.has; ⟨vs, g1.le l, g2, fun i y v a b => let ⟨c, o, u, e1, e2, e3, e4⟩ := g3 i y v a b; ⟨c, o, u, e1, l _ _ e2, e3, e4⟩⟩⟩
/-- the mark of an entry that has become data -/
def deadM : List (Str × Addr) := [(⟨#[]⟩, 0)]
def fpA (p : FP) : List Addr := if p.2 = deadM then [] else p.1 :: p.2.map (·.2)
theorem fpA_nil {p : FP} (h : p.2 = []) : fpA p = [p.1] := by
  unfold fpA; rw [if_neg (by rw [h]; simp [deadM]), h]; rfl
theorem fpA_ne {p : FP} (h : p.2 ≠ deadM) : fpA p = p.1 :: p.2.map (·.2) := if_neg h
theorem fpA_dead {p : FP} (h : p.2 = deadM) : fpA p = [] := if_pos h
def fps (φ : List FP) : List Addr := φ.flatMap fpA
/-- a tuple that has no dict of its own -/
def PtO (a : Addr) (vs : List V) : HO := .ext fun h => ∃ (its : List Value) (n : Nat) (sl : Array (Option Value)), Vals vs its ∧ its.length ≤ sizeLine ∧ h.get? a = some ⟨.type "tuple", none, .seq its.toArray n, sl⟩
inductive FR (K : PySem.W.Frag) (F H : Hp) : List (Str × Fl) → List (Str × V) → List (Str × Addr) → Prop
  | nil : FR K F H [] [] []
  | d {a : Str} {v : V} {x : PyData} {fs gs as} : Rp K F v x → FR K F H fs gs as → FR K F H ((a, .d x) :: fs) ((a, v) :: gs) as
  | l {a : Str} {b : Addr} {vs : List V} {xs : List PyData} {fs gs as} : H b = some (.lst vs) → xs.length ≤ sizeL → RpA K F vs xs → FR K F H fs gs as → FR K F H ((a, .l xs) :: fs) ((a, .ref b) :: gs) ((a, b) :: as)
/-- what lies at an entry -/
def OR (K : PySem.W.Frag) (CA : CAT) (F H : Hp) (p : FP) : MO → Prop
  | .lst xs => ∃ vs, H p.1 = some (.lst vs) ∧ xs.length ≤ sizeL ∧ RpA K F vs xs ∧ p.2 = []
  | .dct kvs => ∃ ks, H p.1 = some (.dK ks) ∧ RpK K F ks (kvs.map fun q => (.str q.1, q.2)) ∧ p.2 = []
  | .ins c fs => ∃ dx gs, H p.1 = some (.ins (CA c) dx gs) ∧ FR K F H fs gs p.2 ∧ p.2 ≠ deadM
  | .dead => p.2 = deadM
  | .tab j => p = (CA.tb j, []) ∧ ∃ ps, H p.1 = some (.tbl ps) ∧ TriplesOk ps.toList ∧ ∀ pos cv, codeAmong pos ps.toList = some cv → ∃ c, cv = .ref c ∧ F c = some (LamX.CodeO c (CA.tq j))
  | .ptup xs => p.2 = [] ∧ ∃ vs, H p.1 = some (PtO p.1 vs) ∧ RpA K F vs xs
  | .clo k ws => p.2 = [] ∧ CA.ck k = true ∧ ∃ cl c, H p.1 = some (CloO p.1 (CA.cw k).W cl c) ∧ F c = some (LamX.CodeO c (CA.cw k).W.qual) ∧ CellR K F cl (CA.cw k).fr ws
structure R (K : PySem.W.Frag) (CA : CAT) (F : Hp) (φ : List FP) (st : Sto) (H : Hp) : Prop where
  sub : Le F H
  dis : ∀ a ∈ fps φ, F a = none
  nd : (fps φ).Nodup
  len : st.length = φ.length
  obj : ∀ (n : Nat) (m : MO) (p : FP), st[n]? = some m → φ[n]? = some p → OR K CA F H p m
def Gr (φ φ' : List FP) : Prop := ∀ (n : Nat) (p : FP), φ[n]? = some p → ∃ p', φ'[n]? = some p' ∧ p'.1 = p.1 ∧ ∀ a b, p.2.lookup a = some b → p'.2.lookup a = some b
theorem Gr.rfl {φ : List FP} : Gr φ φ := fun _ p h => ⟨p, h, Eq.refl _, fun _ _ h => h⟩
theorem Gr.trans {φ φ' φ'' : List FP} (h : Gr φ φ') (h' : Gr φ' φ'') : Gr φ φ'' := fun n p e => by
  obtain ⟨p', e1, e2, e3⟩ := h n p e
  obtain ⟨p2, f1, f2, f3⟩ := h' n p' e1
  exact ⟨p2, f1, f2.trans e2, fun a b q => f3 a b (e3 a b q)⟩
theorem Gr.app {φ ψ : List FP} : Gr φ (φ ++ ψ) := fun n p h => ⟨p, by rw [List.getElem?_append_left (List.getElem?_eq_some_iff.mp h).1]; exact h, Eq.refl _, fun _ _ h => h⟩
def RV (K : PySem.W.Frag) (F : Hp) (φ : List FP) (v : V) : Vl → Prop
  | .d x => Rp K F v x
  | .r n => ∃ p : FP, φ[n]? = some p ∧ v = .ref p.1
  | .f n a => ∃ (p : FP) (b : Addr), φ[n]? = some p ∧ p.2.lookup a = some b ∧ v = .ref b
  | .s ns => ∃ a : Addr, v = .ref a ∧ SqL K F a (ns.map V.int)
theorem SqL.le {K : PySem.W.Frag} {F F' : Hp} {a : Addr} {xs : List V} (l : Le F F') (h : SqL K F a xs) : SqL K F' a xs := by
  rcases h with (h | ⟨o, h⟩) | h
  · exact .inl (.inl (l _ _ h))
  · exact .inl (.inr ⟨o, l _ _ h⟩)
  · exact .inr h
theorem RV.le {K : PySem.W.Frag} {F F' : Hp} {φ φ' : List FP} {v : V} {x : Vl} (l : Le F F') (g : Gr φ φ') (h : RV K F φ v x) : RV K F' φ' v x := by
  cases x with
  | d x => exact Rp.le l h
  | r n =>
    obtain ⟨p, e, rfl⟩ := h
    obtain ⟨p', e1, e2, _⟩ := g n p e
    exact ⟨p', e1, by rw [e2]⟩
  | f n a =>
    obtain ⟨p, b, e, e', rfl⟩ := h
    obtain ⟨p', e1, e2, e3⟩ := g n p e
    exact ⟨p', b, e1, e3 _ _ e', rfl⟩
  | s ns =>
    obtain ⟨a, rfl, q⟩ := h
    exact ⟨a, rfl, SqL.le l q⟩
inductive RVs (K : PySem.W.Frag) (F : Hp) (φ : List FP) : List V → List Vl → Prop
  | nil : RVs K F φ [] []
  | cons {v : V} {x : Vl} {vs xs} : RV K F φ v x → RVs K F φ vs xs → RVs K F φ (v :: vs) (x :: xs)
theorem RVs.le {K : PySem.W.Frag} {F F' : Hp} {φ φ' : List FP} (l : Le F F') (g : Gr φ φ') : ∀ {vs : List V} {xs : List Vl}, RVs K F φ vs xs → RVs K F' φ' vs xs
  | _, _, .nil => .nil
  | _, _, .cons h r => .cons (h.le l g) (RVs.le l g r)
theorem RVs.length {K : PySem.W.Frag} {F : Hp} {φ : List FP} : ∀ {vs : List V} {xs : List Vl}, RVs K F φ vs xs → vs.length = xs.length
  | _, _, .nil => rfl
  | _, _, .cons _ r => by rw [List.length_cons, List.length_cons, RVs.length r]
theorem RVs.data {K : PySem.W.Frag} {F : Hp} {φ : List FP} : ∀ {vs : List V} {xs : List Vl} {ds : List PyData}, RVs K F φ vs xs → allD xs = some ds → RpA K F vs ds
  | _, _, _, .nil, e => by cases e; exact .nil
  | _, _, _, .cons (x := .d x) h r, e => by
    simp only [allD, Option.map_eq_some_iff] at e
    obtain ⟨ms, e1, rfl⟩ := e
    exact .cons h (RVs.data r e1)
  | _, _, _, .cons (x := .r _) h r, e => by simp [allD] at e
  | _, _, _, .cons (x := .f _ _) h r, e => by simp [allD] at e
  | _, _, _, .cons (x := .s _) h r, e => by simp [allD] at e
/-- the names -/
structure RE (K : PySem.W.Frag) (F : Hp) (φ : List FP) (σ : St) (ρ : En) : Prop where
  len : σ.length = ρ.length
  at_ : ∀ (i : Nat) (x : Vl), ρ[i]? = some (some x) → ∃ v, σ[i]? = some (some v) ∧ RV K F φ v x
theorem RE.le {K : PySem.W.Frag} {F F' : Hp} {φ φ' : List FP} {σ : St} {ρ : En} (l : Le F F') (g : Gr φ φ') (h : RE K F φ σ ρ) : RE K F' φ' σ ρ :=
  ⟨h.len, fun i x e => let ⟨v, e1, r⟩ := h.at_ i x e; ⟨v, e1, r.le l g⟩⟩
theorem RE.set {K : PySem.W.Frag} {F : Hp} {φ : List FP} {σ : St} {ρ : En} {i : Nat} {v : V} {x : Vl} (h : RE K F φ σ ρ) (r : RV K F φ v x) : RE K F φ (σ.set i (some v)) (ρ.set i (some x)) := by
  refine ⟨by rw [List.length_set, List.length_set, h.len], fun j y e => ?_⟩
  by_cases hj : i = j
  · subst hj
    by_cases hi : i < ρ.length
    · rw [List.getElem?_set_self hi] at e
      cases e
      exact ⟨v, by rw [List.getElem?_set_self (by rw [h.len]; exact hi)], r⟩
    · rw [List.getElem?_eq_none (by simpa using hi)] at e; cases e
  · rw [List.getElem?_set_ne hj] at e
    obtain ⟨u, e1, r1⟩ := h.at_ j y e
    exact ⟨u, by rw [List.getElem?_set_ne hj]; exact e1, r1⟩
theorem wipeE_len (ρ : En) : ∀ vs : List Nat, (wipeE ρ vs).length = ρ.length
  | [] => rfl
  | v :: vs => by unfold wipeE; rw [List.length_set, wipeE_len ρ vs]
theorem wipeE_some {ρ : En} {i : Nat} {x : Vl} : ∀ {vs : List Nat}, (wipeE ρ vs)[i]? = some (some x) → ρ[i]? = some (some x) ∧ i ∉ vs
  | [], h => ⟨h, by simp⟩
  | v :: vs, h => by
    unfold wipeE at h
    by_cases hi : v = i
    · subst hi
      by_cases hv : v < (wipeE ρ vs).length
      · rw [List.getElem?_set_self hv] at h; cases h
      · rw [List.getElem?_eq_none (by simpa using hv)] at h; cases h
    · rw [List.getElem?_set_ne hi] at h
      obtain ⟨h1, h2⟩ := wipeE_some h
      exact ⟨h1, by simp only [List.mem_cons, not_or]; exact ⟨fun e => hi e.symm, h2⟩⟩
theorem RE.wipe {K : PySem.W.Frag} {F : Hp} {φ : List FP} {σ : St} {ρ : En} (h : RE K F φ σ ρ) (vs : List Nat) : RE K F φ (L2.wipe σ vs) (wipeE ρ vs) := by
  refine ⟨by rw [wipe_length, wipeE_len, h.len], fun i x e => ?_⟩
  obtain ⟨e1, e2⟩ := wipeE_some e
  obtain ⟨v, e3, r⟩ := h.at_ i x e1
  exact ⟨v, by rw [wipe_out e2]; exact e3, r⟩

/-! ### the heap's steps -/
section
variable {K : PySem.W.Frag} {CA : CAT} {F F' H H' : Hp} {φ : List FP} {st : Sto}
theorem FR.own {fs gs as} (h : FR K F H fs gs as) : ∀ a ∈ as.map (·.2), ∃ o, H a = some o := by
  induction h with
  | nil => intro a ha; simp at ha
  | d _ _ ih => exact ih
  | l h1 _ _ _ ih =>
    intro a ha
    rcases List.mem_cons.mp ha with e | e
    · subst e; exact ⟨_, h1⟩
    · exact ih a e
theorem OR.there {p : FP} {m : MO} (h : OR K CA F H p m) : ∀ a ∈ fpA p, ∃ o, H a = some o := by
  intro a ha
  cases m with
  | lst xs =>
    obtain ⟨vs, e, _, _, e2⟩ := h
    rw [fpA_nil e2] at ha
    have : a = p.1 := by simpa using ha
    subst this; exact ⟨_, e⟩
  | dct kvs =>
    obtain ⟨vs, e, _, e2⟩ := h
    rw [fpA_nil e2] at ha
    have : a = p.1 := by simpa using ha
    subst this; exact ⟨_, e⟩
  | ins c fs =>
    obtain ⟨dx, gs, e, r, nd⟩ := h
    rw [fpA_ne nd] at ha
    rcases List.mem_cons.mp ha with z | z
    · subst z; exact ⟨_, e⟩
    · exact r.own a z
  | dead =>
    rw [fpA_dead h] at ha
    exact absurd ha (by simp)
  | tab j =>
    obtain ⟨e2, ps, e, _⟩ := h
    rw [fpA_nil (by rw [e2])] at ha
    have : a = p.1 := by simpa using ha
    subst this; exact ⟨_, e⟩
  | ptup xs =>
    obtain ⟨e2, vs, e, _⟩ := h
    rw [fpA_nil e2] at ha
    have : a = p.1 := by simpa using ha
    subst this; exact ⟨_, e⟩
  | clo k ws =>
    obtain ⟨e2, _, cl, c, e, _⟩ := h
    rw [fpA_nil e2] at ha
    have : a = p.1 := by simpa using ha
    subst this; exact ⟨_, e⟩
theorem mem_fps {a : Addr} (h : a ∈ fps φ) : ∃ (n : Nat) (p : FP), φ[n]? = some p ∧ a ∈ fpA p := by
  obtain ⟨p, hp, ha⟩ := List.mem_flatMap.mp h
  obtain ⟨n, hn⟩ := List.mem_iff_getElem?.mp hp
  exact ⟨n, p, hn, ha⟩
theorem mem_fps_of {a : Addr} {n : Nat} {p : FP} (h : φ[n]? = some p) (ha : a ∈ fpA p) : a ∈ fps φ := List.mem_flatMap.mpr ⟨p, List.mem_of_getElem? h, ha⟩
theorem R.there (r : R K CA F φ st H) {a : Addr} (h : a ∈ fps φ) : ∃ o, H a = some o := by
  obtain ⟨n, p, hp, ha⟩ := mem_fps h
  have hn : n < st.length := by rw [r.len]; exact (List.getElem?_eq_some_iff.mp hp).1
  exact (r.obj n st[n] p (List.getElem?_eq_getElem hn) hp).there a ha
theorem R.fresh (r : R K CA F φ st H) {p : Addr} (h : H p = none) : p ∉ fps φ ∧ F p = none := by
  refine ⟨fun z => ?_, ?_⟩
  · obtain ⟨o, e⟩ := r.there z
    rw [h] at e; cases e
  · cases e : F p with
    | none => rfl
    | some o => rw [r.sub _ _ e] at h; cases h
theorem FR.keep {fs gs as} (l : Le F F') (h : FR K F H fs gs as) (k : ∀ a ∈ as.map (·.2), H' a = H a) : FR K F' H' fs gs as := by
  induction h with
  | nil => exact .nil
  | d h1 _ ih => exact .d (h1.le l) (ih k)
  | l h1 z h2 _ ih => exact .l (by rw [k _ (by simp)]; exact h1) z (h2.le l) (ih fun a ha => k a (List.mem_cons_of_mem _ ha))
theorem OR.keep {p : FP} {m : MO} (l : Le F F') (h : OR K CA F H p m) (k : ∀ a ∈ fpA p, H' a = H a) : OR K CA F' H' p m := by
  cases m with
  | lst xs => obtain ⟨vs, e, z, r, e2⟩ := h; exact ⟨vs, (k _ (by rw [fpA_nil e2]; simp)).trans e, z, r.le l, e2⟩
  | dct kvs => obtain ⟨vs, e, r, e2⟩ := h; exact ⟨vs, (k _ (by rw [fpA_nil e2]; simp)).trans e, r.le l, e2⟩
  | ins c fs =>
    obtain ⟨dx, gs, e, r, nd⟩ := h
    rw [fpA_ne nd] at k
    exact ⟨dx, gs, (k _ (by simp)).trans e, r.keep l fun a ha => k a (List.mem_cons_of_mem _ ha), nd⟩
  | dead => exact h
  | tab j => obtain ⟨e2, ps, e, t, q⟩ := h; exact ⟨e2, ps, (k _ (by rw [fpA_nil (by rw [e2])]; simp)).trans e, t, fun pos cv z => let ⟨c, z1, z2⟩ := q pos cv z; ⟨c, z1, l _ _ z2⟩⟩
  | ptup xs => obtain ⟨e2, vs, e, q⟩ := h; exact ⟨e2, vs, (k _ (by rw [fpA_nil e2]; simp)).trans e, q.le l⟩
  | clo n ws => obtain ⟨e2, e0, cl, c, e, f, q⟩ := h; exact ⟨e2, e0, cl, c, (k _ (by rw [fpA_nil e2]; simp)).trans e, l _ _ f, q.le l⟩
/-- new data -/
theorem R.data (r : R K CA F φ st H) {p : Addr} (h : H p = none) (o : HO) : R K CA (upd F p o) φ st (upd H p o) := by
  obtain ⟨h1, h2⟩ := r.fresh h
  refine ⟨fun a u e => ?_, fun a ha => ?_, r.nd, r.len, fun n m q e1 e2 => ?_⟩
  · by_cases e' : a = p
    · subst e'; rw [upd_same] at e ⊢; exact e
    · rw [upd_ne e'] at e ⊢; exact r.sub _ _ e
  · rw [upd_ne (fun z : a = p => h1 (z ▸ ha))]; exact r.dis a ha
  · refine (r.obj n m q e1 e2).keep (Le.upd h2) fun a ha => ?_
    rw [upd_ne (fun z : a = p => h1 (z ▸ mem_fps_of e2 ha))]
theorem fps_app (φ ψ : List FP) : fps (φ ++ ψ) = fps φ ++ fps ψ := by unfold fps; rw [List.flatMap_append]
/-- a new entry -/
theorem R.entry (r : R K CA F φ st H) {p : FP} {m : MO} (hn : ∀ a ∈ fpA p, H a = none) (nd : (fpA p).Nodup) (k : ∀ a ∈ fps φ, H' a = H a) (l : Le F H') (o : OR K CA F H' p m) : R K CA F (φ ++ [p]) (st ++ [m]) H' := by
  have dj : ∀ a ∈ fpA p, a ∉ fps φ := fun a ha z => by
    obtain ⟨o, e⟩ := r.there z
    rw [hn a ha] at e; cases e
  refine ⟨l, fun a ha => ?_, ?_, by rw [List.length_append, List.length_append, r.len]; rfl, fun n m' q e1 e2 => ?_⟩
  · rw [fps_app] at ha
    rcases List.mem_append.mp ha with z | z
    · exact r.dis a z
    · have z' : a ∈ fpA p := by simpa [fps] using z
      exact (r.fresh (hn a z')).2
  · rw [fps_app]
    refine List.nodup_append.mpr ⟨r.nd, by simpa [fps] using nd, fun a ha b hb e => ?_⟩
    subst e
    exact dj a (by simpa [fps] using hb) ha
  · by_cases hlt : n < st.length
    · rw [List.getElem?_append_left hlt] at e1
      rw [List.getElem?_append_left (by rw [← r.len]; exact hlt)] at e2
      exact (r.obj n m' q e1 e2).keep Le.rfl fun a ha => k a (mem_fps_of e2 ha)
    · have h1 : st.length ≤ n := Nat.le_of_not_lt hlt
      rw [List.getElem?_append_right h1] at e1
      rw [List.getElem?_append_right (by rw [← r.len]; exact h1), ← r.len] at e2
      have hz : n - st.length = 0 := by
        have := (List.getElem?_eq_some_iff.mp e1).1
        simpa using this
      rw [hz] at e1 e2
      simp at e1 e2
      subst e1; subst e2
      exact o
theorem fps_two {n m : Nat} {p q : FP} (nd : (fps φ).Nodup) (hp : φ[n]? = some p) (hq : φ[m]? = some q) (hnm : n ≠ m) {a : Addr} (ha : a ∈ fpA p) : a ∉ fpA q := by
  induction φ generalizing n m with
  | nil => simp at hp
  | cons x φ ih =>
    have nd' : (fpA x ++ fps φ).Nodup := by simpa [fps] using nd
    obtain ⟨n1, n2, n3⟩ := List.nodup_append.mp nd'
    cases n with
    | zero =>
      cases m with
      | zero => exact absurd rfl hnm
      | succ m =>
        simp at hp hq
        subst hp
        intro z
        exact n3 a ha a (mem_fps_of hq z) rfl
    | succ n =>
      cases m with
      | zero =>
        simp at hp hq
        subst hq
        intro z
        exact n3 a z a (mem_fps_of hp ha) rfl
      | succ m =>
        simp at hp hq
        exact ih n2 hp hq (fun e => hnm (by rw [e]))
/-- an entry is changed; its addresses stay -/
theorem R.change (r : R K CA F φ st H) {n : Nat} {p : FP} {a : Addr} {o : HO} {m : MO} (hp : φ[n]? = some p) (ha : a ∈ fpA p) (h : OR K CA F (upd H a o) p m) : R K CA F φ (st.set n m) (upd H a o) := by
  refine ⟨fun b u e => ?_, r.dis, r.nd, by rw [List.length_set]; exact r.len, fun k m' q e1 e2 => ?_⟩
  · have : b ≠ a := fun z => by
      have := r.dis a (mem_fps_of hp ha)
      rw [← z, e] at this; cases this
    rw [upd_ne this]; exact r.sub _ _ e
  · by_cases hk : n = k
    · subst hk
      have hl : n < st.length := by rw [r.len]; exact (List.getElem?_eq_some_iff.mp hp).1
      rw [List.getElem?_set_self hl] at e1
      rw [hp] at e2
      cases e1; cases e2
      exact h
    · rw [List.getElem?_set_ne hk] at e1
      refine (r.obj k m' q e1 e2).keep Le.rfl fun b hb => ?_
      rw [upd_ne]
      rintro rfl
      exact fps_two r.nd hp e2 hk ha hb
theorem R.at (r : R K CA F φ st H) {n : Nat} {p : FP} (hp : φ[n]? = some p) : ∃ m, st[n]? = some m ∧ OR K CA F H p m := by
  have hn : n < st.length := by rw [r.len]; exact (List.getElem?_eq_some_iff.mp hp).1
  exact ⟨st[n], List.getElem?_eq_getElem hn, r.obj n st[n] p (List.getElem?_eq_getElem hn) hp⟩
/-- the entries of a call are dropped -/
theorem R.take (r : R K CA F φ st H) (L : Nat) : R K CA F (φ.take L) (st.take L) H := by
  have hs : ∀ a ∈ fps (φ.take L), a ∈ fps φ := fun a ha => by
    obtain ⟨p, hp, h⟩ := List.mem_flatMap.mp ha
    exact List.mem_flatMap.mpr ⟨p, List.mem_of_mem_take hp, h⟩
  refine ⟨r.sub, fun a ha => r.dis a (hs a ha), ?_, by rw [List.length_take, List.length_take, r.len], fun n m p e1 e2 => ?_⟩
  · have e : fps φ = fps (φ.take L) ++ fps (φ.drop L) := by rw [← fps_app, List.take_append_drop]
    have := r.nd
    rw [e] at this
    exact (List.nodup_append.mp this).1
  · have hn : n < L := by
      have := (List.getElem?_eq_some_iff.mp e1).1
      rw [List.length_take] at this; omega
    rw [List.getElem?_take_of_lt hn] at e1 e2
    exact r.obj n m p e1 e2
/-- what was made in the call becomes data: its address leaves the store -/
theorem R.freeze (r : R K CA F φ st H) (L : Nat) {n : Nat} {p : FP} {o : HO} (hL : L ≤ n) (hp : φ[n]? = some p) (hd : p.1 ∈ fpA p) (h : H p.1 = some o) : R K CA (upd F p.1 o) (φ.take L) (st.take L) H := by
  have q := r.take L
  have hf : F p.1 = none := r.dis _ (mem_fps_of hp hd)
  have no : p.1 ∉ fps (φ.take L) := fun z => by
    obtain ⟨k, w, hw, hz⟩ := mem_fps z
    have hk : k < L := by
      have := (List.getElem?_eq_some_iff.mp hw).1
      rw [List.length_take] at this; omega
    rw [List.getElem?_take_of_lt hk] at hw
    exact fps_two r.nd hp hw (by omega) hd hz
  refine ⟨fun a u e => ?_, fun a ha => ?_, q.nd, q.len, fun k m w e1 e2 => (q.obj k m w e1 e2).keep (Le.upd hf) fun _ _ => rfl⟩
  · by_cases e' : a = p.1
    · subst e'; rw [upd_same] at e; cases e; exact h
    · rw [upd_ne e'] at e; exact r.sub _ _ e
  · rw [upd_ne (fun z : a = p.1 => no (z ▸ ha))]; exact q.dis a ha
theorem Gr.take {φ φ' : List FP} (g : Gr φ φ') : Gr φ (φ'.take φ.length) := fun n p e => by
  obtain ⟨p', e1, e2⟩ := g n p e
  exact ⟨p', by rw [List.getElem?_take_of_lt (List.getElem?_eq_some_iff.mp e).1]; exact e1, e2⟩
/-- a step: from F, φ, H to F', φ', st', H' -/
structure Nx (K : PySem.W.Frag) (CA : CAT) (F : Hp) (φ : List FP) (H F' : Hp) (φ' : List FP) (st' : Sto) (H' : Hp) : Prop where
  le : Le F F'
  gr : Gr φ φ'
  off : ∀ a o, H a = some o → F a = none → a ∉ fps φ → H' a = some o ∧ F' a = none ∧ a ∉ fps φ'
  r : R K CA F' φ' st' H'
section
variable {F1 F2 H1 H2 : Hp} {φ1 φ2 : List FP} {st1 st2 : Sto}
theorem R.nx (r : R K CA F φ st H) : Nx K CA F φ H F φ st H := ⟨Le.rfl, Gr.rfl, fun _ _ h1 h2 h3 => ⟨h1, h2, h3⟩, r⟩
theorem Nx.trans (a : Nx K CA F φ H F1 φ1 st1 H1) (b : Nx K CA F1 φ1 H1 F2 φ2 st2 H2) : Nx K CA F φ H F2 φ2 st2 H2 :=
  ⟨a.le.trans b.le, a.gr.trans b.gr, fun p o h1 h2 h3 => let ⟨e1, e2, e3⟩ := a.off p o h1 h2 h3; b.off p o e1 e2 e3, b.r⟩
theorem R.nxData (r : R K CA F φ st H) {p : Addr} (h : H p = none) (o : HO) : Nx K CA F φ H (upd F p o) φ st (upd H p o) :=
  ⟨Le.upd (r.fresh h).2, Gr.rfl, fun a u h1 h2 h3 => by
    have ne : a ≠ p := ne_of_none h1 h
    rw [upd_ne ne, upd_ne ne]; exact ⟨h1, h2, h3⟩, r.data h o⟩
/-- a new mutable object without lists of its own -/
theorem R.nxEntry (r : R K CA F φ st H) {p : Addr} {o : HO} {m : MO} (h : H p = none) (q : OR K CA F (upd H p o) (p, []) m) : Nx K CA F φ H F (φ ++ [(p, [])]) (st ++ [m]) (upd H p o) := by
  have h1 := r.fresh h
  refine ⟨Le.rfl, Gr.app, fun a u e1 e2 e3 => ?_, r.entry (fun a ha => ?_) (by rw [fpA_nil rfl]; simp) (fun a ha => ?_) (fun a u e => ?_) q⟩
  · have ne : a ≠ p := ne_of_none e1 h
    refine ⟨by rw [upd_ne ne]; exact e1, e2, ?_⟩
    rw [fps_app]
    intro z
    rcases List.mem_append.mp z with z | z
    · exact e3 z
    · exact ne (by simpa [fps, fpA_nil (p := (p, [])) rfl] using z)
  · have : a = p := by simpa [fpA_nil (p := (p, [])) rfl] using ha
    rw [this]; exact h
  · rw [upd_ne (fun z : a = p => h1.1 (z ▸ ha))]
  · rw [upd_ne (fun z : a = p => by rw [z, h1.2] at e; cases e)]; exact r.sub _ _ e
theorem R.nxChange (r : R K CA F φ st H) {n : Nat} {p : FP} {a : Addr} {o : HO} {m : MO} (hp : φ[n]? = some p) (ha : a ∈ fpA p) (h : OR K CA F (upd H a o) p m) : Nx K CA F φ H F φ (st.set n m) (upd H a o) :=
  ⟨Le.rfl, Gr.rfl, fun b u e1 e2 e3 => ⟨by rw [upd_ne (fun z : b = a => e3 (z ▸ mem_fps_of hp ha))]; exact e1, e2, e3⟩, r.change hp ha h⟩
/-- an address that belongs to nobody here -/
theorem R.extra (r : R K CA F φ st H) {p : Addr} {o : HO} (h : F p = none) (h' : p ∉ fps φ) : R K CA F φ st (upd H p o) := by
  refine ⟨fun a u e => ?_, r.dis, r.nd, r.len, fun n m q e1 e2 => ?_⟩
  · rw [upd_ne (fun z : a = p => by rw [z, h] at e; cases e)]; exact r.sub _ _ e
  · refine (r.obj n m q e1 e2).keep Le.rfl fun a ha => ?_
    rw [upd_ne (fun z : a = p => h' (z ▸ mem_fps_of e2 ha))]
end
end

/-! ### what is read -/
/-- a value that is read: the top lies in H, what is in it in F -/
def Rt (K : PySem.W.Frag) (F H : Hp) (v : V) : PyData → Prop
  | .list ds => ∃ a vs, v = .ref a ∧ H a = some (.lst vs) ∧ ds.length ≤ sizeL ∧ RpA K F vs ds
  | .dict ds => ∃ a ks, v = .ref a ∧ Rd H a (.dK ks) ∧ RpK K F ks ds
  | x => Rp K F v x
section
variable {K : PySem.W.Frag} {CA : CAT} {F H : Hp} {φ : List FP} {st : Sto}
theorem Rp.rt {v : V} {x : PyData} (l : Le F H) (h : Rp K F v x) : Rt K F H v x := by
  cases x with
  | list ds => cases h with | lst h z r => exact ⟨_, _, rfl, l _ _ h, z, r⟩
  | dict ds => cases h with | dct h r => exact ⟨_, _, rfl, Rd.le l h, r⟩
  | _ => exact h
theorem FR.look {fs gs as} (h : FR K F H fs gs as) {a : Str} {xs : List PyData} (e : fs.lookup a = some (.l xs)) : ∃ b vs, as.lookup a = some b ∧ gs.lookup a = some (.ref b) ∧ H b = some (.lst vs) ∧ xs.length ≤ sizeL ∧ RpA K F vs xs := by
  induction h with
  | nil => cases e
  | @d a' v x fs gs as _ _ ih =>
    by_cases hk : a = a'
    · subst hk; rw [List.lookup_cons_self] at e; cases e
    · have hk' : (a == a') = false := by simpa using hk
      rw [List.lookup_cons, hk'] at e
      obtain ⟨b, vs, h1, h2, h3⟩ := ih e
      exact ⟨b, vs, h1, by rw [List.lookup_cons, hk']; exact h2, h3⟩
  | @l a' b vs ys fs gs as h1 z h2 _ ih =>
    by_cases hk : a = a'
    · subst hk
      rw [List.lookup_cons_self] at e; cases e
      exact ⟨b, vs, by rw [List.lookup_cons_self], by rw [List.lookup_cons_self], h1, z, h2⟩
    · have hk' : (a == a') = false := by simpa using hk
      rw [List.lookup_cons, hk'] at e
      obtain ⟨b', vs', h1', h2', h3'⟩ := ih e
      exact ⟨b', vs', by rw [List.lookup_cons, hk']; exact h1', by rw [List.lookup_cons, hk']; exact h2', h3'⟩
theorem FR.lookD {fs gs as} (h : FR K F H fs gs as) {a : Str} {x : PyData} (e : fs.lookup a = some (.d x)) : ∃ v, gs.lookup a = some v ∧ Rp K F v x := by
  induction h with
  | nil => cases e
  | @d a' v y fs gs as h1 _ ih =>
    by_cases hk : a = a'
    · subst hk
      rw [List.lookup_cons_self] at e; cases e
      exact ⟨v, by rw [List.lookup_cons_self], h1⟩
    · have hk' : (a == a') = false := by simpa using hk
      rw [List.lookup_cons, hk'] at e
      obtain ⟨b, h1', h2'⟩ := ih e
      exact ⟨b, by rw [List.lookup_cons, hk']; exact h1', h2'⟩
  | @l a' b vs ys fs gs as h1 z h2 _ ih =>
    by_cases hk : a = a'
    · subst hk; rw [List.lookup_cons_self] at e; cases e
    · have hk' : (a == a') = false := by simpa using hk
      rw [List.lookup_cons, hk'] at e
      obtain ⟨b', h1', h2'⟩ := ih e
      exact ⟨b', by rw [List.lookup_cons, hk']; exact h1', h2'⟩
theorem R.reads (r : R K CA F φ st H) {v : V} {x : Vl} {y : PyData} (h : RV K F φ v x) (e : dat st x = some y) : Rt K F H v y := by
  cases x with
  | d x => cases e; exact Rp.rt r.sub h
  | r n =>
    obtain ⟨p, hp, rfl⟩ := h
    obtain ⟨m, hm, o⟩ := r.at hp
    unfold dat at e
    dsimp only at e
    rw [hm] at e
    cases m with
    | lst xs =>
      cases e
      obtain ⟨vs, h1, h2, h3, _⟩ := o
      exact ⟨_, vs, rfl, h1, h2, h3⟩
    | dct kvs =>
      cases e
      obtain ⟨vs, h1, h2, _⟩ := o
      exact ⟨_, vs, rfl, .inl h1, h2⟩
    | ins c fs => cases e
    | dead => cases e
    | tab _ => cases e
    | ptup _ => cases e
    | clo _ _ => cases e
  | f n a =>
    obtain ⟨p, b, hp, hb, rfl⟩ := h
    obtain ⟨m, hm, o⟩ := r.at hp
    unfold dat at e
    dsimp only at e
    rw [hm] at e
    cases m with
    | ins c fs =>
      obtain ⟨dx, gs, h1, h2, _⟩ := o
      dsimp only at e
      split at e
      · rename_i xs hl
        cases e
        obtain ⟨b', vs, q1, q2, q3, q4, q5⟩ := h2.look hl
        rw [hb] at q1; cases q1
        exact ⟨_, vs, rfl, q3, q4, q5⟩
      · cases e
    | lst xs => cases e
    | dct kvs => cases e
    | dead => cases e
    | tab _ => cases e
    | ptup _ => cases e
    | clo _ _ => cases e
  | s ns => cases e
end
end Tw
set_option Elab.async false
set_option linter.all false
set_option maxRecDepth 100000
set_option maxHeartbeats 4000000
/-! C2b: text * int, tuple * int also for none and one, tuple[::-1]. -/
namespace Tw
open PySem L2 PySem.Spec PyProof.Rows
theorem repS_one (x : Str) : repS x 1 = x := by
  obtain ⟨a⟩ := x
  simp [repS]
theorem repS_zero (x : Str) : repS x 0 = Str.empty := by simp [repS]; rfl
theorem repS_nil {x : Str} (h : x.length = 0) (k : Nat) : repS x k = x := by
  obtain ⟨a⟩ := x
  have : a = #[] := Array.eq_empty_of_size_eq_zero h
  subst this
  simp [repS]
theorem repS_len (x : Str) (k : Nat) : (repS x k).length = x.length * k := by
  show (repS x k).cps.size = x.cps.size * k
  simp [repS, Nat.mul_comm]
theorem foldl_app (l : List Nat) : ∀ (m : Nat) (acc : Array Nat), List.foldl (fun x1 x2 => x1 ++ x2) acc (List.replicate m l.toArray) = acc ++ (List.replicate m l).flatten.toArray
  | 0, acc => by simp
  | m + 1, acc => by
    rw [List.replicate_succ, List.foldl_cons, foldl_app l m, List.replicate_succ, List.flatten_cons]
    simp
theorem rep_eq (x : Str) (k : Nat) : (⟨(List.replicate k x.cps).foldl (· ++ ·) #[]⟩ : Str) = repS x k := by
  obtain ⟨a⟩ := x
  have := foldl_app a.toList k #[]
  simp only [Array.toArray_toList] at this
  simp [repS, this]
def rRepS : R2 := fun x y H Q => ∃ a k, x = .str a ∧ y = .int k ∧ 0 ≤ k ∧ k ≤ 16777216 ∧ a.length * k.toNat ≤ sizeLine ∧ Q (.str (repS a k.toNat)) H
section
variable {X : Cx}
theorem op_repS : OpR X (binaryOp .Mult) rRepS := by
  intro pins s σ H x y v u Q I rx ry h
  obtain ⟨a, k, rfl, rfl, h0, h1, hz, q⟩ := h
  obtain ⟨t, rfl⟩ := rx
  obtain ⟨t', rfl⟩ := ry
  refine PySem.P.mul_str (by rw [decide_eq_false (by omega), decide_eq_false (by omega)]; rfl) (fun g1 g2 => ?_) (fun g1 g2 => ?_) ?_
  · intro g
    have hk : (1 : Int) ≤ k := by omega
    have e1 : (a.length : Int) ≤ 16777216 := by
      rw [sizeLine_eq] at hz
      have : a.length * 1 ≤ a.length * k.toNat := Nat.mul_le_mul_left _ (by omega)
      omega
    have e2 : (16777216 : Int) ≤ (2 ^ 63 - 1) / k := (Int.le_ediv_iff_mul_le (by omega)).mpr (by omega)
    omega
  · unfold PySem.Builtin.Str.tooLong
    rw [decide_eq_false_iff_not]
    omega
  · split
    · have : k.toNat = 0 := by omega
      rw [this, repS_zero] at q
      exact ⟨by decide, ⟨.str Str.empty, H, I.tok _, ⟨_, rfl⟩, q⟩⟩
    · split
      · rename_i g
        rw [Bool.or_eq_true] at g
        have : repS a k.toNat = a := by
          rcases g with g | g
          · have : k = 1 := beq_iff_eq.mp g
            rw [this]; exact repS_one a
          · exact repS_nil (beq_iff_eq.mp g) _
        rw [this] at q
        exact ⟨.str a, H, I, ⟨_, rfl⟩, q⟩
      · rw [rep_eq]
        refine ⟨?_, ⟨.str (repS a k.toNat), H, I.tok _, ⟨_, rfl⟩, q⟩⟩
        rw [repS_len]; exact hz
theorem tuple_mul1 (l : Addr) (items : Array Value) (n : Nat) (dd : Option Addr) (sl : Array (Option Value)) (x : Int) (u : Tok) (c0 : (decide (x < -(2 ^ 63)) || decide (x ≥ 2 ^ 63)) = false) (c1 : (items.isEmpty || x == 1) = true) :
    Meets (Builtin.«tuple.__mul__» ⟨[.ref l, .int x u], []⟩) (fun _ R s => s.heap.get? l = some { cls := .type "tuple", dict := dd, data := .seq items n, slots := sl } ∧
      R (.ok (.ret (Value.ref l))) s) :=
  .of_wp fun prog w A R s h => by
    obtain ⟨hp, g, d, tk, os⟩ := s
    obtain ⟨hl, h⟩ := h
    have f1 := AutoSeq1.idx_int
    wp_walk using wpAny_loadPart' hl
    repeat (first
      | (refine wpAny_ite_false (decide_eq_false (by rw [c0]; exact Bool.false_ne_true)) ?_; wp_walk using wpAny_loadPart' hl)
      | (refine wpAny_ite_true (decide_eq_true c1) ?_; wp_walk using wpAny_loadPart' hl))
    exact ⟨_, rfl, h⟩
theorem tuple_mul0 (l : Addr) (items : Array Value) (n : Nat) (dd : Option Addr) (sl : Array (Option Value)) (x : Int) (u : Tok) (c0 : (decide (x < -(2 ^ 63)) || decide (x ≥ 2 ^ 63)) = false) (c1 : (items.isEmpty || x == 1) = false) (c2 : (decide (x ≤ 0) || items.isEmpty) = true) :
    Meets (Builtin.«tuple.__mul__» ⟨[.ref l, .int x u], []⟩) (fun _ R s => s.heap.get? l = some { cls := .type "tuple", dict := dd, data := .seq items n, slots := sl } ∧
      R (.ok (.ret (Value.ref s.heap.objs.size))) { s with heap := s.heap.push { cls := Value.type "tuple", data := Data.seq #[] }, toks := s.toks }) :=
  .of_wp fun prog w A R s h => by
    obtain ⟨hp, g, d, tk, os⟩ := s
    obtain ⟨hl, h⟩ := h
    have f1 := AutoSeq1.idx_int
    wp_walk using wpAny_loadPart' hl
    repeat (first
      | (refine wpAny_ite_false (decide_eq_false (by rw [c0]; exact Bool.false_ne_true)) ?_; wp_walk using wpAny_loadPart' hl)
      | (refine wpAny_ite_false (decide_eq_false (by rw [c1]; exact Bool.false_ne_true)) ?_; wp_walk using wpAny_loadPart' hl)
      | (refine wpAny_ite_true (decide_eq_true c2) ?_; wp_walk using wpAny_loadPart' hl))
    exact ⟨_, rfl, h⟩
def rRepT0 (K : PySem.W.Frag) : R2 := fun x y H Q => ∃ l k xs, x = .ref l ∧ y = .int k ∧ SqT K H l xs ∧ (((xs = [] ∨ k = 1) ∧ -1000 ≤ k ∧ k ≤ 1000 ∧ Q (.ref l) H) ∨ (xs ≠ [] ∧ k = 0 ∧ ∀ p, H p = none → Q (.ref p) (upd H p (.tup []))))
theorem op_repT0 : OpR X (binaryOp .Mult) (rRepT0 X.K) := by
  intro pins s σ H x y v u Q I rx ry h
  obtain ⟨l, k, xs, rfl, rfl, hT, q⟩ := h
  cases rx
  obtain ⟨t, rfl⟩ := ry
  obtain ⟨its, r, ⟨⟨cls, dd, data, sl⟩, ho, hc, n, hd⟩, hs⟩ := I.tuple hT
  simp only at hc hd
  subst hc hd
  have hle : its.length = xs.length := r.length.symm
  rcases q with ⟨hk, k1, k2, q⟩ | ⟨hne, rfl, q⟩
  · have c1 : (its.toArray.isEmpty || k == 1) = true := by
      rcases hk with rfl | rfl
      · have : its = [] := List.eq_nil_of_length_eq_zero hle
        rw [this]; rfl
      · rw [Bool.or_eq_true]; exact .inr rfl
    exact wpAny_binaryOp_repeat_ref (T := "tuple") (U := "int") (by decide) ⟨_, ho, rfl⟩ (fun s' => typeIs_int s' k t) noFill_tuple_mul F.fills_int_mul F.slot_int_rmul repeat_tuple F.slot_int_index.lookup
      (call_meets F.slot_int_rmul (typeIs_int s k t) F.entry_int_rmul (F.args_int_rmul_2 _ _) (int_rmul_tuple k t l its.toArray n dd sl)
        ⟨ho, rfl, ⟨_, ho, rfl⟩, call_meets F.slot_tuple_mul ⟨_, ho, rfl⟩ F.entry_tuple_mul (F.args_tuple_mul_2 _ _) (tuple_mul1 l its.toArray n dd sl k t (by rw [decide_eq_false (by omega), decide_eq_false (by omega)]; rfl) c1) ⟨ho, ⟨.ref l, H, I, rfl, q⟩⟩⟩)
  · have hi : its.toArray.isEmpty = false := by
      cases its with
      | nil => exact absurd (List.eq_nil_of_length_eq_zero hle.symm) hne
      | cons a b => rfl
    refine wpAny_binaryOp_repeat_ref (T := "tuple") (U := "int") (by decide) ⟨_, ho, rfl⟩ (fun s' => typeIs_int s' 0 t) noFill_tuple_mul F.fills_int_mul F.slot_int_rmul repeat_tuple F.slot_int_index.lookup
      (call_meets F.slot_int_rmul (typeIs_int s 0 t) F.entry_int_rmul (F.args_int_rmul_2 _ _) (int_rmul_tuple 0 t l its.toArray n dd sl)
        ⟨ho, rfl, ⟨_, ho, rfl⟩, call_meets F.slot_tuple_mul ⟨_, ho, rfl⟩ F.entry_tuple_mul (F.args_tuple_mul_2 _ _) (tuple_mul0 l its.toArray n dd sl 0 t (by decide) (by rw [hi]; rfl) (by rfl)) ⟨ho, ?_⟩⟩)
    refine ⟨.ref s.heap.objs.size, _, I.laid (t' := s.toks) (o := .tup []) (fun b ob q => Heap.get?_push_of_some _ q) (Nat.le_refl _) ?_, rfl, q _ (I.hok.fresh (Nat.le_refl _))⟩
    exact ⟨Nat.zero_le _, [], .nil, IsTup.new _ _⟩
theorem list_extend_tup (l : Addr) (items : Array Value) (n : Nat) (b : Addr) (items2 : Array Value) (n2 : Nat) (dd : Option Addr) (sl : Array (Option Value)) (hs0 : ¬(!items.isEmpty && Builtin.List.listTooLong (items.size + items2.size)) = true) (hs1 : items.size ≤ sizeLine) (hs2 : items.size + items2.size ≤ sizeLine + 1) :
    Meets (Builtin.«list.extend» ⟨[.ref l, .ref b], []⟩) (fun _ R s => s.heap.get? l = some { cls := .type "list", dict := none, data := .seq items n, slots := #[] } ∧ s.heap.get? b = some { cls := .type "tuple", dict := dd, data := .seq items2 n2, slots := sl } ∧ R (.ok (.ret Value.none)) { s with heap := s.heap.update l (Obj.mapSeq fun x => x ++ items2), toks := s.toks }) :=
  .of_wp fun prog w A R s h => by
    obtain ⟨hp, g, d, tk, os⟩ := s; obtain ⟨hl, hb, h⟩ := h; have f1 := AutoSeq1.idx_int; have f2 := AutoSeq1.sub_tuple_tuple; have f3 := AutoSeq1.sub_list_list; have f4 := AutoSeq1.sub_tuple_list; have f5 := AutoSeq1.sub_list_tuple
    have hz' : (items ++ items2).size ≤ sizeLine + 1 := by rw [Array.size_append]; exact hs2
    wp_walk using (wpAny_updateSeq hl rfl (hz := hs1) (_hz' := hz')), wpAny_loadPart' hl, wpAny_loadPart' hb; exact ⟨_, rfl, h⟩
def rExtendA (K : PySem.W.Frag) : V → List V → Hp → VK → Prop := fun x vs H Q => rExtend x vs H Q ∨ ∃ l b xs zs, x = .ref l ∧ vs = [.ref b] ∧ H l = some (.lst xs) ∧ SqT K H b zs ∧ xs.length + zs.length ≤ sizeLine ∧ Q .non (upd H l (.lst (xs ++ zs)))
theorem mt_extendA : MtM X "list.extend" (rExtendA X.K) := by
  intro pins s σ H x vs v us Q I rx rv h
  rcases h with h | h
  · exact mt_extend pins s σ H x vs v us Q I rx rv h
  obtain ⟨l, b, xs, zs, rfl, rfl, hH, hB, hz, q⟩ := h
  cases rx
  obtain ⟨u, rfl, ru⟩ := rv.one
  cases ru
  obtain ⟨z, its, n, r, hl, e⟩ := I.lstM hH
  obtain ⟨its2, r2, ⟨⟨cls, dd, data, sl⟩, ho, hc, n2, hd⟩, hs⟩ := I.tuple hB
  simp only at hc hd
  subst hc hd
  have hl2 := r2.length
  have hsz : its.toArray.size + its2.toArray.size ≤ sizeLine := by rw [List.size_toArray, List.size_toArray]; omega
  have hlong : ¬ (!its.toArray.isEmpty && Builtin.List.listTooLong (its.toArray.size + its2.toArray.size)) = true := by
    rw [notLongL hsz, Bool.and_false]
    exact Bool.false_ne_true
  refine call_meets F.slot_list_extend ⟨_, e, rfl⟩ F.entry_list_extend (F.args_list_extend_2 _ _)
    (list_extend_tup l its.toArray n b its2.toArray n2 dd sl hlong (by rw [List.size_toArray]; omega) (by omega)) ⟨e, ho, ?_⟩
  refine ⟨.non, _, I.lset (its' := its ++ its2) hH e (by simp) (r.append r2) ?_, rfl, q⟩
  rw [List.length_append]
  omega
end
end Tw
set_option Elab.async false
set_option linter.all false
set_option maxRecDepth 100000
set_option maxHeartbeats 4000000
/-! C2c: tuple[::-1]. -/
namespace Tw
open PySem L2 PySem.Spec PyProof.Rows HT
section
variable {prog : Program} {w : World} {A : Around} {E : Value → Shared → Prop} {s : Shared}
theorem adjust_rev (n : Nat) : Builtin.Slice.sliceAdjust none none (-1) (n : Int) = ((n : Int) - 1, -1) := by
  unfold Builtin.Slice.sliceAdjust
  simp
theorem places_rev (n : Nat) : Builtin.Slice.slicePlaces ((n : Int) - 1) (-1) (-1) = n := by
  unfold Builtin.Slice.slicePlaces
  simp
  try split <;> omega
theorem pick_rev (xs : Array Value) : ((List.range xs.size).filterMap fun (m : Nat) => xs[((xs.size : Int) - 1 + (m : Int) * (-1)).toNat]?).toArray = xs.toList.reverse.toArray := by
  congr 1
  have e : (List.range xs.size).filterMap (fun (m : Nat) => xs[((xs.size : Int) - 1 + (m : Int) * (-1)).toNat]?) = ((List.range xs.size).map (fun k => xs.size - 1 - k)).filterMap (xs[·]?) := by
    rw [List.filterMap_map]
    have e2 : (fun (m : Nat) => xs[((xs.size : Int) - 1 + (m : Int) * (-1)).toNat]?) = ((fun x => xs[x]?) ∘ fun k => xs.size - 1 - k) := by
      funext m
      have : ((xs.size : Int) - 1 + (m : Int) * (-1)).toNat = xs.size - 1 - m := by omega
      show _ = xs[xs.size - 1 - m]?
      rw [this]
    rw [e2]
  rw [e, PySem.W.krv_range, List.filterMap_reverse, PySem.W.krv_all]
theorem sliceApplied_rev {sl : Addr} {vl vu vs : Value} {n : Nat} {Q : Int × Int × Nat → Shared → Prop} (hs : s.heap.IsSliceOf sl vl vu vs) (pl : IsPart vl none) (pu : IsPart vu none) (ps : IsPart vs (some (-1)))
    (h : Q ((n : Int) - 1, -1, n) s) : wpAny (model prog w) A (Builtin.Slice.sliceApplied (.ref sl) (pure (n : Int))) Q E s := by
  obtain ⟨os, hos, hcs, hds⟩ := id hs
  unfold Builtin.Slice.sliceApplied Builtin.Slice.sliceFields
  refine wpAny_bind (wpAny_bind (wpAny_field hos hds (x := vl) rfl (wpAny_bind (wpAny_field hos hds (x := vu) rfl (wpAny_bind (wpAny_field hos hds (x := vs) rfl (wpAny_pure ?_)))))))
  refine wpAny_bind (slicePart_ ps ?_)
  show wpAny _ _ (if ((-1 : Int) == 0) = true then _ else _) _ _ s
  rw [if_neg (by decide)]
  refine wpAny_bind (slicePart_ pl (wpAny_bind (slicePart_ pu (wpAny_bind (wpAny_pure ?_)))))
  show wpAny _ _ (match Builtin.Slice.sliceAdjust none none (-1) (n : Int) with | (lo, hi) => pure (lo, (-1 : Int), Builtin.Slice.slicePlaces lo hi (-1))) _ _ s
  rw [adjust_rev n]
  show wpAny _ _ (pure ((n : Int) - 1, (-1 : Int), Builtin.Slice.slicePlaces ((n : Int) - 1) (-1) (-1))) _ _ s
  rw [places_rev]
  exact wpAny_pure h
theorem getItem_tuple_rev {t sl : Addr} {items : Array Value} {vl vu vs : Value} {Q : Value → Shared → Prop} (ht : IsTup s.heap t items) (hs : s.heap.IsSliceOf sl vl vu vs) (pl : IsPart vl none) (pu : IsPart vu none) (ps : IsPart vs (some (-1)))
    (h : Q (.ref s.heap.objs.size) { s with heap := s.heap.push { cls := .type "tuple", data := .seq items.toList.reverse.toArray } })
    (hsz : items.size ≤ sizeLine) : wpAny (model prog w) A (getItem (.ref t) (.ref sl)) Q E s := by
  have htake : sizeOk (.seq items.toList.reverse.toArray) := by
    show items.toList.reverse.toArray.size ≤ sizeLine
    rw [List.size_toArray, List.length_reverse, Array.length_toList]
    omega
  obtain ⟨os, hos, hcs, hds⟩ := id hs
  have hTs : s.TypeIs (.ref sl) "slice" := ⟨os, hos, hcs⟩
  unfold getItem
  try with_reducible refine wpAny_holding ?_
  first | refine wpAny_bind (wpAny_pure ?_) | skip
  refine wpAny_bind (wpAny_sequenceKey ht.typeIs (by decide) ?_)
  refine wpAny_bind (wpAny_callSpecial?_slot (name := Str.ofString "__getitem__") ht.typeIs PyProof.Rows.slot_tuple_getitem
    (wpAny_call_entry PyProof.Rows.slot_tuple_getitem ht.typeIs entry_tuple_getitem ?_ (args_tuple_getitem _ _)))
  show wpAny _ _ (Builtin.Tuple.tupleItemsOf (.ref t) >>= _) _ _ s
  refine wpAny_bind (tupleItemsOf_ ht ?_)
  refine wpAny_bind (wpAny_typeOf hTs ?_)
  rw [if_pos (by decide)]
  refine wpAny_bind (sliceApplied_rev hs pl pu ps ?_)
  have hno : ¬ ((((items.size : Int) - 1) == 0 && (-1 : Int) == 1 && items.size == items.size) = true) := by
    intro q
    rw [Bool.and_eq_true, Bool.and_eq_true] at q
    exact absurd q.1.2 (by decide)
  show wpAny _ _ (if (((items.size : Int) - 1) == 0 && (-1 : Int) == 1 && items.size == items.size) = true then _ else _) _ _ s
  rw [if_neg hno, pick_rev]
  first
    | exact wpAny_bind (m := Builtin.Tuple.tupleExact _) (wpAny_newObj_type (wpAny_pure ⟨_, rfl, wpAny_pure h⟩) htake)
    | exact wpAny_bind (m := Builtin.Tuple.tupleExact _) (wpAny_newObj_type (wpAny_bind (wpAny_pure (wpAny_pure ⟨_, rfl, wpAny_pure h⟩))) htake)
    | exact wpAny_bind (wpAny_bind (m := Builtin.Tuple.tupleExact _) (wpAny_newObj_type (wpAny_pure (wpAny_pure ⟨_, rfl, wpAny_pure h⟩)) htake))
    | exact wpAny_bind (wpAny_bind (m := Builtin.Tuple.tupleExact _) (wpAny_newObj_type (wpAny_pure ⟨_, rfl, wpAny_pure h⟩) htake))
end
section
variable {X : Cx}
def tRevT (K : PySem.W.Frag) (te : TE) : TE := fun σ H Q => te σ H fun x H1 => ∃ a xs, x = .ref a ∧ SqT K H1 a xs ∧ ∀ p, H1 p = none → Q (.ref p) (upd H1 p (.tup xs.reverse))
theorem pe_revT {e : Expr} {te : TE} {k : Nat} {p1 p2 p3 pos : Pos} (he : PE X e te) : PE X (.Subscript e (.Slice none none (some (.UnaryOp .USub (.Constant (.int 1) k p1) p2)) p3) pos) (tRevT X.K te) := by
  refine ⟨fun pins s σ H Q I h => ?_⟩
  refine Subscript_ (thn (he.run pins s σ H _ I h) fun v s1 ⟨x, H1, I1, r1, q1⟩ => ?_)
  obtain ⟨a, xs, ex, hx, q⟩ := q1
  subst ex
  cases r1
  have hst : PO X (some (.UnaryOp .USub (.Constant (.int 1) k p1) p2)) (tPart (tUn (rU fun i => .int (-i)) (tC (.int 1)))) := po_some (pe_un un_neg pe_int)
  refine wpAny_Slice (thn (po_none.run pins s1 σ H1 (fun o H2 => o = none ∧ H2 = H1) I1 ⟨rfl, rfl⟩) fun vl s2 ⟨l, H2, I2, pl, el, e2⟩ => ?_)
  subst el e2
  refine thn (po_none.run pins s2 σ H2 (fun o H3 => o = none ∧ H3 = H2) I2 ⟨rfl, rfl⟩) fun vu s3 ⟨u, H3, I3, pu, eu, e3⟩ => ?_
  subst eu e3
  refine thn (hst.run pins s3 σ H3 (fun o H4 => o = some (-1) ∧ H4 = H3) I3 ⟨1, rfl, -1, rfl, rfl, rfl⟩) fun vs s4 ⟨o, H4, I4, ps, eo, e4⟩ => ?_
  subst eo e4
  have I5 : Inv X pins σ H4 { s4 with heap := s4.heap.push { cls := .type "slice", data := .fields #[vl, vu, vs] } } := I4.kept (t' := s4.toks) fun b ob q => Heap.get?_push_of_some _ q
  obtain ⟨its, r, ht, hz⟩ := I5.tuple hx
  have hlen := r.length
  show wpAny (model X.prog X.w) X.A (subscriptTail e (.Slice none none (some (.UnaryOp .USub (.Constant (.int 1) k p1) p2)) p3) (.ref a) (.ref s4.heap.objs.size)) (EP X pins σ Q) X.xe { s4 with heap := s4.heap.push { cls := .type "slice", data := .fields #[vl, vu, vs] } }
  refine tail_any (ops := [.ref a, .ref s4.heap.objs.size]) ht.typeIs (PyProof.Rows.slot_tuple_getitem.lookup) ?_ (by with_unfolding_all rfl)
  refine getItem_tuple_rev ht (Heap.IsSliceOf.new _ vl vu vs) pl pu ps ?_ (by rw [List.size_toArray]; omega)
  refine ⟨.ref _, _, I5.laid (t' := s4.toks) (o := .tup xs.reverse) (fun b ob q => Heap.get?_push_of_some _ q) (Nat.le_refl _) ?_, rfl, q _ (I5.hok.fresh (Nat.le_refl _))⟩
  exact ⟨by rw [List.length_reverse]; exact hz, _, r.reverse, IsTup.new _ _⟩
end
end Tw
set_option Elab.async false
set_option linter.all false
set_option maxRecDepth 100000
set_option maxHeartbeats 4000000
/-! C3: the operations, by values. -/
namespace Tw
open PySem L2

theorem sizeL_eq : sizeL = sizeLine := by rw [sizeLine_eq]; rfl
/-- what is wanted behind an operation that leaves the store: data z -/
abbrev PostD (K : PySem.W.Frag) (CA : CAT) (F : Hp) (φ : List FP) (st : Sto) (H : Hp) (z : PyData) (Q : VK) : Prop :=
  ∀ F' H' v, Nx K CA F φ H F' φ st H' → Rp K F' v z → Q v H'
section
variable {K : PySem.W.Frag} {CA : CAT} {F H : Hp} {φ : List FP} {st : Sto} {u w : V} {x y z : PyData} {Q : VK}

theorem PostD.self (r : R K CA F φ st H) (q : PostD K CA F φ st H z Q) {v : V} (h : Rp K F v z) : Q v H := q F H v r.nx h
theorem PostD.lst (r : R K CA F φ st H) {ds : List PyData} {vs : List V} (q : PostD K CA F φ st H (.list ds) Q) (h : RpA K F vs ds) (z : ds.length ≤ sizeL) : ∀ p, H p = none → Q (.ref p) (upd H p (.lst vs)) := fun p hp => by
  have n := r.nxData hp (.lst vs)
  exact q _ _ _ n (.lst upd_same z (h.le n.le))
theorem PostD.tup (r : R K CA F φ st H) {ds : List PyData} {vs : List V} (q : PostD K CA F φ st H (.tuple ds) Q) (h : RpA K F vs ds) (z : ds.length ≤ sizeL) : ∀ p, H p = none → Q (.ref p) (upd H p (.tup vs)) := fun p hp => by
  have n := r.nxData hp (.tup vs)
  exact q _ _ _ n (.tup (SqT.of upd_same) z (h.le n.le))
theorem Rt.tup {ds : List PyData} (r : R K CA F φ st H) (h : Rt K F H u (.tuple ds)) : ∃ a vs, u = .ref a ∧ SqT K H a vs ∧ ds.length ≤ sizeL ∧ RpA K F vs ds ∧ Rp K F (.ref a) (.tuple ds) := by
  have h' : Rp K F u (.tuple ds) := h
  cases h' with
  | tup s z q => exact ⟨_, _, rfl, SqT.le r.sub s, z, q, .tup s z q⟩

/-! ### + - * // % -/
def rAddA (K : PySem.W.Frag) : R2 := fun x y H Q => rI0 (fun i j => .int (i + j)) x y H Q ∨ (∃ i j, x = .str i ∧ y = .str j ∧ i.length + j.length ≤ sizeLine ∧ Q (.str (i ++ j)) H) ∨ rCat x y H Q ∨ rCatA K x y H Q
theorem op_addA {X : Cx} : OpR X (binaryOp .Add) (rAddA X.K) := op_add.or (op_add_str.or (op_cat.or op_catA))
theorem add_ok (r : R K CA F φ st H) (hx : Rt K F H u x) (hy : Rt K F H w y) (e : addD x y = some z) (q : PostD K CA F φ st H z Q) : rAddA K u w H Q := by
  unfold addD at e
  split at e
  · cases e
    have hx' : Rp K F u (.int _) := hx
    have hy' : Rp K F w (.int _) := hy
    cases hx'; cases hy'
    exact .inl ⟨_, _, rfl, rfl, q.self r (.int _)⟩
  · split at e
    · rename_i hl
      cases e
      have hx' : Rp K F u (.str _) := hx
      have hy' : Rp K F w (.str _) := hy
      cases hx'; cases hy'
      rw [sizeL_eq] at hl
      exact .inr (.inl ⟨_, _, rfl, rfl, hl, q.self r (.str _)⟩)
    · cases e
  · split at e
    · rename_i hl
      cases e
      obtain ⟨a, vs, rfl, h1, h2, h3⟩ := hx
      obtain ⟨b, ws, rfl, g1, g2, g3⟩ := hy
      refine .inr (.inr (.inl ⟨a, b, vs, ws, rfl, rfl, h1, g1, ?_, q.lst r (h3.append g3) (by rw [List.length_append]; exact hl)⟩))
      rw [h3.length, g3.length, ← sizeL_eq]; exact hl
    · cases e
  · split at e
    · rename_i hl
      cases e
      obtain ⟨a, vs, rfl, h1, h2, h3, h4⟩ := Rt.tup r hx
      obtain ⟨b, ws, rfl, g1, g2, g3, g4⟩ := Rt.tup r hy
      refine .inr (.inr (.inr ⟨a, b, vs, ws, rfl, rfl, h1, g1, ?_, fun e => ?_, fun e1 e2 => ?_, fun _ _ => q.tup r (h3.append g3) (by rw [List.length_append]; exact hl)⟩))
      · rw [h3.length, g3.length, ← sizeL_eq]; exact hl
      · subst e
        cases h3
        exact q.self r g4
      · subst e2
        cases g3
        rw [List.append_nil] at q
        exact q.self r h4
    · cases e
  · cases e
theorem sub_ok (r : R K CA F φ st H) (hx : Rt K F H u x) (hy : Rt K F H w y) (e : binD .sub x y = some z) (q : PostD K CA F φ st H z Q) : rI0 (fun i j => .int (i - j)) u w H Q := by
  unfold binD at e
  split at e
  · rename_i h; cases h
  · cases e
    have hx' : Rp K F u (.int _) := hx
    have hy' : Rp K F w (.int _) := hy
    cases hx'; cases hy'
    exact ⟨_, _, rfl, rfl, q.self r (.int _)⟩
  · rename_i h; cases h
  · rename_i h; cases h
  · rename_i h; cases h
  · cases e
theorem fdiv_ok (r : R K CA F φ st H) (hx : Rt K F H u x) (hy : Rt K F H w y) (e : binD .fdiv x y = some z) (q : PostD K CA F φ st H z Q) : rI CDiv (fun i j => .int (i / j)) u w H Q := by
  unfold binD at e
  split at e
  · rename_i h; cases h
  · rename_i h; cases h
  · rename_i h; cases h
  · split at e
    · rename_i hc
      cases e
      have hx' : Rp K F u (.int _) := hx
      have hy' : Rp K F w (.int _) := hy
      cases hx'; cases hy'
      exact ⟨_, _, rfl, rfl, hc, q.self r (.int _)⟩
    · cases e
  · rename_i h; cases h
  · cases e
theorem mod_ok (r : R K CA F φ st H) (hx : Rt K F H u x) (hy : Rt K F H w y) (e : binD .mod x y = some z) (q : PostD K CA F φ st H z Q) : rI (fun _ j => 0 < j) (fun i j => .int (i % j)) u w H Q := by
  unfold binD at e
  split at e
  · rename_i h; cases h
  · rename_i h; cases h
  · rename_i h; cases h
  · rename_i h; cases h
  · split at e
    · rename_i hc
      cases e
      have hx' : Rp K F u (.int _) := hx
      have hy' : Rp K F w (.int _) := hy
      cases hx'; cases hy'
      exact ⟨_, _, rfl, rfl, hc, q.self r (.int _)⟩
    · cases e
  · cases e
def rMulA (K : PySem.W.Frag) : R2 := fun x y H Q => rI CMul (fun i j => .int (i * j)) x y H Q ∨ rRepS x y H Q ∨ rRepT K x y H Q ∨ rRepT0 K x y H Q
theorem op_mulA {X : Cx} : OpR X (binaryOp .Mult) (rMulA X.K) := op_mul.or (op_repS.or (op_repT.or op_repT0))
theorem RpA.rep {vs : List V} {ds : List PyData} (h : RpA K F vs ds) : ∀ k, RpA K F (List.replicate k vs).flatten (List.replicate k ds).flatten
  | 0 => .nil
  | k + 1 => by
    rw [List.replicate_succ, List.replicate_succ, List.flatten_cons, List.flatten_cons]
    exact h.append (RpA.rep h k)
theorem RpA.rev : ∀ {vs : List V} {ds : List PyData}, RpA K F vs ds → RpA K F vs.reverse ds.reverse
  | _, _, .nil => .nil
  | _, _, .cons h t => by
    rw [List.reverse_cons, List.reverse_cons]
    exact (RpA.rev t).append (.cons h .nil)
theorem mul_ok (r : R K CA F φ st H) (hx : Rt K F H u x) (hy : Rt K F H w y) (e : mulD x y = some z) (q : PostD K CA F φ st H z Q) : rMulA K u w H Q := by
  unfold mulD at e
  split at e
  · split at e
    · rename_i hc
      cases e
      have hx' : Rp K F u (.int _) := hx
      have hy' : Rp K F w (.int _) := hy
      cases hx'; cases hy'
      exact .inl ⟨_, _, rfl, rfl, hc, q.self r (.int _)⟩
    · cases e
  · split at e
    · rename_i hc
      cases e
      have hx' : Rp K F u (.str _) := hx
      have hy' : Rp K F w (.int _) := hy
      cases hx'; cases hy'
      rw [sizeL_eq] at hc
      exact .inr (.inl ⟨_, _, rfl, rfl, hc.1, hc.2.1, hc.2.2, q.self r (.str _)⟩)
    · cases e
  · rename_i xs k
    split at e
    · rename_i hc
      cases e
      obtain ⟨a, vs, rfl, h1, h2, h3, h4⟩ := Rt.tup r hx
      have hy' : Rp K F w (.int _) := hy
      cases hy'
      have hl := h3.length
      by_cases he : vs = [] ∨ k = 1
      · have hq : (List.replicate k.toNat xs).flatten = xs := by
          rcases he with rfl | rfl
          · cases h3; simp
          · simp
        rw [hq] at q
        exact .inr (.inr (.inr ⟨a, _, vs, rfl, rfl, h1, .inl ⟨he, by omega, by omega, q.self r h4⟩⟩))
      · have hne : vs ≠ [] := fun g => he (.inl g)
        have hk1 : k ≠ 1 := fun g => he (.inr g)
        by_cases hk : k = 0
        · subst hk
          exact .inr (.inr (.inr ⟨a, _, vs, rfl, rfl, h1, .inr ⟨hne, rfl, q.tup r .nil (Nat.zero_le _)⟩⟩))
        · refine .inr (.inr (.inl ⟨a, _, vs, rfl, rfl, h1, hne, by omega, hc.2.1, by omega, q.tup r (h3.rep _) ?_⟩))
          rw [PyProof.Rows.lm_len_rep_flat]
          have a1 : k.toNat * xs.length ≤ 1000 * 1000 := Nat.mul_le_mul (by omega) hc.2.2
          show _ ≤ 16777216
          omega
    · cases e
  · cases e

/-! ### == and its like -/
mutual
theorem Rp.dp (l : Le F H) : ∀ {v : V} {d : PyData}, Rp K F v d → d.canLay0 = true → Dp K H v d
  | _, _, .non, _ => .non
  | _, _, .bl b, _ => .bl b
  | _, _, .int i, _ => .int i
  | _, _, .str x, _ => .str x
  | _, _, .lst h _ r, e => .lst (SqL.of (l _ _ h)) (RpA.dp l r (by simpa [PyData.canLay0] using e))
  | _, _, .tup h _ r, e => .tup (SqT.le l h) (RpA.dp l r (by simpa [PyData.canLay0] using e))
  | _, _, .dct _ _, e => by simp [PyData.canLay0] at e
theorem RpA.dp (l : Le F H) : ∀ {vs : List V} {ds : List PyData}, RpA K F vs ds → PyData.canLayAll0 ds = true → DpAll K H vs ds
  | _, _, .nil, _ => .nil
  | _, _, .cons h r, e => by
    simp only [PyData.canLayAll0, Bool.and_eq_true] at e
    exact .cons (Rp.dp l h e.1) (RpA.dp l r e.2)
end
theorem Rt.dp (r : R K CA F φ st H) (h : Rt K F H u x) (e : x.canLay0 = true) : Dp K H u x := by
  cases x with
  | list ds =>
    obtain ⟨a, vs, rfl, h1, h2, h3⟩ := h
    exact .lst (SqL.of h1) (RpA.dp r.sub h3 (by simpa [PyData.canLay0] using e))
  | dict ds => simp [PyData.canLay0] at e
  | none => exact Rp.dp r.sub h e
  | bool b => exact Rp.dp r.sub h e
  | int i => exact Rp.dp r.sub h e
  | str s => exact Rp.dp r.sub h e
  | tuple ds => exact Rp.dp r.sub h e
def rEqO (K : PySem.W.Frag) : R2 := fun x y H Q => ∃ d e, Dp K H x d ∧ Dp K H y e ∧ okD d = true ∧ okD e = true ∧ Q (.bl (PyData.eqv d e)) H
def rNeO (K : PySem.W.Frag) : R2 := fun x y H Q => ∃ d e, Dp K H x d ∧ Dp K H y e ∧ okD d = true ∧ okD e = true ∧ Q (.bl (!PyData.eqv d e)) H
theorem okD_lay {d : PyData} (h : okD d = true) : d.canLay0 = true := (Bool.and_eq_true_iff.mp h).1
theorem okD_room {A : Around} {d e : PyData} (h : okD d = true) (hu : A.units + 150 < cLine) : A.units + min d.depth e.depth < cLine := by
  have h1 : d.depth ≤ 150 := of_decide_eq_true (Bool.and_eq_true_iff.mp h).2
  have h2 : min d.depth e.depth ≤ d.depth := Nat.min_le_left _ _
  omega
theorem op_eqO {X : Cx} (hu : X.A.units + 150 < cLine) : OpR X (compareOp .Eq) (rEqO X.K) := by
  intro pins s σ H x y v u Q I rx ry h
  obtain ⟨d, e, hd, he, sd, se, q⟩ := h
  obtain ⟨as, r1⟩ := Dp.reads I d x v hd rx
  obtain ⟨bs, r2⟩ := Dp.reads I e y u he ry
  exact SeqAt.compareEq_reads r1 r2 (okD_lay sd) (okD_lay se) (okD_room sd hu) ⟨.bl _, H, I, rfl, q⟩
theorem op_neO {X : Cx} (hu : X.A.units + 150 < cLine) : OpR X (compareOp .NotEq) (rNeO X.K) := by
  intro pins s σ H x y v u Q I rx ry h
  obtain ⟨d, e, hd, he, sd, se, q⟩ := h
  obtain ⟨as, r1⟩ := Dp.reads I d x v hd rx
  obtain ⟨bs, r2⟩ := Dp.reads I e y u he ry
  exact SeqAt.compareNe_reads r1 r2 (okD_lay sd) (okD_lay se) (okD_room sd hu) ⟨.bl _, H, I, rfl, q⟩
def rEqA (K : PySem.W.Frag) : R2 := fun x y H Q => rEq x y H Q ∨ rEqO K x y H Q
def rNeA (K : PySem.W.Frag) : R2 := fun x y H Q => rNe x y H Q ∨ rNeO K x y H Q
theorem op_eqA {X : Cx} (hu : X.A.units + 150 < cLine) : OpR X (compareOp .Eq) (rEqA X.K) := op_eq.or (op_eqO hu)
theorem op_neA {X : Cx} (hu : X.A.units + 150 < cLine) : OpR X (compareOp .NotEq) (rNeA X.K) := op_ne.or (op_neO hu)
theorem vint_dec (i j : Int) : decide (V.int i = V.int j) = decide (i = j) := by
  by_cases h : i = j
  · subst h; simp
  · rw [decide_eq_false h, decide_eq_false (fun e => h (V.int.inj e))]
theorem vstr_dec (i j : Str) : decide (V.str i = V.str j) = decide (i = j) := by
  by_cases h : i = j
  · subst h; simp
  · rw [decide_eq_false h, decide_eq_false (fun e => h (V.str.inj e))]
theorem eq_ok {b : Bool} (r : R K CA F φ st H) (hx : Rt K F H u x) (hy : Rt K F H w y) (e : eqD x y = some b) (q : PostD K CA F φ st H (.bool b) Q) : rEqA K u w H Q := by
  unfold eqD at e
  split at e
  · cases e
    have hx' : Rp K F u (.int _) := hx
    have hy' : Rp K F w (.int _) := hy
    cases hx'; cases hy'
    refine .inl ⟨rfl, ?_⟩
    rw [vint_dec]; exact q.self r (.bl _)
  · cases e
    have hx' : Rp K F u (.str _) := hx
    have hy' : Rp K F w (.str _) := hy
    cases hx'; cases hy'
    refine .inl ⟨rfl, ?_⟩
    rw [vstr_dec]; exact q.self r (.bl _)
  · split at e
    · rename_i hc
      cases e
      obtain ⟨c1, c2⟩ := Bool.and_eq_true_iff.mp hc
      exact .inr ⟨_, _, Rt.dp r hx (okD_lay c1), Rt.dp r hy (okD_lay c2), c1, c2, q.self r (.bl _)⟩
    · cases e
theorem ne_ok {b : Bool} (r : R K CA F φ st H) (hx : Rt K F H u x) (hy : Rt K F H w y) (e : eqD x y = some b) (q : PostD K CA F φ st H (.bool (!b)) Q) : rNeA K u w H Q := by
  unfold eqD at e
  split at e
  · cases e
    have hx' : Rp K F u (.int _) := hx
    have hy' : Rp K F w (.int _) := hy
    cases hx'; cases hy'
    refine .inl ⟨rfl, ?_⟩
    rw [vint_dec]; exact q.self r (.bl _)
  · cases e
    have hx' : Rp K F u (.str _) := hx
    have hy' : Rp K F w (.str _) := hy
    cases hx'; cases hy'
    refine .inl ⟨rfl, ?_⟩
    rw [vstr_dec]; exact q.self r (.bl _)
  · split at e
    · rename_i hc
      cases e
      obtain ⟨c1, c2⟩ := Bool.and_eq_true_iff.mp hc
      exact .inr ⟨_, _, Rt.dp r hx (okD_lay c1), Rt.dp r hy (okD_lay c2), c1, c2, q.self r (.bl _)⟩
    · cases e
/-! ### in -/
theorem flat_of (h : Rp K F u x) (e : flatD x = true) : flatV u = true := by
  cases h with
  | non => rfl
  | bl => rfl
  | int => rfl
  | str => rfl
  | lst => cases e
  | tup => cases e
  | dct => cases e
theorem eqV_of {v : V} (h : Rp K F u x) (h' : Rp K F v y) (e : flatD x = true) (e' : flatD y = true) : eqV u v = PyData.eqv x y := by
  cases h with
  | non => cases h' with
    | non => rfl
    | bl => rfl
    | int => rfl
    | str => rfl
    | lst => cases e'
    | tup => cases e'
    | dct => cases e'
  | bl => cases h' with
    | non => rfl
    | bl => rfl
    | int => rfl
    | str => rfl
    | lst => cases e'
    | tup => cases e'
    | dct => cases e'
  | int => cases h' with
    | non => rfl
    | bl => rfl
    | int => rfl
    | str => rfl
    | lst => cases e'
    | tup => cases e'
    | dct => cases e'
  | str => cases h' with
    | non => rfl
    | bl => rfl
    | int => rfl
    | str => rfl
    | lst => cases e'
    | tup => cases e'
    | dct => cases e'
  | lst => cases e
  | tup => cases e
  | dct => cases e
theorem inV_of {ys : List PyData} {ws : List V} (hx : Rp K F u x) (ex : flatD x = true) (h : RpA K F ws ys) (e : ys.all flatD = true) : ws.all flatV = true ∧ inV u ws = ys.any fun z => PyData.eqv z x := by
  induction ws generalizing ys with
  | nil => cases h; exact ⟨rfl, rfl⟩
  | cons v ws ih =>
    cases h with
    | cons h1 h2 =>
      rw [List.all_cons, Bool.and_eq_true] at e
      obtain ⟨i1, i2⟩ := ih h2 e.2
      refine ⟨by rw [List.all_cons, flat_of h1 e.1, i1]; rfl, ?_⟩
      unfold inV at i2 ⊢
      rw [List.any_cons, List.any_cons, i2, eqV_of h1 hx e.1 ex]
def rInB (K : PySem.W.Frag) : R2 := fun x y H Q => rIn K false x y H Q ∨ (∃ (c : Nat) (z : Str), x = .str ⟨#[c]⟩ ∧ y = .str z ∧ Q (.bl (decide (c ∈ z.cps.toList))) H)
def rNinB (K : PySem.W.Frag) : R2 := fun x y H Q => rIn K true x y H Q ∨ (∃ (c : Nat) (z : Str), x = .str ⟨#[c]⟩ ∧ y = .str z ∧ Q (.bl (!decide (c ∈ z.cps.toList))) H)
/-- among items of some depth -/
def rInO (K : PySem.W.Frag) (neg : Bool) : R2 := fun x y H Q => ∃ d ds, Dp K H x d ∧ (Dp K H y (.list ds) ∨ Dp K H y (.tuple ds)) ∧ d.canLay0 = true ∧ d.depth ≤ 60 ∧ PyData.canLayAll0 ds = true ∧ Q (.bl (if neg then !(ds.any fun z => PyData.eqv z d) else ds.any fun z => PyData.eqv z d)) H
theorem op_inO {X : Cx} (hu : X.A.units + 150 < cLine) : OpR X (compareOp .In) (rInO X.K false) := by
  intro pins s σ H x y v u Q I rx ry ⟨d, ds, hd, he, sd, l, se, q⟩
  obtain ⟨as, r1⟩ := Dp.reads I d x v hd rx
  have room : X.A.units + 1 + min (PyData.depthAll ds) d.depth < cLine := by have := Nat.min_le_right (PyData.depthAll ds) d.depth; omega
  rcases he with he | he
  · obtain ⟨bs, r2⟩ := Dp.reads I _ y u he ry
    exact SeqAt.in_list_reads r2 r1 se sd room ⟨.bl _, H, I, rfl, q⟩
  · obtain ⟨bs, r2⟩ := Dp.reads I _ y u he ry
    exact SeqAt.in_tuple_reads r2 r1 se sd room ⟨.bl _, H, I, rfl, q⟩
theorem op_ninO {X : Cx} (hu : X.A.units + 150 < cLine) : OpR X (compareOp .NotIn) (rInO X.K true) := by
  intro pins s σ H x y v u Q I rx ry ⟨d, ds, hd, he, sd, l, se, q⟩
  obtain ⟨as, r1⟩ := Dp.reads I d x v hd rx
  have room : X.A.units + 1 + min (PyData.depthAll ds) d.depth < cLine := by have := Nat.min_le_right (PyData.depthAll ds) d.depth; omega
  rcases he with he | he
  · obtain ⟨bs, r2⟩ := Dp.reads I _ y u he ry
    exact SeqAt.notIn_list_reads r2 r1 se sd room ⟨.bl _, H, I, rfl, q⟩
  · obtain ⟨bs, r2⟩ := Dp.reads I _ y u he ry
    exact SeqAt.notIn_tuple_reads r2 r1 se sd room ⟨.bl _, H, I, rfl, q⟩
def rInA (K : PySem.W.Frag) : R2 := fun x y H Q => rInB K x y H Q ∨ rInO K false x y H Q
def rNinA (K : PySem.W.Frag) : R2 := fun x y H Q => rNinB K x y H Q ∨ rInO K true x y H Q
theorem op_inA {X : Cx} (hu : X.A.units + 150 < cLine) : OpR X (compareOp .In) (rInA X.K) := (op_in_seq.or op_in_sign).or (op_inO hu)
theorem op_ninA {X : Cx} (hu : X.A.units + 150 < cLine) : OpR X (compareOp .NotIn) (rNinA X.K) := (op_notIn_seq.or op_notIn_sign).or (op_ninO hu)
theorem lays_all : ∀ {ys : List PyData}, ys.all okD = true → PyData.canLayAll0 ys = true
  | [], _ => by simp [PyData.canLayAll0]
  | y :: ys, h => by
    rw [List.all_cons, Bool.and_eq_true] at h
    simp [PyData.canLayAll0, okD_lay h.1, lays_all h.2]
theorem Rt.flat (h : Rt K F H u x) (e : flatD x = true) : Rp K F u x := by
  cases x with
  | list => cases e
  | dict => cases e
  | none => exact h
  | bool => exact h
  | int => exact h
  | str => exact h
  | tuple => exact h
theorem inD_seq {ys : List PyData} {w' : PyData} {b neg : Bool} (r : R K CA F φ st H) (hx : Rt K F H u x) (hw : (∃ a ws, w = .ref a ∧ (SqL K H a ws ∨ SqT K H a ws) ∧ RpA K F ws ys)) (hy : Rt K F H w w') (hl : w' = .list ys ∨ w' = .tuple ys) (e : inD x ys = some b)
    (q : PostD K CA F φ st H (.bool (if neg then !b else b)) Q) : rIn K neg u w H Q ∨ rInO K neg u w H Q := by
  unfold inD at e
  split at e
  · rename_i hc
    cases e
    obtain ⟨a, ws, rfl, hs, hy'⟩ := hw
    obtain ⟨c1, c2⟩ := Bool.and_eq_true_iff.mp hc
    have hx' := hx.flat c1
    obtain ⟨i1, i2⟩ := inV_of hx' c1 hy' c2
    refine .inl ⟨a, ws, rfl, hs, flat_of hx' c1, i1, ?_⟩
    rw [i2]
    exact q.self r (.bl _)
  · split at e
    · rename_i hc
      cases e
      simp only [Bool.and_eq_true, decide_eq_true_eq] at hc
      have la := lays_all hc.2
      refine .inr ⟨x, ys, Rt.dp r hx hc.1.1, ?_, hc.1.1, hc.1.2, la, q.self r (.bl _)⟩
      rcases hl with rfl | rfl
      · exact .inl (Rt.dp r hy (by simpa [PyData.canLay0] using la))
      · exact .inr (Rt.dp r hy (by simpa [PyData.canLay0] using la))
    · cases e
theorem inS_one {p s : Str} {b : Bool} (e : inS p s = some b) : ∃ c, p = ⟨#[c]⟩ ∧ b = decide (c ∈ s.cps.toList) := by
  unfold inS at e
  split at e
  · rename_i c hc
    cases e
    refine ⟨c, ?_, rfl⟩
    cases p with
    | mk cps =>
      have : cps = #[c] := by
        apply Array.ext'
        simpa using hc
      rw [this]
  · cases e
theorem in_ok {b : Bool} (r : R K CA F φ st H) (hx : Rt K F H u x) (hy : Rt K F H w y) (nd : ∀ kvs, y ≠ .dict kvs) (e : cmpD .inn x y = some b) (q : PostD K CA F φ st H (.bool b) Q) : rInA K u w H Q := by
  cases y with
  | list ys =>
    have e' : inD x ys = some b := by cases x <;> exact e
    obtain ⟨a, vs, ew, h1, h2, h3⟩ := id hy
    exact (inD_seq (neg := false) r hx ⟨a, vs, ew, .inl (SqL.of h1), h3⟩ hy (.inl rfl) e' q).imp .inl id
  | tuple ys =>
    have e' : inD x ys = some b := by cases x <;> exact e
    obtain ⟨a, vs, ew, h1, h2, h3, _⟩ := Rt.tup r hy
    exact (inD_seq (neg := false) r hx ⟨a, vs, ew, .inr h1, h3⟩ hy (.inr rfl) e' q).imp .inl id
  | str s =>
    cases x with
    | str p =>
      obtain ⟨c, rfl, rfl⟩ := inS_one (show inS p s = some b from e)
      have hx' : Rp K F u (.str _) := hx
      have hy' : Rp K F w (.str _) := hy
      cases hx'; cases hy'
      exact .inl (.inr ⟨c, s, rfl, rfl, q.self r (.bl _)⟩)
    | _ => cases e
  | dict kvs => exact absurd rfl (nd kvs)
  | none => cases x <;> cases e
  | bool => cases x <;> cases e
  | int => cases x <;> cases e
theorem nin_ok {b : Bool} (r : R K CA F φ st H) (hx : Rt K F H u x) (hy : Rt K F H w y) (nd : ∀ kvs, y ≠ .dict kvs) (e : cmpD .nin x y = some b) (q : PostD K CA F φ st H (.bool b) Q) : rNinA K u w H Q := by
  cases y with
  | list ys =>
    have e' : (inD x ys).map (!·) = some b := by cases x <;> exact e
    obtain ⟨b', e1, rfl⟩ := Option.map_eq_some_iff.mp e'
    obtain ⟨a, vs, ew, h1, h2, h3⟩ := id hy
    exact (inD_seq (neg := true) r hx ⟨a, vs, ew, .inl (SqL.of h1), h3⟩ hy (.inl rfl) e1 q).imp .inl id
  | tuple ys =>
    have e' : (inD x ys).map (!·) = some b := by cases x <;> exact e
    obtain ⟨b', e1, rfl⟩ := Option.map_eq_some_iff.mp e'
    obtain ⟨a, vs, ew, h1, h2, h3, _⟩ := Rt.tup r hy
    exact (inD_seq (neg := true) r hx ⟨a, vs, ew, .inr h1, h3⟩ hy (.inr rfl) e1 q).imp .inl id
  | str s =>
    cases x with
    | str p =>
      obtain ⟨b', e1, rfl⟩ := Option.map_eq_some_iff.mp (show (inS p s).map (!·) = some b from e)
      obtain ⟨c, rfl, rfl⟩ := inS_one e1
      have hx' : Rp K F u (.str _) := hx
      have hy' : Rp K F w (.str _) := hy
      cases hx'; cases hy'
      exact .inl (.inr ⟨c, s, rfl, rfl, q.self r (.bl _)⟩)
    | _ => cases e
  | dict kvs => exact absurd rfl (nd kvs)
  | none => cases x <;> cases e
  | bool => cases x <;> cases e
  | int => cases x <;> cases e
/-! ### order -/
theorem ord_ok {b : Bool} {o : Cop} (r : R K CA F φ st H) (hx : Rt K F H u x) (hy : Rt K F H w y) (ho : o = .lt ∨ o = .gt ∨ o = .ge) (e : cmpD o x y = some b) (q : PostD K CA F φ st H (.bool b) Q) :
    rI0 (fun i j => .bl (match o with | .lt => decide (i < j) | .gt => decide (j < i) | _ => decide (j ≤ i))) u w H Q := by
  rcases ho with rfl | rfl | rfl
  · cases x with
    | int i =>
      cases y with
      | int j =>
        cases e
        have hx' : Rp K F u (.int _) := hx
        have hy' : Rp K F w (.int _) := hy
        cases hx'; cases hy'
        exact ⟨_, _, rfl, rfl, q.self r (.bl _)⟩
      | _ => cases e
    | _ => cases y <;> cases e
  · cases x with
    | int i =>
      cases y with
      | int j =>
        cases e
        have hx' : Rp K F u (.int _) := hx
        have hy' : Rp K F w (.int _) := hy
        cases hx'; cases hy'
        exact ⟨_, _, rfl, rfl, q.self r (.bl _)⟩
      | _ => cases e
    | _ => cases y <;> cases e
  · cases x with
    | int i =>
      cases y with
      | int j =>
        cases e
        have hx' : Rp K F u (.int _) := hx
        have hy' : Rp K F w (.int _) := hy
        cases hx'; cases hy'
        exact ⟨_, _, rfl, rfl, q.self r (.bl _)⟩
      | _ => cases e
    | _ => cases y <;> cases e
def rLeA : R2 := fun x y H Q => rI0 (fun i j => .bl (decide (i ≤ j))) x y H Q ∨ (∃ i j, x = .str i ∧ y = .str j ∧ Q (.bl (!decide (j.cps.toList < i.cps.toList))) H)
theorem op_leA {X : Cx} : OpR X (compareOp .LtE) rLeA := op_le.or op_le_str
theorem le_ok {b : Bool} (r : R K CA F φ st H) (hx : Rt K F H u x) (hy : Rt K F H w y) (e : cmpD .le x y = some b) (q : PostD K CA F φ st H (.bool b) Q) : rLeA u w H Q := by
  cases x with
  | int i =>
    cases y with
    | int j =>
      cases e
      have hx' : Rp K F u (.int _) := hx
      have hy' : Rp K F w (.int _) := hy
      cases hx'; cases hy'
      exact .inl ⟨_, _, rfl, rfl, q.self r (.bl _)⟩
    | _ => cases e
  | str i =>
    cases y with
    | str j =>
      cases e
      have hx' : Rp K F u (.str _) := hx
      have hy' : Rp K F w (.str _) := hy
      cases hx'; cases hy'
      exact .inr ⟨_, _, rfl, rfl, q.self r (.bl _)⟩
    | _ => cases e
  | _ => cases y <;> cases e

/-! ### subscripts -/
theorem atI_rep {ds : List PyData} {vs : List V} {i : Int} (h : RpA K F vs ds) (e : atI ds i = some z) : ∃ v, atI vs i = some v ∧ Rp K F v z := by
  unfold atI at e ⊢
  rw [← h.length] at e
  cases hj : ixN vs.length i with
  | none => rw [hj] at e; cases e
  | some j =>
    rw [hj] at e
    exact h.get (show ds[j]? = some z from e)
theorem ix_ok (r : R K CA F φ st H) (hx : Rt K F H u x) (hy : Rt K F H w y) (nd : ∀ kvs, x ≠ .dict kvs) (e : ixD x y = some z) (q : PostD K CA F φ st H z Q) : rIx K u w H Q := by
  cases x with
  | list ds =>
    cases y with
    | int i =>
      obtain ⟨a, vs, rfl, h1, h2, h3⟩ := hx
      have hy' : Rp K F w (.int _) := hy
      cases hy'
      obtain ⟨v, h4, h5⟩ := atI_rep h3 e
      exact .inl ⟨a, vs, i, v, rfl, rfl, SqL.of h1, h4, q.self r h5⟩
    | _ => cases e
  | tuple ds =>
    cases y with
    | int i =>
      obtain ⟨a, vs, rfl, h1, h2, h3, _⟩ := Rt.tup r hx
      have hy' : Rp K F w (.int _) := hy
      cases hy'
      obtain ⟨v, h4, h5⟩ := atI_rep h3 e
      exact .inr (.inl ⟨a, vs, i, v, rfl, rfl, h1, h4, q.self r h5⟩)
    | _ => cases e
  | str s =>
    cases y with
    | int i =>
      have hx' : Rp K F u (.str _) := hx
      have hy' : Rp K F w (.int _) := hy
      cases hx'; cases hy'
      have e' : (if s.length ≤ sizeL then (atI s.cps.toList i).map fun c => PyData.str ⟨#[c]⟩ else none) = some z := e
      split at e'
      · rename_i hl
        obtain ⟨c, e1, rfl⟩ := Option.map_eq_some_iff.mp e'
        rw [sizeL_eq] at hl
        exact .inr (.inr ⟨s, i, c, rfl, rfl, hl, e1, q.self r (.str _)⟩)
      · cases e'
    | _ => cases e
  | dict kvs => exact absurd rfl (nd kvs)
  | none => cases y <;> cases e
  | bool => cases y <;> cases e
  | int => cases y <;> cases e
/-! ### dicts that are read -/
theorem RpK.kv : ∀ {ks : List (Key × V)} {ds : List (PyData × PyData)}, RpK K F ks ds → ∃ q, toKv ds = some q
  | _, _, .nil => ⟨[], rfl⟩
  | _, _, .cons _ r => by
    obtain ⟨q, e⟩ := RpK.kv r
    exact ⟨_, by unfold toKv; rw [e]; rfl⟩
theorem RpK.look : ∀ {ks : List (Key × V)} {ds : List (PyData × PyData)} {q : List (Str × PyData)} (k : Str), RpK K F ks ds → toKv ds = some q →
    (lookD q k = none ∧ valV ks (Sum.inr k) = none) ∨ ∃ v x, lookD q k = some x ∧ valV ks (Sum.inr k) = some v ∧ Rp K F v x
  | _, _, _, k, .nil, e => by cases e; exact .inl ⟨rfl, rfl⟩
  | _, _, _, k, .cons (k := k') h r, e => by
    obtain ⟨q, e1⟩ := RpK.kv r
    unfold toKv at e
    rw [e1] at e
    cases e
    by_cases hk : k' = k
    · subst hk
      refine .inr ⟨_, _, ?_, valV_pos rfl, h⟩
      simp [lookD]
    · rw [valV_neg (fun z => hk (Sum.inr.inj z))]
      have e3 : ∀ x : PyData, lookD ((k', x) :: q) k = lookD q k := fun x => by simp [lookD, List.find?_cons, hk]
      rw [e3]
      exact RpK.look k r e1
theorem dget_ok {kvs : List (PyData × PyData)} {k : Str} {q : List (Str × PyData)} (hx : Rt K F H u (.dict kvs)) (e : toKv kvs = some q) :
    ∃ a ks, u = .ref a ∧ Rd H a (.dK ks) ∧ DGet H a (.str k) (valV ks (Sum.inr k)) ∧ ((lookD q k = none ∧ valV ks (Sum.inr k) = none) ∨ ∃ v x, lookD q k = some x ∧ valV ks (Sum.inr k) = some v ∧ Rp K F v x) := by
  obtain ⟨a, ks, rfl, h1, h2⟩ := hx
  exact ⟨a, ks, rfl, h1, .inl ⟨ks, Sum.inr k, h1, rfl, rfl⟩, RpK.look k h2 e⟩
/-! ### slices -/
def rSlB (K : PySem.W.Frag) : V → Option Int → Option Int → Hp → VK → Prop := fun x lo hi H Q => rSlL K x lo hi H Q ∨ rSlA K x lo hi H Q
theorem sl_B {X : Cx} : SlR X (rSlB X.K) := sl_list.or sl_tupA
theorem RpA.cut {vs : List V} {ds : List PyData} (h : RpA K F vs ds) (lo hi : Option Int) : RpA K F (cutV vs lo hi) (cutD ds lo hi) := by
  unfold cutV cutD
  rw [h.length]
  exact (h.drop _).take _
theorem cutD_len {α : Type} (xs : List α) (lo hi : Option Int) : (cutD xs lo hi).length ≤ xs.length := by
  unfold cutD
  rw [List.length_take, List.length_drop]
  omega
theorem cutD_whole {α : Type} {xs : List α} {lo hi : Option Int} (h1 : HT.sIx xs.length 0 lo = 0) (h2 : HT.sIx xs.length xs.length hi = xs.length) : cutD xs lo hi = xs := by
  unfold cutD
  rw [h1, h2, List.drop_zero, Nat.sub_zero, List.take_length]
theorem sl_ok {lo hi : Option Int} (r : R K CA F φ st H) (hx : Rt K F H u x) (e : slD x lo hi = some z) (q : PostD K CA F φ st H z Q) : rSlB K u lo hi H Q := by
  cases x with
  | list ds =>
    cases e
    obtain ⟨a, vs, rfl, h1, h2, h3⟩ := hx
    exact .inl ⟨a, vs, rfl, SqL.of h1, q.lst r (h3.cut lo hi) (Nat.le_trans (cutD_len _ _ _) h2)⟩
  | tuple ds =>
    cases e
    obtain ⟨a, vs, rfl, h1, h2, h3, h4⟩ := Rt.tup r hx
    refine .inr ⟨a, vs, rfl, h1, fun ⟨e1, e2⟩ => ?_, fun _ => q.tup r (h3.cut lo hi) (Nat.le_trans (cutD_len _ _ _) h2)⟩
    rw [h3.length] at e1 e2
    rw [cutD_whole e1 e2] at q
    exact q.self r h4
  | _ => cases e
/-! ### isinstance -/
theorem ty_of (l : Le F H) (h : Rp K F u x) : TyX K H u (match x with | .none => .type "NoneType" | .bool _ => .type "bool" | .int _ => .type "int" | .str _ => .type "str" | .list _ => .type "list" | .tuple _ => .type "tuple" | .dict _ => .type "dict") := by
  cases h with
  | non => exact .base .non
  | bl => exact .base (.bl _)
  | int => exact .base (.int _)
  | str => exact .base (.str _)
  | lst h => exact .base (.lst (l _ _ h))
  | tup h =>
    rcases h with (h | ⟨o, h⟩) | ⟨o, its, n, hk, hc, _⟩
    · exact .base (.tup (l _ _ h))
    · exact .fTuple (l _ _ h)
    · exact .kTuple hk hc
  | dct h =>
    rcases h with h | ⟨o, h⟩
    · exact .base (.dK (l _ _ h))
    · exact .fDict (l _ _ h)
/-- the classes that are asked for -/
def isiT (t : String) : Bool := t == "tuple" || t == "str" || t == "int" || t == "bool" || t == "list"
theorem kit_tuple : kitB "NoneType" "tuple" = some false ∧ kitB "bool" "tuple" = some false ∧ kitB "int" "tuple" = some false ∧ kitB "str" "tuple" = some false ∧ kitB "list" "tuple" = some false ∧ kitB "tuple" "tuple" = some true ∧ kitB "dict" "tuple" = some false := by decide +kernel
theorem kit_str : kitB "NoneType" "str" = some false ∧ kitB "bool" "str" = some false ∧ kitB "int" "str" = some false ∧ kitB "str" "str" = some true ∧ kitB "list" "str" = some false ∧ kitB "tuple" "str" = some false ∧ kitB "dict" "str" = some false := by decide +kernel
theorem kit_int : kitB "NoneType" "int" = some false ∧ kitB "bool" "int" = some true ∧ kitB "int" "int" = some true ∧ kitB "str" "int" = some false ∧ kitB "list" "int" = some false ∧ kitB "tuple" "int" = some false ∧ kitB "dict" "int" = some false := by decide +kernel
theorem kit_bool : kitB "NoneType" "bool" = some false ∧ kitB "bool" "bool" = some true ∧ kitB "int" "bool" = some false ∧ kitB "str" "bool" = some false ∧ kitB "list" "bool" = some false ∧ kitB "tuple" "bool" = some false ∧ kitB "dict" "bool" = some false := by decide +kernel
theorem kit_list : kitB "NoneType" "list" = some false ∧ kitB "bool" "list" = some false ∧ kitB "int" "list" = some false ∧ kitB "str" "list" = some false ∧ kitB "list" "list" = some true ∧ kitB "tuple" "list" = some false ∧ kitB "dict" "list" = some false := by decide +kernel
theorem kit_all (t : String) (h : isiT t = true) (x : PyData) : kitB (match x with | .none => "NoneType" | .bool _ => "bool" | .int _ => "int" | .str _ => "str" | .list _ => "list" | .tuple _ => "tuple" | .dict _ => "dict") t = some (isiD t x) := by
  simp only [isiT, Bool.or_eq_true, beq_iff_eq] at h
  rcases h with (((h | h) | h) | h) | h
  · subst h
    obtain ⟨h1, h2, h3, h4, h5, h6, h7⟩ := kit_tuple
    cases x <;> first | exact h1 | exact h2 | exact h3 | exact h4 | exact h5 | exact h6 | exact h7
  · subst h
    obtain ⟨h1, h2, h3, h4, h5, h6, h7⟩ := kit_str
    cases x <;> first | exact h1 | exact h2 | exact h3 | exact h4 | exact h5 | exact h6 | exact h7
  · subst h
    obtain ⟨h1, h2, h3, h4, h5, h6, h7⟩ := kit_int
    cases x <;> first | exact h1 | exact h2 | exact h3 | exact h4 | exact h5 | exact h6 | exact h7
  · subst h
    obtain ⟨h1, h2, h3, h4, h5, h6, h7⟩ := kit_bool
    cases x <;> first | exact h1 | exact h2 | exact h3 | exact h4 | exact h5 | exact h6 | exact h7
  · subst h
    obtain ⟨h1, h2, h3, h4, h5, h6, h7⟩ := kit_list
    cases x <;> first | exact h1 | exact h2 | exact h3 | exact h4 | exact h5 | exact h6 | exact h7
theorem isi_ok {t : String} (ht : isiT t = true) (r : R K CA F φ st H) (hx : Rp K F u x) (q : PostD K CA F φ st H (.bool (isiD t x)) Q) : rIsi K [u, .ty t] H Q := by
  refine ⟨u, .ty t, _, .type t, isiD t x, rfl, .ty t, ty_of r.sub hx, ?_, q.self r (.bl _)⟩
  have k := kit_all t ht x
  cases x <;> exact kit_ty k
/-! ### built-ins of one argument -/
theorem len_ok (r : R K CA F φ st H) (hx : Rt K F H u x) (e : fn1D .len x = some z) (q : PostD K CA F φ st H z Q) : ∃ y n, [u] = [y] ∧ LenV K y H n ∧ Q (.int (n : Nat)) H := by
  cases x with
  | list ds =>
    cases e
    obtain ⟨a, vs, rfl, h1, h2, h3⟩ := hx
    exact ⟨_, ds.length, rfl, .inl ⟨vs, SqL.of h1, h3.length.symm⟩, q.self r (.int _)⟩
  | tuple ds =>
    cases e
    obtain ⟨a, vs, rfl, h1, h2, h3, h4⟩ := Rt.tup r hx
    exact ⟨_, ds.length, rfl, .inr ⟨vs, h1, h3.length.symm⟩, q.self r (.int _)⟩
  | str s =>
    have hx' : Rp K F u (.str _) := hx
    cases hx'
    have e' : (if s.length ≤ sizeL then some (PyData.int s.length) else none) = some z := e
    split at e'
    · rename_i hl
      cases e'
      rw [sizeL_eq] at hl
      exact ⟨_, s.length, rfl, ⟨hl, rfl⟩, q.self r (.int _)⟩
    · cases e'
  | _ => cases e
theorem sum_ok (r : R K CA F φ st H) (hx : Rt K F H u x) (e : fn1D .sum x = some z) (q : PostD K CA F φ st H z Q) : rSum K [u] H Q := by
  cases x with
  | list ds =>
    obtain ⟨ns, e1, rfl⟩ := Option.map_eq_some_iff.mp (show (intsD ds).map (fun ns => PyData.int ns.sum) = some z from e)
    obtain ⟨a, vs, rfl, h1, h2, h3⟩ := hx
    exact ⟨a, ns, rfl, by rw [← h3.ints e1]; exact SqL.of h1, q.self r (.int _)⟩
  | _ => cases e
theorem any_ok (r : R K CA F φ st H) (hx : Rt K F H u x) (e : fn1D .any x = some z) (q : PostD K CA F φ st H z Q) : rAny K [u] H Q := by
  cases x with
  | list ds =>
    obtain ⟨ns, e1, rfl⟩ := Option.map_eq_some_iff.mp (show (bolsD ds).map (fun bs => PyData.bool (bs.any id)) = some z from e)
    obtain ⟨a, vs, rfl, h1, h2, h3⟩ := hx
    exact ⟨a, ns, rfl, by rw [← h3.bols e1]; exact SqL.of h1, q.self r (.bl _)⟩
  | _ => cases e
theorem all_ok (r : R K CA F φ st H) (hx : Rt K F H u x) (e : fn1D .all x = some z) (q : PostD K CA F φ st H z Q) : rAll K [u] H Q := by
  cases x with
  | list ds =>
    obtain ⟨ns, e1, rfl⟩ := Option.map_eq_some_iff.mp (show (bolsD ds).map (fun bs => PyData.bool (bs.all id)) = some z from e)
    obtain ⟨a, vs, rfl, h1, h2, h3⟩ := hx
    exact ⟨a, ns, rfl, by rw [← h3.bols e1]; exact SqL.of h1, q.self r (.bl _)⟩
  | _ => cases e
theorem int_ok (r : R K CA F φ st H) (hx : Rt K F H u x) (e : fn1D .int x = some z) (q : PostD K CA F φ st H z Q) : (∃ i, [u] = [.int i] ∧ Q (.int i) H) ∨ ∃ k, [u] = [.bl k] ∧ Q (.int (if k then 1 else 0)) H := by
  cases x with
  | int i =>
    cases e
    have hx' : Rp K F u (.int _) := hx
    cases hx'
    exact .inl ⟨_, rfl, q.self r (.int _)⟩
  | bool b =>
    cases e
    have hx' : Rp K F u (.bool _) := hx
    cases hx'
    exact .inr ⟨_, rfl, q.self r (.int _)⟩
  | _ => cases e
def rStrA : List V → Hp → VK → Prop := fun xs H Q => (∃ i, xs = [.int i] ∧ i.natAbs.log2 < 1920 ∧ Q (.str (toString i)) H) ∨ (∃ a, xs = [.str a] ∧ Q (.str a) H)
theorem call_strA {X : Cx} : CallR X (.type "str") rStrA := call_str_int.or SkE.call_str_str
theorem str_ok (r : R K CA F φ st H) (hx : Rt K F H u x) (e : fn1D .str x = some z) (q : PostD K CA F φ st H z Q) : rStrA [u] H Q := by
  cases x with
  | int i =>
    have hx' : Rp K F u (.int _) := hx
    cases hx'
    have e' : (if i.natAbs.log2 < 1920 then some (PyData.str (toString i)) else none) = some z := e
    split at e'
    · rename_i hl
      cases e'
      exact .inl ⟨_, rfl, hl, q.self r (.str _)⟩
    · cases e'
  | str s =>
    cases e
    have hx' : Rp K F u (.str _) := hx
    cases hx'
    exact .inr ⟨_, rfl, q.self r (.str _)⟩
  | _ => cases e
theorem lst_ok (r : R K CA F φ st H) (hx : Rt K F H u x) (e : fn1D .lst x = some z) (q : PostD K CA F φ st H z Q) : ∃ p ys, [u] = [V.ref p] ∧ (SqL K H p ys ∨ SqT K H p ys) ∧ ∀ l, H l = none → Q (.ref l) (upd H l (.lst ys)) := by
  cases x with
  | list ds =>
    cases e
    obtain ⟨a, vs, rfl, h1, h2, h3⟩ := hx
    exact ⟨a, vs, rfl, .inl (SqL.of h1), q.lst r h3 h2⟩
  | tuple ds =>
    cases e
    obtain ⟨a, vs, rfl, h1, h2, h3, h4⟩ := Rt.tup r hx
    exact ⟨a, vs, rfl, .inr h1, q.lst r h3 h2⟩
  | _ => cases e
theorem tup_ok (r : R K CA F φ st H) (hx : Rt K F H u x) (e : fn1D .tup x = some z) (q : PostD K CA F φ st H z Q) : ∃ p ys, [u] = [V.ref p] ∧ ((SqL K H p ys ∧ ∀ l, H l = none → Q (.ref l) (upd H l (.tup ys))) ∨ (SqT K H p ys ∧ Q (.ref p) H)) := by
  cases x with
  | list ds =>
    cases e
    obtain ⟨a, vs, rfl, h1, h2, h3⟩ := hx
    exact ⟨a, vs, rfl, .inl ⟨SqL.of h1, q.tup r h3 h2⟩⟩
  | tuple ds =>
    cases e
    obtain ⟨a, vs, rfl, h1, h2, h3, h4⟩ := Rt.tup r hx
    exact ⟨a, vs, rfl, .inr ⟨h1, q.self r h4⟩⟩
  | _ => cases e
/-! ### join -/
theorem starts_ok (r : R K CA F φ st H) (hx : Rt K F H u x) (hy : Rt K F H w y) (e : mt1D .starts x y = some z) (q : PostD K CA F φ st H z Q) :
    ∃ a b, u = .str a ∧ [w] = [V.str b] ∧ Q (.bl (Txt.startswith a b)) H := by
  cases x with
  | str a =>
    cases y with
    | str b =>
      cases e
      have hx' : Rp K F u (.str _) := hx
      have hy' : Rp K F w (.str _) := hy
      cases hx'; cases hy'
      exact ⟨_, _, rfl, rfl, q.self r (.bl _)⟩
    | _ => cases e
  | _ => cases e
theorem idx_first {z : Str} : ∀ {ys : List Str}, z ∈ ys → ys[ys.idxOf z]? = some z ∧ ∀ m, m < ys.idxOf z → ys[m]? ≠ some z
  | [], h => by cases h
  | y :: ys, h => by
    by_cases g : y = z
    · subst g
      simp [List.idxOf_cons_self]
    · have h' : z ∈ ys := by
        rcases List.mem_cons.mp h with h | h
        · exact absurd h.symm g
        · exact h
      obtain ⟨i1, i2⟩ := idx_first h'
      have hid : (y :: ys).idxOf z = ys.idxOf z + 1 := by rw [List.idxOf_cons, beq_eq_false_iff_ne.mpr g]; rfl
      rw [hid]
      refine ⟨by simpa using i1, fun m hm => ?_⟩
      cases m with
      | zero => intro c; simp at c; exact g c
      | succ m => simpa using i2 m (by omega)
theorem index_ok (r : R K CA F φ st H) (hx : Rt K F H u x) (hy : Rt K F H w y) (e : mt1D .index x y = some z) (q : PostD K CA F φ st H z Q) :
    ∃ p, ∃ ys : List Str, ∃ z j, u = .ref p ∧ [w] = [V.str z] ∧ SqT K H p (ys.map V.str) ∧ ys[j]? = some z ∧ (∀ m, m < j → ys[m]? ≠ some z) ∧ Q (.int (j : Nat)) H := by
  cases x with
  | tuple ds =>
    cases y with
    | str b =>
      obtain ⟨ys, e1, e2⟩ := Option.bind_eq_some_iff.mp (show (strsD ds).bind (fun ys => if b ∈ ys then some (PyData.int (ys.idxOf b : Nat)) else none) = some z from e)
      split at e2
      · rename_i hm
        cases e2
        have hy' : Rp K F w (.str _) := hy
        cases hy'
        obtain ⟨a, vs, rfl, h1, h2, h3, h4⟩ := Rt.tup r hx
        obtain ⟨i1, i2⟩ := idx_first hm
        exact ⟨a, ys, b, _, rfl, rfl, (by rw [← h3.strs e1]; exact h1), i1, i2, q.self r (.int _)⟩
      · cases e2
    | _ => cases e
  | _ => cases e
theorem join_ok (r : R K CA F φ st H) (hx : Rt K F H u x) (hy : Rt K F H w y) (e : mt1D .join x y = some z) (q : PostD K CA F φ st H z Q) :
    (∃ a, u = .str a) ∧ ∃ a p, ∃ ys : List Str, u = .str a ∧ [w] = [V.ref p] ∧ (SqL K H p (ys.map V.str) ∨ SqT K H p (ys.map V.str)) ∧ (ys.map (·.length)).sum + ys.length * a.length ≤ 16777216 ∧ Q (.str (Txt.join a ys)) H := by
  cases x with
  | str a =>
    have hx' : Rp K F u (.str _) := hx
    cases hx'
    refine ⟨⟨_, rfl⟩, ?_⟩
    cases y with
    | list ds =>
      obtain ⟨ys, e1, e2⟩ := Option.bind_eq_some_iff.mp (show (strsD ds).bind (fun ys => if (ys.map (·.length)).sum + a.length * ys.length ≤ sizeL then some (PyData.str (Txt.join a ys)) else none) = some z from e)
      split at e2
      · rename_i hl
        cases e2
        obtain ⟨b, vs, rfl, h1, h2, h3⟩ := hy
        refine ⟨a, b, ys, rfl, rfl, .inl (by rw [← h3.strs e1]; exact SqL.of h1), ?_, q.self r (.str _)⟩
        rw [Nat.mul_comm]; exact hl
      · cases e2
    | tuple ds =>
      obtain ⟨ys, e1, e2⟩ := Option.bind_eq_some_iff.mp (show (strsD ds).bind (fun ys => if (ys.map (·.length)).sum + a.length * ys.length ≤ sizeL then some (PyData.str (Txt.join a ys)) else none) = some z from e)
      split at e2
      · rename_i hl
        cases e2
        obtain ⟨b, vs, rfl, h1, h2, h3, h4⟩ := Rt.tup r hy
        refine ⟨a, b, ys, rfl, rfl, .inr (by rw [← h3.strs e1]; exact h1), ?_, q.self r (.str _)⟩
        rw [Nat.mul_comm]; exact hl
      · cases e2
    | _ => cases e
  | _ => cases y <;> cases e
/-! ### a list is written -/
theorem FR.put {fs gs as} {a : Str} {b : Addr} {xs ys : List PyData} {vs : List V} (h : FR K F H fs gs as) (nd : (as.map (·.2)).Nodup) (e : fs.lookup a = some (.l xs)) (eb : as.lookup a = some b) (z : ys.length ≤ sizeL) (rr : RpA K F vs ys) :
    FR K F (upd H b (.lst vs)) (putF a (.l ys) fs) gs as := by
  induction h with
  | nil => cases e
  | @d a' v x fs gs as h1 h2 ih =>
    by_cases hk : a = a'
    · subst hk; rw [List.lookup_cons_self] at e; cases e
    · have hk' : (a == a') = false := by simpa using hk
      rw [List.lookup_cons, hk'] at e
      unfold putF
      rw [if_neg (fun z : a' = a => hk z.symm)]
      exact .d h1 (ih nd e eb)
  | @l a' b' ws zs fs gs as h1 z' h2 h3 ih =>
    rw [List.map_cons] at nd
    obtain ⟨n1, n2⟩ := List.nodup_cons.mp nd
    unfold putF
    by_cases hk : a = a'
    · subst hk
      rw [List.lookup_cons_self] at e eb
      cases eb
      rw [if_pos rfl]
      refine .l upd_same z rr (h3.keep Le.rfl fun c hc => ?_)
      rw [upd_ne (fun z : c = b => n1 (z ▸ hc))]
    · have hk' : (a == a') = false := by simpa using hk
      rw [List.lookup_cons, hk'] at e eb
      rw [if_neg (fun z : a' = a => hk z.symm)]
      refine .l ?_ z' h2 (ih n2 e eb)
      rw [upd_ne]
      · exact h1
      · rintro rfl
        exact n1 (List.mem_map.mpr ⟨(a, _), PySem.mem_of_lookup eb, rfl⟩)
/-- what is wanted behind an operation: a value, a new store -/
abbrev PostV (K : PySem.W.Frag) (CA : CAT) (F : Hp) (φ : List FP) (H : Hp) (z : Vl) (st' : Sto) (Q : VK) : Prop :=
  ∀ F' φ' H' v, Nx K CA F φ H F' φ' st' H' → RV K F' φ' v z → Q v H'
theorem PostV.data {z : PyData} (q : PostV K CA F φ H (.d z) st Q) : PostD K CA F φ st H z Q := fun F' H' v n h => q F' φ H' v n h
theorem setL_ok {o : Vl} {xs ys : List PyData} {st' : Sto} (r : R K CA F φ st H) (h : RV K F φ u o) (e0 : dat st o = some (.list xs)) (e : setL st o ys = some st') (z : ys.length ≤ sizeL) :
    ∃ a vs, u = .ref a ∧ H a = some (.lst vs) ∧ RpA K F vs xs ∧ ∀ ws, RpA K F ws ys → Nx K CA F φ H F φ st' (upd H a (.lst ws)) := by
  cases o with
  | d x => cases e
  | s ns => cases e
  | r n =>
    obtain ⟨p, hp, rfl⟩ := h
    obtain ⟨m, hm, o⟩ := r.at hp
    simp only [dat, setL, hm] at e e0
    cases m with
    | lst xs' =>
      cases e0; cases e
      obtain ⟨vs, h1, h2, h3, h4⟩ := o
      refine ⟨p.1, vs, rfl, h1, h3, fun ws hw => r.nxChange hp (by rw [fpA_nil h4]; simp) ⟨ws, upd_same, z, hw, h4⟩⟩
    | dct kvs => cases e
    | ins c fs => cases e
    | dead => cases e
    | tab _ => cases e
    | ptup _ => cases e
    | clo _ _ => cases e
  | f n a =>
    obtain ⟨p, b, hp, hb, rfl⟩ := h
    obtain ⟨m, hm, o⟩ := r.at hp
    simp only [dat, setL, hm] at e e0
    cases m with
    | dead => cases e
    | tab _ => cases e
    | ptup _ => cases e
    | clo _ _ => cases e
    | ins c fs =>
      obtain ⟨dx, gs, h1, h2, hnd⟩ := o
      dsimp only at e e0
      cases hl : fs.lookup a with
      | none => rw [hl] at e; cases e
      | some fl =>
        rw [hl] at e e0
        cases fl with
        | d x => cases e
        | l xs' =>
          cases e0; cases e
          obtain ⟨b', vs, q1, q2, q3, q4, q5⟩ := h2.look hl
          rw [hb] at q1; cases q1
          have hbm : b ∈ p.2.map (·.2) := List.mem_map.mpr ⟨(a, b), PySem.mem_of_lookup hb, rfl⟩
          have ndp : (fpA p).Nodup := by
            have e : fps φ = fps (φ.take n) ++ fps (φ.drop n) := by rw [← fps_app, List.take_append_drop]
            have h5 := r.nd
            rw [e, List.drop_eq_getElem_cons (List.getElem?_eq_some_iff.mp hp).1, (List.getElem?_eq_some_iff.mp hp).2] at h5
            have h6 := (List.nodup_append.mp h5).2.1
            have h7 : fps (p :: φ.drop (n + 1)) = fpA p ++ fps (φ.drop (n + 1)) := by simp [fps]
            rw [h7] at h6
            exact (List.nodup_append.mp h6).1
          rw [fpA_ne hnd] at ndp
          have ne : b ≠ p.1 := fun z => (List.nodup_cons.mp ndp).1 (z ▸ hbm)
          refine ⟨b, vs, rfl, q3, q5, fun ws hw => r.nxChange hp (by rw [fpA_ne hnd]; exact List.mem_cons_of_mem _ hbm) ⟨dx, gs, by rw [upd_ne (Ne.symm ne)]; exact h1, h2.put (List.nodup_cons.mp ndp).2 hl hb z hw, hnd⟩⟩
    | lst xs => cases e
    | dct kvs => cases e
theorem app_okV {o a : Vl} {z : Vl} {st' : Sto} (r : R K CA F φ st H) (ho : RV K F φ u o) (ha : RV K F φ w a) (e : mt1S .app o a st = some (z, st')) (q : PostV K CA F φ H z st' Q) : tyV K "list" u H ∧ rAppend u [w] H Q := by
  obtain ⟨x, e1, e⟩ := Option.bind_eq_some_iff.mp (show (dOf a).bind _ = _ from e)
  obtain ⟨y, e2, e⟩ := Option.bind_eq_some_iff.mp e
  cases a with
  | d x' =>
    cases e1
    cases y with
    | list xs =>
      try dsimp only at e
      split at e
      · rename_i hl
        obtain ⟨st2, e3, e4⟩ := Option.map_eq_some_iff.mp e
        cases e4
        obtain ⟨b, vs, rfl, h1, h2, h3⟩ := setL_ok r ho e2 e3 (by rw [List.length_append]; exact hl)
        refine ⟨.inl ⟨rfl, vs, SqL.of h1⟩, b, vs, w, rfl, rfl, h1, ?_, q _ _ _ _ (h3 _ (h2.append (.cons ha .nil))) .non⟩
        rw [h2.length, ← sizeL_eq]; exact hl
      · cases e
    | _ => cases e
  | r n => cases e1
  | f n b => cases e1
  | s ns => cases e1
theorem ext_okV {o a : Vl} {z : Vl} {st' : Sto} (r : R K CA F φ st H) (ho : RV K F φ u o) (ha : RV K F φ w a) (e : mt1S .ext o a st = some (z, st')) (q : PostV K CA F φ H z st' Q) : tyV K "list" u H ∧ rExtendA K u [w] H Q := by
  obtain ⟨x, e1, e⟩ := Option.bind_eq_some_iff.mp (show (dOf a).bind _ = _ from e)
  cases a with
  | d x' =>
    cases e1
    cases x with
    | list zs =>
      try dsimp only at e
      obtain ⟨y, e2, e⟩ := Option.bind_eq_some_iff.mp e
      cases y with
      | list xs =>
        try dsimp only at e
        split at e
        · rename_i hl
          obtain ⟨st2, e3, e4⟩ := Option.map_eq_some_iff.mp e
          cases e4
          obtain ⟨b, vs, rfl, h1, h2, h3⟩ := setL_ok r ho e2 e3 (by rw [List.length_append]; exact hl)
          have ha' : Rp K F w (.list zs) := ha
          cases ha' with
          | @lst c ws ds g1 g2 g3 =>
            refine ⟨.inl ⟨rfl, vs, SqL.of h1⟩, .inl ⟨b, c, vs, ws, rfl, rfl, h1, r.sub _ _ g1, ?_, q _ _ _ _ (h3 _ (h2.append g3)) .non⟩⟩
            rw [h2.length, g3.length, ← sizeL_eq]; exact hl
        · cases e
      | _ => cases e
    | tuple zs =>
      try dsimp only at e
      obtain ⟨y, e2, e⟩ := Option.bind_eq_some_iff.mp e
      cases y with
      | list xs =>
        try dsimp only at e
        split at e
        · rename_i hl
          obtain ⟨st2, e3, e4⟩ := Option.map_eq_some_iff.mp e
          cases e4
          obtain ⟨b, vs, rfl, h1, h2, h3⟩ := setL_ok r ho e2 e3 (by rw [List.length_append]; exact hl)
          obtain ⟨c, ws, rfl, g1, g2, g3, g4⟩ := Rt.tup r (show Rt K F H w (.tuple zs) from ha)
          refine ⟨.inl ⟨rfl, vs, SqL.of h1⟩, .inr ⟨b, c, vs, ws, rfl, rfl, h1, g1, ?_, q _ _ _ _ (h3 _ (h2.append g3)) .non⟩⟩
          rw [h2.length, g3.length, ← sizeL_eq]; exact hl
        · cases e
      | _ => cases e
    | _ => cases e
  | r n => cases e1
  | f n b => cases e1
  | s ns => cases e1
theorem getLast_rep {vs : List V} {xs : List PyData} {x : PyData} (h : RpA K F vs xs) (e : xs[xs.length - 1]? = some x) : ∃ v, vs[vs.length - 1]? = some v ∧ Rp K F v x := by
  rw [h.length]; exact h.get e
theorem RpA.dropLast {vs : List V} {xs : List PyData} (h : RpA K F vs xs) : RpA K F vs.dropLast xs.dropLast := by
  rw [List.dropLast_eq_take, List.dropLast_eq_take, h.length]; exact h.take _
theorem pop_okV {o : Vl} {z : Vl} {st' : Sto} (r : R K CA F φ st H) (ho : RV K F φ u o) (e : mt0S .pop o st = some (z, st')) (q : PostV K CA F φ H z st' Q) : tyV K "list" u H ∧ rPop u [] H Q := by
  obtain ⟨y, e2, e⟩ := Option.bind_eq_some_iff.mp (show (dat st o).bind _ = _ from e)
  cases y with
  | list xs =>
    try dsimp only at e
    obtain ⟨x, e3, e⟩ := Option.bind_eq_some_iff.mp e
    obtain ⟨st2, e4, e5⟩ := Option.map_eq_some_iff.mp e
    cases e5
    have hz : xs.dropLast.length ≤ sizeL := by
      have g := r.reads ho e2
      obtain ⟨a, vs, _, _, g, _⟩ := g
      rw [List.length_dropLast]; omega
    obtain ⟨b, vs, rfl, h1, h2, h3⟩ := setL_ok r ho e2 e4 hz
    obtain ⟨v, g1, g2⟩ := getLast_rep h2 e3
    exact ⟨.inl ⟨rfl, vs, SqL.of h1⟩, b, vs, v, rfl, rfl, h1, g1, q _ _ _ _ (h3 _ h2.dropLast) g2⟩
  | _ => cases e
end
end Tw
set_option Elab.async false
set_option linter.all false
set_option maxRecDepth 100000
set_option maxHeartbeats 4000000
/-! C3b: what is walked. -/
namespace Tw
open PySem L2 PySem.Spec PyProof.Rows
open Sem (wp)

/-! ### enumerate over a tuple -/
theorem enumNewT {v : Value} {o : Obj} {H : Heap → Prop} (B : Begins v o H) :
    Meets (Builtin.«enumerate.__new__» ⟨[.type "enumerate", v], []⟩) (fun _ R s =>
      H s.heap ∧ R (.ok (.ret (.ref (s.heap.push o).objs.size)))
        { s with heap := Heap.push (s.heap.push o) { cls := .type "enumerate", data := .fields #[.none, .bool false, .ref s.heap.objs.size, rawInt 0, .none, .none] } }) :=
  .of_wp fun prog w A R s hh => by
    obtain ⟨hp, gs, dr, tk, os⟩ := s
    obtain ⟨h1, h2⟩ := hh
    have su := sub_enumerate
    have go : ∀ {B' : Around} {E : Value → Shared → Prop} {Q : Value → Shared → Prop},
        Q (.ref hp.objs.size) ⟨hp.push o, gs, dr, tk, os⟩ → wpAny (model prog w) B' (pyIter v) Q E ⟨hp, gs, dr, tk, os⟩ :=
      fun z => B.iter prog w _ _ ⟨hp, gs, dr, tk, os⟩ _ h1 z
    wp_walk using go
    refine wpAny_stack_any fun sk => wpAny_pure ?_
    split
    · rename_i c _ _ _ _ _
      cases (c == Value.type "enumerate")
      all_goals (wp_walk using go; exact ⟨_, rfl, h2⟩)
    · wp_walk using go
      exact ⟨_, rfl, h2⟩
theorem callEnumT {prog : Program} {w : World} {A : Around} {E : Value → Shared → Prop} {s : Shared} {t : Addr} {items : Array Value} {Q : Value → Shared → Prop} (ht : s.heap.IsTuple t items)
    (k : ∀ h', IsEnum h' (s.heap.objs.size + 1) s.heap.objs.size 0 .none → h'.IsTupleIter s.heap.objs.size t 0 →
      (∀ b o, s.heap.get? b = some o → h'.get? b = some o) → Q (.ref (s.heap.objs.size + 1)) { s with heap := h' }) :
    wpAny (model prog w) A (call (.type "enumerate") [.ref t]) Q E s := by
  refine callType_new F.called_enumerate (by decide) (F.typeCall_enumerate_1 _) (F.newCall_enumerate_1 _)
    (fun obj => F.args_object_init_2 obj _) F.entry_enumerate_new (enumNewT (begins_tuple t items)) ⟨ht, ?_⟩
  generalize ho : ({ cls := .type "tuple_iterator", data := .fields #[.ref t, .int 0 0] } : Obj) = o
  have hz : (s.heap.push o).objs.size = s.heap.objs.size + 1 := Heap.size_push ..
  show _ ∧ _
  rw [hz]
  have fr : o.data = .fields #[.ref t, .int 0 0] ∧ o.cls = .type "tuple_iterator" := by rw [← ho]; exact ⟨rfl, rfl⟩
  have he : IsEnum ((s.heap.push o).push { cls := .type "enumerate", data := .fields #[.none, .bool false, .ref s.heap.objs.size, rawInt 0, .none, .none] })
      (s.heap.objs.size + 1) s.heap.objs.size 0 .none := by
    have q := Heap.get?_push_size (s.heap.push o)
      (o := { cls := .type "enumerate", data := .fields #[.none, .bool false, .ref s.heap.objs.size, rawInt 0, .none, .none] }) rfl
    rw [hz] at q
    exact q
  refine ⟨⟨_, he, rfl⟩, k _ he ?_ fun b u x => Heap.get?_push_of_some _ (Heap.get?_push_of_some _ x)⟩
  subst ho
  exact ⟨_, Heap.get?_push_of_some _ (Heap.get?_push_size _ rfl), rfl, rfl⟩
/-- the tuple at a, each item in a new pair with its place -/
def IteT (K : PySem.W.Frag) (a : Addr) : L2.It where
  go := fun i H => ∃ (xs : List V) (x : V), SqT K H a xs ∧ xs[i]? = some x
  yld := fun i H v H' => ∃ T x, v = .ref T ∧ H T = none ∧ H' = upd H T (.tup [.int (i : Nat), x]) ∧ ∀ xs, SqT K H a xs → xs[i]? = some x
  stop := fun i H => ∃ xs : List V, SqT K H a xs ∧ xs.length ≤ i
theorem turnEnumT {P : Program} {w : World} {K : PySem.W.Frag} {elts : List Expr} {kk : Nat} {tpos : Pos} (a e it : Addr) (hai : a ≠ it) (hae : a ≠ e) :
    Turn P w K (.Tuple elts kk tpos) (IteT K a) [e, it] e (fun i h => (∃ old, IsEnum h e it ((i : Nat) : Int) old) ∧ h.IsTupleIter it a i ∧ e ≠ it) where
  mem := by simp
  obj := fun i h st b hb => by
    obtain ⟨⟨old, he⟩, ⟨o, ho, hc, hd⟩, _⟩ := st
    rcases (show b = e ∨ b = it by simpa using hb) with rfl | rfl
    · exact ⟨_, he, fun v q => nomatch q⟩
    · exact ⟨o, ho, fun v q => by rw [hd] at q; cases q⟩
  keep := fun i h h' st k => by
    obtain ⟨⟨old, he⟩, hi, hne⟩ := st
    exact ⟨⟨old, k e (by simp) _ he⟩, hi.at fun o q => k it (by simp) o q, hne⟩
  item := by
    intro X hP hw hK hc i pins s σ H E I hf st hg
    subst hP hw hK
    obtain ⟨⟨old, he⟩, hit, hne⟩ := st
    obtain ⟨xs, x, hq, hx⟩ := hg
    obtain ⟨its, rv, p, hz⟩ := I.tuple hq
    obtain ⟨u, hu, ru⟩ := rv.get hx
    have hel : e < s.heap.objs.size := Heap.lt_size he
    have hil : it < s.heap.objs.size := by obtain ⟨_, q, _⟩ := hit; exact Heap.lt_size q
    have hlt : i < its.toArray.size := by
      have := (List.getElem?_eq_some_iff.mp hu).1
      simpa using this
    refine wpAny_pyNext_enum_itemD (Draws.tuple (A := X.A.in1) (I.ok.hd hc) it a hai its.toArray) he ⟨hit, show s.heap.IsTuple a its.toArray from p⟩ hlt hne
      (by simp [hne, Ne.symm hae]) fun y h' tk hy ho hst hT hsz hk => ?_
    have ey : y = u := by
      have h1 : its.toArray[i]? = some y := hy
      have h2 : its.toArray[i]? = some u := by simpa using hu
      rw [h1] at h2; exact Option.some.inj h2
    subst ey
    refine ⟨_, rfl, wpAny_letOwnedTupleGo_enum (s := { s with heap := h', toks := tk + 1 }) ho fun h'' he' sb => ?_⟩
    have hT2 : h''.get? s.heap.objs.size = some { cls := .type "tuple", data := .seq #[.int i tk, y] } := (sb.2 _ (Nat.ne_of_gt hel)).trans hT
    have new : ObjOk X.prog X.w (upd H s.heap.objs.size (.tup [.int (i : Nat), x])) h'' s.heap.objs.size (.tup [.int (i : Nat), x]) := by
      refine ⟨by show 2 ≤ sizeLine; decide, [.int i tk, y], ?_, _, hT2, rfl, _, rfl⟩
      exact .cons ⟨_, rfl⟩ (.cons ru .nil)
    have I1 : Inv X pins σ (upd H s.heap.objs.size (.tup [.int (i : Nat), x])) { s with heap := h'', toks := tk + 1 } := by
      refine I.turnedNew (ch := [e, it]) (fun b ob hb q => ?_) hf (Nat.le_refl _) new
      have n1 : b ≠ e := fun z => hb (by simp [z])
      have n2 : b ≠ it := fun z => hb (by simp [z])
      exact (sb.2 b n1).trans (hk b ob n1 n2 q)
    refine ⟨.ref s.heap.objs.size, _, I1, rfl, ⟨_, x, rfl, I.hok.fresh (Nat.le_refl _), rfl, fun ys hy => ?_⟩, ⟨⟨y, ?_⟩, hst.1.at fun o q => (sb.2 it (Ne.symm hne)).trans q, hne⟩, fun b hb => ?_⟩
    · rw [I.tuple_inj hy hq]; exact hx
    · rw [show ((i + 1 : Nat) : Int) = (i : Int) + 1 by omega]; exact he'
    · have hb' : b < s.heap.objs.size := by
        rcases (show b = e ∨ b = it by simpa using hb) with rfl | rfl
        · exact hel
        · exact hil
      rw [upd_ne (Nat.ne_of_lt hb')]
      exact (hf b hb).1
  done := by
    intro X hP hw hK hc i pins s σ H E I hf st hg
    subst hP hw hK
    obtain ⟨⟨old, he⟩, hit, hne⟩ := st
    obtain ⟨xs, hq, hx⟩ := hg
    obtain ⟨its, rv, p, hz⟩ := I.tuple hq
    obtain ⟨f0, f1, f2, f3, f4, f5⟩ := hf it (by simp)
    have hl := rv.length
    have hT : s.TypeIs (.ref e) "enumerate" := ⟨_, he, rfl⟩
    unfold pyNext
    refine wpAny_bind (wpAny_attempt (wpAny_callSpecial?_slot (name := Str.ofString "__next__") hT F.slot_enumerate_next
      (wpAny_call_entry F.slot_enumerate_next hT F.entry_enumerate_next ?_ (F.args_enumerate_next_1 _))))
    show wpAny _ _ (field (.ref e) 2 >>= _) _ _ _
    refine wpAny_bind (wpAny_field he rfl (x := .ref it) rfl ?_)
    refine wpAny_bind (wpAny_nextOf_tuple_end (A := X.A.in1) (I.ok.hd hc) hit (show s.heap.IsTuple a its.toArray from p) (by simp; omega) fun h' x he' hx' => ?_)
    obtain ⟨o, ho, hcl⟩ := hx'
    refine wpAny_bind (wpAny_isInstance (T := "StopIteration") (b := true) ⟨o, ho, hcl⟩ isSubtype_stop ?_)
    exact wpAny_pure ⟨rfl, I.turned (t' := s.toks) (fun b o hb q => he' b o hb q) f0 f1 f3 f4 f5⟩
  self := fun A i s Q E st h => by
    obtain ⟨⟨_, he⟩, _⟩ := st
    exact wpAny_pyIter_enum he h
def iEnumT (K : PySem.W.Frag) (ta : TA) : TI := fun σ H R => ta σ H fun vs H1 => ∃ a xs, vs = [.ref a] ∧ SqT K H1 a xs ∧ R (IteT K a) H1
theorem piEnumT {X : Cx} {e : Expr} {ta : TA} {p pos tpos : Pos} {elts : List Expr} {kk : Nat} (hg : Gl X "enumerate") (hm : X.mg "enumerate" = none) (ha : PA X [e] ta) (hs : starEach [e] X.env = [(false, eval e X.env)]) :
    PI X (.Tuple elts kk tpos) (.Call (.Name "enumerate" p) [e] [] pos) (iEnumT X.K ta) := by
  refine ⟨fun pins s σ H R I h => ?_⟩
  refine Call_ (ld_blt I hg hm boot_enumerate (PyProof.Rows.callWith_type1 (thn (ha.run pos pins s σ H _ I h) fun us s1 ⟨vs, H1, I1, r1, q1⟩ => ?_) hs rfl))
  obtain ⟨a, xs, ex, hq, q⟩ := q1
  subst ex
  cases r1 with
  | cons r rr =>
    cases rr
    cases r
    obtain ⟨its, rv, p', hz⟩ := I1.tuple hq
    have hal : a < s1.heap.objs.size := p'.lt
    refine callEnumT (show s1.heap.IsTuple a its.toArray from p') fun h' he hit hk => wpAny_pyIter_enum he ?_
    have I2 : Inv X pins σ H1 { s1 with heap := h' } := I1.kept (t' := s1.toks) hk
    refine ⟨s1.heap.objs.size + 1, [s1.heap.objs.size + 1, s1.heap.objs.size], _, _, H1, rfl, I2,
      turnEnumT a (s1.heap.objs.size + 1) s1.heap.objs.size (Nat.ne_of_lt hal) (Nat.ne_of_lt (Nat.lt_succ_of_lt hal)), ⟨⟨.none, he⟩, hit, Nat.succ_ne_self _⟩, fun b hb => ?_, q⟩
    have hle : s1.heap.objs.size ≤ b := by
      rcases (show b = s1.heap.objs.size + 1 ∨ b = s1.heap.objs.size by simpa using hb) with rfl | rfl
      · exact Nat.le_add_right _ _
      · exact Nat.le_refl _
    exact I1.fpOk hle (I1.hok.fresh hle)
theorem walkEnumT {K : PySem.W.Frag} {a : Addr} {xs : List V} : Walk (IteT K a) xs.length (fun H => SqT K H a xs) (YPair (fun i => some (.int (i : Nat))) (fun i => xs[i]?)) := by
  refine ⟨fun i _ hi q => ⟨xs, xs[i], q, by simp [hi]⟩, fun _ q => ⟨xs, q, Nat.le_refl _⟩, fun i H v H' _ q y => ?_⟩
  obtain ⟨T, x, h1, h2, h3, h4⟩ := y
  exact ⟨T, .int (i : Nat), x, h1, h2, h3, rfl, h4 xs q⟩

/-! ### what is walked gives the items -/
/-- while ok holds the iterator gives ds, one after the other -/
def ItOk (K : PySem.W.Frag) (CA : CAT) (ok : Hp → List FP → Sto → Prop) (J : L2.It) (ds : List PyData) : Prop :=
  ∃ gd Y, Walk J ds.length gd Y ∧ (∀ F φ st H, ok F φ st → R K CA F φ st H → gd H) ∧
    ∀ (i : Nat) (x : V) (H H' F : Hp) (φ : List FP) (st : Sto), i < ds.length → ok F φ st → R K CA F φ st H → Y i H x H' → ∃ F' d, ds[i]? = some d ∧ Nx K CA F φ H F' φ st H' ∧ Rp K F' x d
section
variable {K : PySem.W.Frag} {CA : CAT} {F0 : Hp} {a : Addr} {vs ws : List V} {ds es : List PyData} {ok : Hp → List FP → Sto → Prop}
theorem yAt (h : RpA K F0 vs ds) : ∀ (i : Nat) (x : V) (H H' F : Hp) (φ : List FP) (st : Sto), Le F0 F → R K CA F φ st H → YAt vs i H x H' → ∃ F' d, ds[i]? = some d ∧ Nx K CA F φ H F' φ st H' ∧ Rp K F' x d := by
  intro i x H H' F φ st l r y
  obtain ⟨rfl, e⟩ := y
  obtain ⟨d, e1, e2⟩ := h.getV e
  exact ⟨F, d, e1, r.nx, e2.le l⟩
theorem itList (hok : ∀ F φ st, ok F φ st → Le F0 F) (h0 : F0 a = some (.lst vs)) (h : RpA K F0 vs ds) : ItOk K CA ok (Itl K a) ds := by
  refine ⟨fun H => SqL K H a vs, YAt vs, ?_, fun F φ st H o r => SqL.of (r.sub _ _ (hok _ _ _ o _ _ h0)), fun i x H H' F φ st _ o r y => yAt h i x H H' F φ st (hok _ _ _ o) r y⟩
  rw [← h.length]; exact walk_list
theorem itScr (hok : ∀ F φ st, ok F φ st → Le F0 F) (h0 : SqL K F0 a vs) (h : RpA K F0 vs ds) : ItOk K CA ok (Itl K a) ds := by
  refine ⟨fun H => SqL K H a vs, YAt vs, ?_, fun F φ st H o r => SqL.le r.sub (SqL.le (hok _ _ _ o) h0), fun i x H H' F φ st _ o r y => yAt h i x H H' F φ st (hok _ _ _ o) r y⟩
  rw [← h.length]; exact walk_list
theorem itTup (hok : ∀ F φ st, ok F φ st → Le F0 F) (h0 : SqT K F0 a vs) (h : RpA K F0 vs ds) : ItOk K CA ok (Itt K a) ds := by
  refine ⟨fun H => SqT K H a vs, YAt vs, ?_, fun F φ st H o r => SqT.le r.sub (SqT.le (hok _ _ _ o) h0), fun i x H H' F φ st _ o r y => yAt h i x H H' F φ st (hok _ _ _ o) r y⟩
  rw [← h.length]; exact walk_tup
theorem rngL_get (lo : Int) (n i : Nat) (h : i < n) : (rngL lo n)[i]? = some (.int (lo + i)) := by
  induction n generalizing lo i with
  | zero => omega
  | succ n ih =>
    unfold rngL
    cases i with
    | zero => simp
    | succ i =>
      rw [List.getElem?_cons_succ, ih (lo + 1) i (by omega)]
      congr 2; omega
theorem itRng (lo : Int) (n : Nat) : ItOk K CA ok (Itr lo n) (rngL lo n) := by
  refine ⟨fun _ => True, YFn fun i => .int (lo + i), ?_, fun _ _ _ _ _ _ => trivial, fun i x H H' F φ st hi _ r y => ?_⟩
  · rw [rngL_len]; exact walk_range
  · obtain ⟨rfl, rfl⟩ := y
    rw [rngL_len] at hi
    exact ⟨F, _, rngL_get lo n i hi, r.nx, .int _⟩
theorem enmL_len (k : Nat) (ds : List PyData) : (enmL k ds).length = ds.length := by
  induction ds generalizing k with
  | nil => rfl
  | cons d ds ih => unfold enmL; rw [List.length_cons, List.length_cons, ih]
theorem enmL_get (k : Nat) (ds : List PyData) (i : Nat) (d : PyData) (h : ds[i]? = some d) : (enmL k ds)[i]? = some (.tuple [.int ((k + i : Nat) : Int), d]) := by
  induction ds generalizing k i with
  | nil => simp at h
  | cons x ds ih =>
    unfold enmL
    cases i with
    | zero => simp at h; subst h; simp
    | succ i =>
      simp at h
      rw [List.getElem?_cons_succ, ih (k + 1) i h]
      congr 4
      exact congrArg Nat.cast (by omega)
theorem yEnm (h : RpA K F0 vs ds) : ∀ (i : Nat) (x : V) (H H' F : Hp) (φ : List FP) (st : Sto), Le F0 F → R K CA F φ st H → YPair (fun i => some (.int (i : Nat))) (fun i => vs[i]?) i H x H' →
    ∃ F' d, (enmL 0 ds)[i]? = some d ∧ Nx K CA F φ H F' φ st H' ∧ Rp K F' x d := by
  intro i x H H' F φ st l r y
  obtain ⟨T, a, b, rfl, hT, rfl, e1, e2⟩ := y
  cases e1
  obtain ⟨d, e3, e4⟩ := h.getV e2
  have n := r.nxData hT (.tup [.int (i : Nat), b])
  refine ⟨_, _, enmL_get 0 ds i d e3, n, ?_⟩
  rw [Nat.zero_add]
  exact .tup (SqT.of upd_same) (by show 2 ≤ sizeL; decide) (.cons (.int _) (.cons (e4.le (l.trans n.le)) .nil))
theorem itEnm (hok : ∀ F φ st, ok F φ st → Le F0 F) (h0 : F0 a = some (.lst vs)) (h : RpA K F0 vs ds) : ItOk K CA ok (Ite K a) (enmL 0 ds) := by
  refine ⟨fun H => SqL K H a vs, _, ?_, fun F φ st H o r => SqL.of (r.sub _ _ (hok _ _ _ o _ _ h0)), fun i x H H' F φ st _ o r y => yEnm h i x H H' F φ st (hok _ _ _ o) r y⟩
  rw [enmL_len, ← h.length]; exact walk_enum
theorem itEnmT (hok : ∀ F φ st, ok F φ st → Le F0 F) (h0 : SqT K F0 a vs) (h : RpA K F0 vs ds) : ItOk K CA ok (IteT K a) (enmL 0 ds) := by
  refine ⟨fun H => SqT K H a vs, _, ?_, fun F φ st H o r => SqT.le r.sub (SqT.le (hok _ _ _ o) h0), fun i x H H' F φ st _ o r y => yEnm h i x H H' F φ st (hok _ _ _ o) r y⟩
  rw [enmL_len, ← h.length]; exact walkEnumT
/-- a mutable list, while the store stays -/
theorem itRef {v : Vl} {φ0 : List FP} {st0 : Sto} (hok : ∀ F φ st, ok F φ st → Le F0 F ∧ Gr φ0 φ ∧ st = st0) (hv : RV K F0 φ0 (.ref a) v) (e : dat st0 v = some (.list ds)) : ItOk K CA ok (Itl K a) ds := by
  have rd : ∀ F φ st H, ok F φ st → R K CA F φ st H → ∃ ws, H a = some (.lst ws) ∧ RpA K F ws ds := fun F φ st H o r => by
    obtain ⟨l, g, rfl⟩ := hok F φ st o
    obtain ⟨a', ws, ea, h1, _, h3⟩ := r.reads (hv.le l g) e
    cases ea
    exact ⟨ws, h1, h3⟩
  refine ⟨fun H => ∃ ws, SqL K H a ws ∧ ws.length = ds.length, fun i H x H' => H' = H ∧ ∀ xs, SqL K H a xs → xs[i]? = some x, ⟨fun i H hi ⟨ws, h1, h2⟩ => ?_, fun H ⟨ws, h1, h2⟩ => ⟨ws, h1, by omega⟩, fun _ _ _ _ _ _ y => y⟩, fun F φ st H o r => ?_, fun i x H H' F φ st hi o r y => ?_⟩
  · exact ⟨ws, ws[i], h1, by simp [h2, hi]⟩
  · obtain ⟨ws, h1, h2⟩ := rd F φ st H o r
    exact ⟨ws, SqL.of h1, h2.length⟩
  · obtain ⟨ws, h1, h2⟩ := rd F φ st H o r
    obtain ⟨rfl, y⟩ := y
    obtain ⟨d, e1, e2⟩ := h2.getV (y ws (SqL.of h1))
    exact ⟨F, d, e1, r.nx, e2⟩
theorem itRefE {v : Vl} {φ0 : List FP} {st0 : Sto} (hok : ∀ F φ st, ok F φ st → Le F0 F ∧ Gr φ0 φ ∧ st = st0) (hv : RV K F0 φ0 (.ref a) v) (e : dat st0 v = some (.list ds)) : ItOk K CA ok (Ite K a) (enmL 0 ds) := by
  have rd : ∀ F φ st H, ok F φ st → R K CA F φ st H → ∃ ws, H a = some (.lst ws) ∧ RpA K F ws ds := fun F φ st H o r => by
    obtain ⟨l, g, rfl⟩ := hok F φ st o
    obtain ⟨a', ws, ea, h1, _, h3⟩ := r.reads (hv.le l g) e
    cases ea
    exact ⟨ws, h1, h3⟩
  refine ⟨fun H => ∃ ws, SqL K H a ws ∧ ws.length = ds.length, fun i H v H' => ∃ T x, v = .ref T ∧ H T = none ∧ H' = upd H T (.tup [.int (i : Nat), x]) ∧ ∀ xs, SqL K H a xs → xs[i]? = some x, ⟨fun i H hi ⟨ws, h1, h2⟩ => ?_, fun H ⟨ws, h1, h2⟩ => ⟨ws, h1, by rw [enmL_len]; omega⟩, fun _ _ _ _ _ _ y => y⟩, fun F φ st H o r => ?_, fun i x H H' F φ st hi o r y => ?_⟩
  · rw [enmL_len] at hi
    exact ⟨ws, ws[i], h1, by simp [h2, hi]⟩
  · obtain ⟨ws, h1, h2⟩ := rd F φ st H o r
    exact ⟨ws, SqL.of h1, h2.length⟩
  · obtain ⟨ws, h1, h2⟩ := rd F φ st H o r
    obtain ⟨T, z, e1, e2, e3, e4⟩ := y
    exact yEnm h2 i x H H' F φ st Le.rfl r ⟨T, _, z, e1, e2, e3, rfl, e4 ws (SqL.of h1)⟩
end
end Tw
set_option Elab.async false
set_option linter.all false
set_option maxRecDepth 100000
set_option maxHeartbeats 8000000
/-! C3c: dicts copied, made of pairs, brought up to date. -/
namespace Tw
open PySem L2
variable {X : Cx}
def rUpd : V → List V → Hp → VK → Prop := fun x vs H Q => ∃ (a b : Addr) (kvs more : List (Key × V)), x = .ref a ∧ vs = [.ref b] ∧ a ≠ b ∧ H a = some (.dK kvs) ∧ Rd H b (.dK more) ∧ kvs.length + more.length ≤ sizeLine ∧ Q .non (upd H a (.dK (mergeK kvs more)))
theorem mtd_upd : MtR X "dict.update" rUpd := by
  intro pins s σ H x vs v us Q I rx rv h
  obtain ⟨a, b, kvs, more, ex, ev, ne, ea, eb, hz, q⟩ := h
  subst ex
  subst ev
  obtain rfl : v = Value.ref a := rx
  obtain ⟨u, eu, ru⟩ := vals1 rv
  subst eu
  obtain rfl : u = Value.ref b := ru
  obtain ⟨z, hd, vs, rel, dd⟩ := dk_of I.hok ea
  obtain ⟨z2, hd2, vs2, rel2, dd2⟩ := dk_rd I.hok eb
  refine call_meetsIn PySem.F.slot_dict_update dd.typeIs PySem.F.entry_dict_update (PySem.F.args_dict_update_2 _ _) (meets_dict_update (mixKind X.prog X.w) a b ne hd2) ⟨vs, vs2, dd, dd2, by rw [← rel.length, ← rel2.length]; exact hz, fun h' dd' dd2' hs => ?_⟩
  have he : ∃ q, h'.get? a = some q := let ⟨q, _, _, hq, _⟩ := dd'; ⟨q, hq⟩
  exact ⟨.non, _, d_write (t' := s.toks) I (by rw [ea]; exact True.intro) hs he (dk_new (Nat.le_trans (length_mergeK _ _) hz) hd (rel2.merge rel) dd'), rfl, q⟩
def rCpy : List V → Hp → VK → Prop := fun xs H Q => ∃ (a : Addr) (kvs : List (Key × V)), xs = [.ref a] ∧ Rd H a (.dK kvs) ∧ ∀ p, H p = none → Q (.ref p) (upd H p (.dK kvs))
theorem cr_cpy : CallR X (.type "dict") rCpy := by
  intro pins s σ H xs us Q I r q
  obtain ⟨a, kvs, ex, e, q⟩ := q
  subst ex
  obtain ⟨u, eu, rx⟩ := vals1 r
  subst eu
  obtain rfl : u = Value.ref a := rx
  exact d_copyOf I e fun p s' hp I' => ⟨.ref p, _, I', rfl, q p hp⟩
end Tw
set_option Elab.async false
set_option linter.all false
set_option maxRecDepth 100000
set_option maxHeartbeats 4000000
/-! C3d: dict(list(zip(a, b))) of two tuples. -/
namespace Tw
open PySem L2 PySem.Spec PyProof.Rows
open Sem (wp)
section
variable {prog : Program} {w : World} {A : Around} {E : Value → Shared → Prop} {s : Shared}
/-- the next pair, while the last one is still held -/
theorem zHeldItem {z TI TO T j1 j2 t1 t2 : Addr} {fl : Bool} {oT : Obj} {m1 m2 : Nat} {us vs : Array Value} {p q : Value} {Q : Option Value → Shared → Prop} (D : ZipApart z TI TO j1 j2 t1 t2)
    (hz : IsZipHeld s.heap z TI TO T fl) (hT : s.heap.get? T = some oT) (hp : IsPair s.heap TI (.ref j1) (.ref j2)) (i1 : s.heap.IsTupleIter j1 t1 m1) (i2 : s.heap.IsTupleIter j2 t2 m2)
    (k1 : s.heap.IsTuple t1 us) (k2 : s.heap.IsTuple t2 vs) (e1 : us[m1]? = some p) (e2 : vs[m2]? = some q)
    (go : ∀ g, IsZipHeld g z TI TO T true → g.IsTupleIter j1 t1 (m1 + 1) → g.IsTupleIter j2 t2 (m2 + 1) → IsPair g s.heap.objs.size p q → g.objs.size = s.heap.objs.size + 1 →
      (∀ c o, c ≠ z → c ≠ j1 → c ≠ j2 → s.heap.get? c = some o → g.get? c = some o) → Q (some (.ref s.heap.objs.size)) { s with heap := g }) :
    wpAny (model prog w) A (pyNext (.ref z)) Q E s := by
  have ty : s.TypeIs (.ref z) "zip" := ⟨_, hz, rfl⟩
  have run : ∀ {E' : Value → Shared → Prop}, wpAny (model prog w) A.in1 (Builtin.«zip.__next__» ⟨[.ref z], []⟩) (fun fin s' => ∃ v, fin = .done (.ret v) ∧ wpAny (model prog w) A (pure (some v)) Q E s') E' s := by
    intro E'
    show wpAny _ _ (field (.ref z) 2 >>= _) _ _ _
    refine wpAny_bind (wpAny_field hz rfl (x := .bool false) rfl ?_)
    show wpAny _ _ (field (.ref z) 3 >>= _) _ _ _
    refine wpAny_bind (wpAny_field hz rfl (x := .ref TI) rfl (wpAny_bind (wpAny_seqItems hp rfl ?_)))
    show wpAny _ _ (Builtin.SmallTypes.ownedTupleIsFree (.ref z) >>= _) _ _ _
    refine wpAny_bind (wpAny_tupleHeld_zip hz hT fun g1 z1 b1 => ?_)
    simp only [Bool.false_eq_true, if_false]
    refine wpAny_bind ?_
    rw [← Array.forIn_toList]
    simp only [List.forIn_cons, List.forIn_nil]
    refine wpAny_bind (wpAny_bind (wpAny_holding ?_))
    show wpAny _ _ (Builtin.SmallTypes.nextOf (.ref j1) >>= _) _ _ _
    refine wpAny_bind (RZ.nextOf_tuple_item (s := { s with heap := g1 }) (i1.extBut b1.extBut D.i1z) (k1.extBut b1.extBut D.l1z) e1 fun g2 n1 b2 => wpAny_pure (wpAny_pure ?_))
    refine wpAny_bind (wpAny_bind (wpAny_holding ?_))
    show wpAny _ _ (Builtin.SmallTypes.nextOf (.ref j2) >>= _) _ _ _
    refine wpAny_bind (RZ.nextOf_tuple_item (s := { s with heap := g2 }) ((i2.extBut b1.extBut D.i2z).extBut b2.extBut D.i12.symm) ((k2.extBut b1.extBut D.l2z).extBut b2.extBut D.l2i1) e2 fun g3 n2 b3 => wpAny_pure (wpAny_pure (wpAny_pure ?_)))
    show wpAny _ _ (newTuple [p, q] >>= _) _ _ _
    refine wpAny_bind (wpAny_newTuple (wpAny_pure ⟨_, rfl, wpAny_pure ?_⟩))
    have sz : g3.objs.size = s.heap.objs.size := by rw [b3.1, b2.1, b1.1]
    have nz : (g3.push { cls := .type "tuple", data := .seq #[p, q] }).objs.size = g3.objs.size + 1 := Heap.size_push ..
    have np : IsPair (g3.push { cls := .type "tuple", data := .seq #[p, q] }) g3.objs.size p q := Heap.get?_push_size _ rfl
    have z3 : IsZipHeld g3 z TI TO T true := b3.extBut _ _ D.i2z.symm (b2.extBut _ _ D.i1z.symm z1)
    have n13 : g3.IsTupleIter j1 t1 (m1 + 1) := n1.extBut b3.extBut D.i12
    show Q (some (.ref g3.objs.size)) _
    rw [sz] at np nz ⊢
    exact go _ (Heap.get?_push_of_some _ z3) (n13.at fun o e => Heap.get?_push_of_some _ e) (n2.at fun o e => Heap.get?_push_of_some _ e) np nz
      fun c o x1 x2 x3 e => Heap.get?_push_of_some _ (b3.extBut _ _ x3 (b2.extBut _ _ x2 (b1.extBut _ _ x1 e)))
  unfold pyNext
  exact wpAny_bind (wpAny_attempt (wpAny_callSpecial?_slot (name := Str.ofString "__next__") ty F.slot_zip_next (wpAny_call_entry F.slot_zip_next ty F.entry_zip_next run (F.args_zip_next_1 _))))
theorem zHeldEnd {z TI TO T j1 j2 t1 t2 : Addr} {fl : Bool} {oT : Obj} {m1 m2 : Nat} {us vs : Array Value} {Q : Option Value → Shared → Prop} (hh : A.handled = none) (D : ZipApart z TI TO j1 j2 t1 t2)
    (hz : IsZipHeld s.heap z TI TO T fl) (hT : s.heap.get? T = some oT) (hp : IsPair s.heap TI (.ref j1) (.ref j2)) (i1 : s.heap.IsTupleIter j1 t1 m1) (i2 : s.heap.IsTupleIter j2 t2 m2)
    (k1 : s.heap.IsTuple t1 us) (k2 : s.heap.IsTuple t2 vs) (fin : us[m1]? = none ∨ vs[m2]? = none)
    (go : ∀ g, (∀ c o, c ≠ z → c ≠ j1 → c ≠ j2 → s.heap.get? c = some o → g.get? c = some o) → Q none { s with heap := g }) : wpAny (model prog w) A (pyNext (.ref z)) Q E s := by
  have ty : s.TypeIs (.ref z) "zip" := ⟨_, hz, rfl⟩
  have run : ∀ {Q' : PySem.Fin → Shared → Prop} {E' : Value → Shared → Prop}, (∀ g x, (∀ c o, c ≠ z → c ≠ j1 → c ≠ j2 → s.heap.get? c = some o → g.get? c = some o) → (∃ o, g.get? x = some o ∧ o.cls = .type "StopIteration") → E' (.ref x) { s with heap := g }) →
      wpAny (model prog w) A.in1 (Builtin.«zip.__next__» ⟨[.ref z], []⟩) Q' E' s := by
    intro Q' E' out
    show wpAny _ _ (field (.ref z) 2 >>= _) _ _ _
    refine wpAny_bind (wpAny_field hz rfl (x := .bool false) rfl ?_)
    show wpAny _ _ (field (.ref z) 3 >>= _) _ _ _
    refine wpAny_bind (wpAny_field hz rfl (x := .ref TI) rfl (wpAny_bind (wpAny_seqItems hp rfl ?_)))
    show wpAny _ _ (Builtin.SmallTypes.ownedTupleIsFree (.ref z) >>= _) _ _ _
    refine wpAny_bind (wpAny_tupleHeld_zip hz hT fun g1 z1 b1 => ?_)
    simp only [Bool.false_eq_true, if_false]
    refine wpAny_bind ?_
    rw [← Array.forIn_toList]
    simp only [List.forIn_cons, List.forIn_nil]
    refine wpAny_bind (wpAny_bind (wpAny_holding ?_))
    show wpAny _ _ (Builtin.SmallTypes.nextOf (.ref j1) >>= _) _ _ _
    have hh1 : A.in1.handled = none := by simp [hh]
    cases e1 : us[m1]? with
    | none =>
      refine wpAny_bind (RZ.nextOf_tuple_end (s := { s with heap := g1 }) hh1 (i1.extBut b1.extBut D.i1z) (k1.extBut b1.extBut D.l1z) e1 fun g2 x b2 hx => ?_)
      exact out g2 x (fun c o x1 x2 _ e => b2 _ _ x2 (b1.extBut _ _ x1 e)) hx
    | some p =>
      have e2 : vs[m2]? = none := by
        rcases fin with f | f
        · rw [e1] at f; cases f
        · exact f
      refine wpAny_bind (RZ.nextOf_tuple_item (s := { s with heap := g1 }) (i1.extBut b1.extBut D.i1z) (k1.extBut b1.extBut D.l1z) e1 fun g2 n1 b2 => wpAny_pure (wpAny_pure ?_))
      refine wpAny_bind (wpAny_bind (wpAny_holding ?_))
      show wpAny _ _ (Builtin.SmallTypes.nextOf (.ref j2) >>= _) _ _ _
      refine wpAny_bind (RZ.nextOf_tuple_end (s := { s with heap := g2 }) hh1 ((i2.extBut b1.extBut D.i2z).extBut b2.extBut D.i12.symm) ((k2.extBut b1.extBut D.l2z).extBut b2.extBut D.l2i1) e2 fun g3 x b3 hx => ?_)
      exact out g3 x (fun c o x1 x2 x3 e => b3 _ _ x3 (b2.extBut _ _ x2 (b1.extBut _ _ x1 e))) hx
  unfold pyNext
  refine wpAny_bind (wpAny_attempt (wpAny_callSpecial?_slot (name := Str.ofString "__next__") ty F.slot_zip_next (wpAny_call_entry F.slot_zip_next ty F.entry_zip_next (run fun g x hk ⟨o, ho, hc⟩ => ?_) (F.args_zip_next_1 _))))
  refine wpAny_bind (wpAny_isInstance (T := "StopIteration") (b := true) ⟨o, ho, hc⟩ isSubtype_stop (wpAny_pure (go _ hk)))
end
structure ZSt (h : Heap) (z TI TO j1 j2 t1 t2 S : Addr) (us vs : Array Value) (i : Nat) : Prop where
  ti : IsPair h TI (.ref j1) (.ref j2)
  i1 : h.IsTupleIter j1 t1 i
  i2 : h.IsTupleIter j2 t2 i
  k1 : h.IsTuple t1 us
  k2 : h.IsTuple t2 vs
  to : ∃ o, h.get? TO = some o
  zp : (IsZip h z TI TO .none ∧ ∃ a b, IsPair h TO a b) ∨ ∃ T fl oT, IsZipHeld h z TI TO T fl ∧ h.get? T = some oT ∧ T ≠ z ∧ T ≠ j1 ∧ T ≠ j2 ∧ T ≠ S
structure ZPr (h : Heap) (z TO j1 j2 S : Addr) (us vs : Array Value) (as : List Addr) : Prop where
  off : ∀ a ∈ as, a ≠ z ∧ a ≠ TO ∧ a ≠ j1 ∧ a ≠ j2 ∧ a ≠ S
  prs : ∀ (j : Nat) (a : Addr), as[j]? = some a → ∃ x y, us[j]? = some x ∧ vs[j]? = some y ∧ IsPair h a x y
theorem ZSt.upS {h g : Heap} {z TI TO j1 j2 t1 t2 S : Addr} {us vs : Array Value} {i : Nat} (x : ZSt h z TI TO j1 j2 t1 t2 S us vs i) (hk : ∀ b o, b ≠ S → h.get? b = some o → g.get? b = some o)
    (n : TI ≠ S ∧ j1 ≠ S ∧ j2 ≠ S ∧ t1 ≠ S ∧ t2 ≠ S ∧ z ≠ S ∧ TO ≠ S) : ZSt g z TI TO j1 j2 t1 t2 S us vs i := by
  obtain ⟨n1, n2, n3, n4, n5, n6, n7⟩ := n
  refine ⟨hk _ _ n1 x.ti, x.i1.at fun o e => hk _ o n2 e, x.i2.at fun o e => hk _ o n3 e, x.k1.at fun o e => hk _ o n4 e, x.k2.at fun o e => hk _ o n5 e, x.to.imp fun o e => hk _ o n7 e, ?_⟩
  rcases x.zp with ⟨a, b, c, d⟩ | ⟨T, fl, oT, a, b, c1, c2, c3, c4⟩
  · exact .inl ⟨hk _ _ n6 a, b, c, hk _ _ n7 d⟩
  · exact .inr ⟨T, fl, oT, hk _ _ n6 a, hk _ _ c4 b, c1, c2, c3, c4⟩
section
variable {prog : Program} {w : World} {A : Around} {s : Shared} {R : Result → Shared → Prop}
theorem zNext {z TI TO j1 j2 t1 t2 S : Addr} {us vs : Array Value} {i : Nat} {E : Value → Shared → Prop} {Q : Option Value → Shared → Prop} (D : ZipApart z TI TO j1 j2 t1 t2) (st : ZSt s.heap z TI TO j1 j2 t1 t2 S us vs i) (hS : S < s.heap.objs.size) (hi : i < min us.size vs.size)
    (go : ∀ g x y, us[i]? = some x → vs[i]? = some y → ZSt g z TI TO j1 j2 t1 t2 S us vs (i + 1) → IsPair g s.heap.objs.size x y → g.objs.size = s.heap.objs.size + 1 →
      (∀ c o, c ≠ z → c ≠ TO → c ≠ j1 → c ≠ j2 → s.heap.get? c = some o → g.get? c = some o) → Q (some (.ref s.heap.objs.size)) { s with heap := g }) : wpAny (model prog w) A (pyNext (.ref z)) Q E s := by
  have h1 : i < us.size := Nat.lt_of_lt_of_le hi (Nat.min_le_left ..)
  have h2 : i < vs.size := Nat.lt_of_lt_of_le hi (Nat.min_le_right ..)
  have e1 := Array.getElem?_eq_getElem h1
  have e2 := Array.getElem?_eq_getElem h2
  have lt : ∀ {c o}, s.heap.get? c = some o → s.heap.objs.size ≠ c := fun e => Nat.ne_of_gt (Heap.lt_size e)
  have n1 : s.heap.objs.size ≠ j1 := let ⟨_, e, _⟩ := st.i1; lt e
  have n2 : s.heap.objs.size ≠ j2 := let ⟨_, e, _⟩ := st.i2; lt e
  rcases st.zp with ⟨hz, a, b, hTO⟩ | ⟨T, fl, oT, hz, hT, r1, r2, r3, r4⟩
  · refine RZ.pyNext_zipT_item D hz st.ti hTO st.i1 st.i2 st.k1 st.k2 e1 e2 fun g a1 a2 a3 a4 a5 a6 hk => ?_
    exact go g _ _ e1 e2 ⟨hk _ _ D.TIz D.TITO D.TIi1 D.TIi2 st.ti, a3, a4, st.k1.at fun o e => hk _ o D.l1z D.l1TO D.l1i1 D.l1i2 e, st.k2.at fun o e => hk _ o D.l2z D.l2TO D.l2i1 D.l2i2 e, ⟨_, a2⟩,
      .inr ⟨_, false, _, a1, a5, lt hz, n1, n2, Nat.ne_of_gt hS⟩⟩ a5 a6 hk
  · refine zHeldItem D hz hT st.ti st.i1 st.i2 st.k1 st.k2 e1 e2 fun g a1 a3 a4 a5 a6 hk => ?_
    exact go g _ _ e1 e2 ⟨hk _ _ D.TIz D.TIi1 D.TIi2 st.ti, a3, a4, st.k1.at fun o e => hk _ o D.l1z D.l1i1 D.l1i2 e, st.k2.at fun o e => hk _ o D.l2z D.l2i1 D.l2i2 e, st.to.imp fun o e => hk _ o D.TOz D.TOi1 D.TOi2 e,
      .inr ⟨T, true, oT, a1, hk _ _ r1 r2 r3 hT, r1, r2, r3, r4⟩⟩ a5 a6 fun c o x1 _ x3 x4 e => hk c o x1 x3 x4 e
theorem zStop {z TI TO j1 j2 t1 t2 S : Addr} {us vs : Array Value} {i : Nat} {E : Value → Shared → Prop} {Q : Option Value → Shared → Prop} (hh : A.handled = none) (D : ZipApart z TI TO j1 j2 t1 t2) (st : ZSt s.heap z TI TO j1 j2 t1 t2 S us vs i) (hi : min us.size vs.size ≤ i)
    (go : ∀ g, (∀ c o, c ≠ z → c ≠ TO → c ≠ j1 → c ≠ j2 → s.heap.get? c = some o → g.get? c = some o) → Q none { s with heap := g }) : wpAny (model prog w) A (pyNext (.ref z)) Q E s := by
  have fin : us[i]? = none ∨ vs[i]? = none := by
    rcases Nat.le_total us.size vs.size with h | h
    · exact .inl (Array.getElem?_eq_none (by omega))
    · exact .inr (Array.getElem?_eq_none (by omega))
  rcases st.zp with ⟨hz, a, b, hTO⟩ | ⟨T, fl, oT, hz, hT, r1, r2, r3, r4⟩
  · exact RZ.pyNext_zipT_end hh D hz st.ti hTO st.i1 st.i2 st.k1 st.k2 fin fun g hk => go g hk
  · exact zHeldEnd hh D hz hT st.ti st.i1 st.i2 st.k1 st.k2 fin fun g hk => go g fun c o x1 _ x3 x4 e => hk c o x1 x3 x4 e
theorem zLoop {z TI TO j1 j2 t1 t2 S : Addr} {us vs : Array Value} (hh : A.handled = none) (D : ZipApart z TI TO j1 j2 t1 t2) (nS : TI ≠ S ∧ j1 ≠ S ∧ j2 ≠ S ∧ t1 ≠ S ∧ t2 ≠ S ∧ z ≠ S ∧ TO ≠ S) (hn : min us.size vs.size ≤ sizeLine) (res : Value) {h₁ : Heap}
    (fin : ∀ g tk acc c as, (∀ b o, b ≠ S → b ≠ z → b ≠ TO → b ≠ j1 → b ≠ j2 → h₁.get? b = some o → g.get? b = some o) → g.get? S = some { cls := .type "list", dict := none, data := .seq acc c, slots := #[] } → as.length = min us.size vs.size → ZPr g z TO j1 j2 S us vs as →
      acc.toList = as.map Value.ref → R (.ok (.ret res)) { s with heap := g, toks := tk }) :
    ∀ (k i : Nat) (h : Heap) (tk c : Nat) (acc : Array Value) (as : List Addr), min us.size vs.size - i = k → i ≤ min us.size vs.size → ZSt h z TI TO j1 j2 t1 t2 S us vs i → (∀ b o, b ≠ S → b ≠ z → b ≠ TO → b ≠ j1 → b ≠ j2 → h₁.get? b = some o → h.get? b = some o) →
      h.get? S = some { cls := .type "list", dict := none, data := .seq acc c, slots := #[] } → acc.toList = as.map Value.ref → as.length = i → ZPr h z TO j1 j2 S us vs as →
      codeAny (model prog w) A (.builtin "list.extend.loop" ⟨[.ref S, .ref z, res], []⟩) R { s with heap := h, toks := tk } := by
  obtain ⟨nTI, nj1, nj2, nt1, nt2, nz, nTO⟩ := id nS
  intro k
  induction k with
  | zero =>
    intro i h tk c acc as hk hi st kp hS hacc hal hP
    refine codeAny_builtin PySem.F.entry_extend_loop ?_
    rw [Around.under_plainId PySem.F.plain_extend_loop _]
    show wpAny _ A.in1 (pyNext (.ref z) >>= _) _ _ _
    refine wpAny_bind (zStop (s := { s with heap := h, toks := tk }) (A := A.in1) hh D st (by omega) fun g he => ?_)
    refine wpAny_pure (fin g tk acc c as (fun b o b1 b2 b3 b4 b5 e => he b o b2 b3 b4 b5 (kp b o b1 b2 b3 b4 b5 e)) (he S _ nz.symm nTO.symm nj1.symm nj2.symm hS) (by omega) ⟨hP.off, fun j a hj => ?_⟩ hacc)
    obtain ⟨x, y, e1, e2, e3⟩ := hP.prs j a hj
    obtain ⟨o1, o2, o3, o4, o5⟩ := hP.off a (List.mem_of_getElem? hj)
    exact ⟨x, y, e1, e2, he a _ o1 o2 o3 o4 e3⟩
  | succ k ih =>
    intro i h tk c acc as hk hi st kp hS hacc hal hP
    have hlt : i < min us.size vs.size := by omega
    have hsz : acc.size = i := by rw [← Array.length_toList, hacc, List.length_map, hal]
    have hSl : S < h.objs.size := Heap.lt_size hS
    refine codeAny_builtin PySem.F.entry_extend_loop ?_
    rw [Around.under_plainId PySem.F.plain_extend_loop _]
    show wpAny _ A.in1 (pyNext (.ref z) >>= _) _ _ _
    refine wpAny_bind (zNext (s := { s with heap := h, toks := tk }) D st hSl hlt fun g x y e1 e2 st' hT hz he => ?_)
    dsimp only at hT hz he ⊢
    have hS' := he S _ nz.symm nTO.symm nj1.symm nj2.symm hS
    have up : ∀ b o, b ≠ S → g.get? b = some o → (g.update S (Obj.mapSeq (·.push (Value.ref h.objs.size)))).get? b = some o := fun b o hb e => (Heap.get?_update_other _ _ (Ne.symm hb)).trans e
    have lt : ∀ {c o}, h.get? c = some o → h.objs.size ≠ c := fun e => Nat.ne_of_gt (Heap.lt_size e)
    have m1 : h.objs.size ≠ j1 := let ⟨_, e, _⟩ := st.i1; lt e
    have m2 : h.objs.size ≠ j2 := let ⟨_, e, _⟩ := st.i2; lt e
    have m3 : h.objs.size ≠ z := by rcases st.zp with ⟨a, _⟩ | ⟨_, _, _, a, _⟩ <;> exact lt a
    have m4 : h.objs.size ≠ TO := let ⟨_, e⟩ := st.to; lt e
    show wpAny _ A.in1 (updateSeq S (·.push (Value.ref h.objs.size)) >>= _) _ _ _
    refine wpAny_bind ?_
    refine wpAny_updateSeq hS' rfl (wpAny_pure ⟨plainId_quiet PySem.F.plain_extend_loop _, ih (i + 1) _ tk _ (acc.push (Value.ref h.objs.size)) (as ++ [h.objs.size]) (by omega) hlt (st'.upS up nS)
      (fun b o b1 b2 b3 b4 b5 e => up b o b1 (he b o b2 b3 b4 b5 (kp b o b1 b2 b3 b4 b5 e))) (Heap.get?_update_self _ hS' rfl) (by rw [Array.toList_push, hacc, List.map_append]; rfl) (by rw [List.length_append, hal]; rfl) ⟨?_, ?_⟩⟩) (by rw [hsz]; omega) (by show (acc.push (Value.ref h.objs.size)).size ≤ sizeLine + 1; rw [Array.size_push, hsz]; omega)
    · intro a ha
      rcases List.mem_append.mp ha with ha | ha
      · exact hP.off a ha
      · rw [List.mem_singleton.mp ha]
        exact ⟨m3, m4, m1, m2, Nat.ne_of_gt hSl⟩
    · intro j b hj
      rcases Nat.lt_trichotomy j as.length with q | q | q
      · rw [List.getElem?_append_left q] at hj
        obtain ⟨x', y', r1, r2, r3⟩ := hP.prs j b hj
        obtain ⟨o1, o2, o3, o4, o5⟩ := hP.off b (List.mem_of_getElem? hj)
        exact ⟨x', y', r1, r2, up b _ o5 (he b _ o1 o2 o3 o4 r3)⟩
      · subst q
        have hb : h.objs.size = b := by simpa using hj
        subst hb
        subst hal
        exact ⟨x, y, e1, e2, up _ _ (Nat.ne_of_gt hSl) hT⟩
      · rw [List.getElem?_eq_none (by rw [List.length_append, List.length_singleton]; omega)] at hj
        cases hj
end
theorem zip_no_len : typeLookup (.type "zip") "__len__" = pure none := am_miss_of_fast (by decide +kernel)
theorem zip_no_hint : typeLookup (.type "zip") "__length_hint__" = pure none := am_miss_of_fast (by decide +kernel)
section
variable {prog : Program} {w : World} {A : Around} {E : Value → Shared → Prop} {s : Shared}
/-- list(z), z a zip of two tuples just made -/
theorem zList {z TI TO j1 j2 t1 t2 : Addr} {us vs : Array Value} {Q : Value → Shared → Prop} (hh : A.handled = none) (D : ZipApart z TI TO j1 j2 t1 t2) (hz : IsZip s.heap z TI TO .none) (st : ∀ S, s.heap.objs.size ≤ S → ZSt s.heap z TI TO j1 j2 t1 t2 S us vs 0) (hlt : ∀ c ∈ [z, TI, TO, j1, j2, t1, t2], c < s.heap.objs.size) (hn : min us.size vs.size ≤ sizeLine)
    (fin : ∀ (g : Heap) (tk : Nat) (acc : Array Value) (c : Nat) (as : List Addr), (∀ b o, b ≠ z → b ≠ TO → b ≠ j1 → b ≠ j2 → s.heap.get? b = some o → g.get? b = some o) → g.get? s.heap.objs.size = some { cls := .type "list", dict := none, data := .seq acc c, slots := #[] } → as.length = min us.size vs.size →
      (∀ (j : Nat) (a : Addr), as[j]? = some a → ∃ x y, us[j]? = some x ∧ vs[j]? = some y ∧ IsPair g a x y) → acc.toList = as.map Value.ref → Q (.ref s.heap.objs.size) { s with heap := g, toks := tk }) :
    wpAny (model prog w) A (call (.type "list") [.ref z]) Q E s := by
  have nS : TI ≠ s.heap.objs.size ∧ j1 ≠ s.heap.objs.size ∧ j2 ≠ s.heap.objs.size ∧ t1 ≠ s.heap.objs.size ∧ t2 ≠ s.heap.objs.size ∧ z ≠ s.heap.objs.size ∧ TO ≠ s.heap.objs.size :=
    ⟨Nat.ne_of_lt (hlt _ (by simp)), Nat.ne_of_lt (hlt _ (by simp)), Nat.ne_of_lt (hlt _ (by simp)), Nat.ne_of_lt (hlt _ (by simp)), Nat.ne_of_lt (hlt _ (by simp)), Nat.ne_of_lt (hlt _ (by simp)), Nat.ne_of_lt (hlt _ (by simp))⟩
  have hst := st s.heap.objs.size (Nat.le_refl _)
  refine callType_codes (Q₁ := fun obj s₁ => obj = .ref s.heap.objs.size ∧ s₁ = { s with heap := s.heap.push { cls := .type "list", data := .seq #[] } }) F.called_list (F.typeCall_list_1 _) F.entry_list_init
    (code_list_new _ ⟨rfl, rfl⟩) fun obj s₁ q => ?_
  obtain ⟨rfl, rfl⟩ := q
  have hS : (s.heap.push { cls := .type "list", data := .seq #[] }).get? s.heap.objs.size = some { cls := .type "list", data := .seq #[] } := Heap.get?_push_size _ rfl
  refine ⟨⟨_, hS, rfl⟩, F.args_list_init_2 _ _, ?_⟩
  show wpAny _ _ (do let old ← Builtin.List.listItems (.ref s.heap.objs.size); Builtin.List.listUpdate (.ref s.heap.objs.size) (fun _ => #[]); letGo old.toList.reverse; Builtin.List.listExtendWith (.ref s.heap.objs.size) (.ref z) .none) _ _ _
  refine wpAny_bind ?_
  unfold Builtin.List.listItems
  refine wpAny_bind (wpAny_seqItems hS rfl (wpAny_pure ?_))
  show wpAny _ _ (updateSeq s.heap.objs.size (fun _ => #[]) >>= fun _ => letGo (#[] : Array Value).toList.reverse >>= fun _ => Builtin.List.listExtendWith (.ref s.heap.objs.size) (.ref z) .none) _ _ _
  refine wpAny_bind (wpAny_updateSeq hS rfl (wpAny_bind (wpAny_letGo ?_)))
  have hS₂ := Heap.get?_update_self (Obj.mapSeq (fun _ => (#[] : Array Value))) hS rfl
  have up : ∀ b o, b ≠ s.heap.objs.size → s.heap.get? b = some o → ((s.heap.push { cls := .type "list", data := .seq #[] }).update s.heap.objs.size (Obj.mapSeq (fun _ => (#[] : Array Value)))).get? b = some o :=
    fun b o hb e => (Heap.get?_update_other _ _ (Ne.symm hb)).trans (Heap.get?_push_of_some _ e)
  generalize ((s.heap.push { cls := .type "list", data := .seq #[] }).update s.heap.objs.size (Obj.mapSeq (fun _ => (#[] : Array Value)))) = h2 at hS₂ up ⊢
  have st2 := hst.upS up nS
  have ty : Shared.TypeIs { s with heap := h2 } (.ref z) "zip" := by rcases st2.zp with ⟨a, _⟩ | ⟨_, _, _, a, _⟩ <;> exact ⟨_, a, rfl⟩
  unfold Builtin.List.listExtendWith
  refine wpAny_bind (wpAny_typeOf ty ?_)
  have x1 : Builtin.List.listSameRef (.ref s.heap.objs.size) (.ref z) = false := by simp [Builtin.List.listSameRef, nS.2.2.2.2.2.1.symm]
  have x2 : (Value.type "zip" == Value.type "list") = false := by decide
  have x3 : (Value.type "zip" == Value.type "tuple") = false := by decide
  simp only [x1, x2, x3, Bool.or_false, Bool.false_eq_true, if_false]
  refine wpAny_bind ?_
  refine wpAny_pyIter_zip (f0 := .none) (show IsZip h2 z TI TO .none from up _ _ nS.2.2.2.2.2.1 hz) ?_
  refine wpAny_bind (wpAny_holding ?_)
  unfold Builtin.List.listLengthHint
  refine wpAny_bind (wpAny_specialOf ty zip_no_len ?_)
  show wpAny _ _ (specialOf (Value.ref z) (Str.ofString "__length_hint__") >>= _) _ _ _
  refine wpAny_bind (wpAny_specialOf ty zip_no_hint (wpAny_pure ?_))
  show wpAny _ _ (rule "list.extend.makes-room" >>= fun _ => Builtin.List.listTouch (.ref s.heap.objs.size) >>= fun _ => again (.builtin "list.extend.loop" ⟨[.ref s.heap.objs.size, .ref z, .none], []⟩)) _ _ _
  refine wpAny_bind (wpAny_rule (wpAny_bind ?_))
  show wpAny _ _ (updateSeq s.heap.objs.size (·.push .none) >>= fun _ => updateSeq s.heap.objs.size (·.pop)) _ _ _
  refine wpAny_bind (wpAny_updateSeq hS₂ rfl ?_)
  have hS₃ := Heap.get?_update_self (Obj.mapSeq (·.push Value.none)) hS₂ rfl
  refine wpAny_updateSeq (hz := by seq_fits) hS₃ rfl ?_
  have hS₄ := Heap.get?_update_self (Obj.mapSeq (·.pop)) hS₃ rfl
  have up2 : ∀ b o, b ≠ s.heap.objs.size → h2.get? b = some o → ((h2.update s.heap.objs.size (Obj.mapSeq (·.push Value.none))).update s.heap.objs.size (Obj.mapSeq (·.pop))).get? b = some o :=
    fun b o hb e => (Heap.get?_update_other _ _ (Ne.symm hb)).trans ((Heap.get?_update_other _ _ (Ne.symm hb)).trans e)
  refine wpAny_pure ⟨plainId_quiet F.plain_extend_loop _, zLoop (h₁ := s.heap) (s := s) (us := us) (vs := vs) (by simp [hh]) D nS hn .none (fun g tk acc c as a1 a2 a3 a4 a5 => ⟨rfl, fin g tk acc c as (fun b o b2 b3 b4 b5 e => ?_) a2 a3 a4.prs a5⟩) _ 0 _ _ _ _ [] rfl (Nat.zero_le _) (st2.upS up2 nS) (fun b o b1 _ _ _ _ e => up2 b o b1 (up b o b1 e)) hS₄ rfl rfl ⟨(fun a ha => nomatch ha), (fun j a hj => by simp at hj)⟩⟩
  exact a1 b o (Nat.ne_of_lt (Heap.lt_size e)) b2 b3 b4 b5 e
end
/-! ### the layer's rule -/
theorem kv_zip : ∀ (ks : List Str) {ys : List V} {vs : List Value}, Vals ys vs → KV ((ks.zip ys).map fun t => ((Sum.inr t.1 : Key), t.2)) ((ks.zip vs).map fun t => ((Sum.inr t.1 : Key), t.2))
  | [], _, _, _ => .nil
  | _ :: _, _, _, .nil => .nil
  | _ :: ks, _, _, .cons r rs => .cons ⟨rfl, r⟩ (kv_zip ks rs)
def tDcz (K : PySem.W.Frag) (ta : TA) : TE := fun σ H Q => ta σ H fun zs H1 => ∃ (a b : Addr) (ks : List Str) (ys : List V), zs = [.ref a, .ref b] ∧ SqT K H1 a (ks.map V.str) ∧ SqT K H1 b ys ∧ ∀ p, H1 p = none → Q (.ref p) (upd H1 p (.dK (mergeK [] ((ks.zip ys).map fun t => (Sum.inr t.1, t.2)))))
theorem peDcz {X : Cx} {e e2 : Expr} {ta : TA} {p1 p2 p3 q1 q2 pos : Pos} (hc : X.calm = true) (g1 : Gl X "dict") (n1 : X.mg "dict" = none) (g2 : Gl X "list") (n2 : X.mg "list" = none) (g3 : Gl X "zip") (n3 : X.mg "zip" = none) (ha : PA X [e, e2] ta)
    (hs : starEach [e, e2] X.env = (false, eval e X.env) :: starEach [e2] X.env) (hpl : ∀ pos, (backTo pos (starEach [e2] X.env)).any (·.1) = false) :
    PE X (.Call (.Name "dict" p1) [.Call (.Name "list" p2) [.Call (.Name "zip" p3) [e, e2] [] q2] [] q1] [] pos) (tDcz X.K ta) := by
  refine ⟨fun pins s σ H Q I h => ?_⟩
  refine Call_ (ld_blt I g1 n1 PyProof.Rows.boot_dict ?_)
  refine PyProof.Rows.callWith_type1 (PyProof.Rows.args_cons ?_ rfl) rfl rfl
  refine Call_ (ld_blt I g2 n2 PyProof.Rows.boot_list ?_)
  refine PyProof.Rows.callWith_type1 (PyProof.Rows.args_cons ?_ rfl) rfl rfl
  refine Call_ (ld_blt I g3 n3 PyProof.Rows.boot_zip (PyProof.Rows.callWith_type1 (thn (ha.run q2 pins s σ H _ I h) fun us s1 ⟨zs, H1, I1, r1, q1⟩ => ?_) hs (hpl _)))
  obtain ⟨a, b, ks, ys, rfl, ha1, hb1, q1⟩ := q1
  cases r1 with
  | cons ra rr =>
    cases rr with
    | cons rb rr =>
      cases rr
      cases ra
      cases rb
      obtain ⟨us, rv1, pl1, z1⟩ := I1.tuple ha1
      obtain ⟨vs, rv2, pl2, z2⟩ := I1.tuple hb1
      obtain ⟨o1, ho1, _⟩ := id pl1
      obtain ⟨o2, ho2, _⟩ := id pl2
      have la := Heap.lt_size ho1
      have lb := Heap.lt_size ho2
      have hh := I1.ok.hd hc
      refine RZ.call_zipT (show s1.heap.IsTuple a us.toArray from pl1) (show s1.heap.IsTuple b vs.toArray from pl2) fun g hz hTI hTO j1 j2 hsz hk => PyProof.Rows.args_nil ?_
      have D := PySem.W.ktu_apart s1.heap.objs.size a b la lb
      have st : ∀ S, g.objs.size ≤ S → ZSt g (s1.heap.objs.size + 4) (s1.heap.objs.size + 2) (s1.heap.objs.size + 3) s1.heap.objs.size (s1.heap.objs.size + 1) a b S us.toArray vs.toArray 0 := fun S hS =>
        ⟨hTI, j1, j2, (show s1.heap.IsTuple a us.toArray from pl1).at fun o e => hk _ o e, (show s1.heap.IsTuple b vs.toArray from pl2).at fun o e => hk _ o e, ⟨_, hTO⟩, .inl ⟨hz, _, _, hTO⟩⟩
      have l1 : us.length = ks.length := by rw [← rv1.length, List.length_map]
      have hmin : min us.toArray.size vs.toArray.size ≤ sizeLine := by
        rw [List.length_map] at z1
        simp only [List.size_toArray]; omega
      refine zList (s := { s1 with heap := g }) hh D hz st (fun c hc' => ?_) hmin fun g2 tk acc c as hk2 hl has hpr hacc => PyProof.Rows.args_nil ?_
      · have hg : g.objs.size = s1.heap.objs.size + 5 := hsz
        show c < g.objs.size
        simp only [List.mem_cons, List.not_mem_nil, or_false] at hc'
        rcases hc' with e | e | e | e | e | e | e <;> rw [e, hg] <;> first | exact Nat.add_lt_add_left (by decide) _ | exact Nat.lt_add_of_pos_right (by decide) | exact Nat.lt_of_lt_of_le la (Nat.le_add_right _ _) | exact Nat.lt_of_lt_of_le lb (Nat.le_add_right _ _)
      · dsimp only at hl hk2 ⊢
        have keep : ∀ b' o, s1.heap.get? b' = some o → g2.get? b' = some o := fun b' o e => by
          have lt := Heap.lt_size e
          exact hk2 b' o (Nat.ne_of_lt (Nat.lt_of_lt_of_le lt (Nat.le_add_right _ _))) (Nat.ne_of_lt (Nat.lt_of_lt_of_le lt (Nat.le_add_right _ _))) (Nat.ne_of_lt lt) (Nat.ne_of_lt (Nat.lt_of_lt_of_le lt (Nat.le_add_right _ _))) (hk b' o e)
        have hsz2 : acc.size = as.length := by rw [← Array.length_toList, hacc, List.length_map]
        refine call_dict_pairs (s := { s1 with heap := g2, toks := tk }) (prs := (ks.zip vs).map fun t => (Sum.inr t.1, t.2)) hh hl rfl rfl rfl ?_ ?_ (fun j q e => ?_) fun g3 tk3 hd3 hk3 => ?_
        · rw [hsz2, has, List.length_map, List.length_zip]
          simp only [List.size_toArray, l1]
        · rw [List.length_map, List.length_zip, ← l1]
          simpa using hmin
        · rw [List.getElem?_map, Option.map_eq_some_iff] at e
          obtain ⟨⟨k, y⟩, e1, rfl⟩ := e
          rw [List.getElem?_zip_eq_some] at e1
          have hj : j < as.length := by
            have h1 := (List.getElem?_eq_some_iff.mp e1.1).1
            have h2 := (List.getElem?_eq_some_iff.mp e1.2).1
            rw [has]; simp only [List.size_toArray, l1]; omega
          obtain ⟨x, y', e2, e3, e4⟩ := hpr j as[j] (List.getElem?_eq_getElem hj)
          have e5 : y' = y := by
            have h1 : vs[j]? = some y' := by simpa using e3
            rw [e1.2] at h1; exact (Option.some.inj h1).symm
          subst e5
          obtain ⟨u, hu, ru⟩ := rv1.get (i := j) (x := .str k) (by rw [List.getElem?_map, e1.1]; rfl)
          have e6 : x = u := by
            have h1 : us[j]? = some x := by simpa using e2
            rw [hu] at h1; exact (Option.some.inj h1).symm
          subst e6
          refine ⟨as[j], x, ?_, ⟨_, e4, rfl, _, rfl⟩, kV_is (P := X.prog) (w := X.w) (k := Sum.inr k) ru⟩
          have : acc.toList[j]? = some (.ref as[j]) := by rw [hacc, List.getElem?_map, List.getElem?_eq_getElem hj]; rfl
          simpa using this
        · dsimp only at hd3 hk3 ⊢
          have hle : s1.heap.objs.size ≤ g2.objs.size := by
            have h1 : g.objs.size < g2.objs.size := Heap.lt_size hl
            omega
          have hm : (g2.objs.size == sysModules) = false := beq_eq_false_iff_ne.mpr (Nat.ne_of_gt (Nat.lt_of_lt_of_le I1.big hle))
          have rel := kv_zip ks rv2
          have hlen : (mergeK [] ((ks.zip ys).map fun t => ((Sum.inr t.1 : Key), t.2))).length ≤ sizeLine := by
            refine Nat.le_trans (length_mergeK _ []) ?_
            rw [List.length_nil, Nat.zero_add, List.length_map, List.length_zip]
            rw [List.length_map] at z1
            omega
          exact ⟨.ref g2.objs.size, upd H1 g2.objs.size (.dK (mergeK [] ((ks.zip ys).map fun t => (Sum.inr t.1, t.2)))), I1.laid (t' := tk3) (fun b' o e => hk3 b' o (keep b' o e)) hle
            (show ObjOk X.prog X.w _ _ _ (.dK _) from ⟨hlen, hm, merged [] ((ks.zip vs).map fun t => (Sum.inr t.1, t.2)), KV.merge rel .nil, hd3⟩), rfl, q1 _ (I1.hok.fresh hle)⟩
end Tw
set_option Elab.async false
set_option linter.all false
set_option maxRecDepth 100000
set_option maxHeartbeats 4000000
/-! C3e: sets of texts: len(set(xs)), sorted(set(xs)). -/
namespace Tw
open PySem L2 PySem.Spec PyProof.Rows
open Sem (wp)
abbrev KT (P : Program) (w : World) : PySem.KeyKind P w Str := PySem.strKind P w
def txK (e : Int × Value) : Str := match e.2 with
  | .str x _ => x
  | _ => Str.empty
def TxE (P : Program) (w : World) (e : Int × Value) : Prop := ∃ x tk, e.2 = Value.str x tk ∧ e.1 = (KT P w).hash x
/-- the set of texts at a: its members ks, in the order of its table -/
def TxS (P : Program) (w : World) (h : Heap) (a : Addr) (ks : List Str) : Prop :=
  ∃ o es ep t, h.get? a = some o ∧ o.ExactSet ∧ o.data = .set es ep t ∧ (∀ e ∈ es.toList, TxE P w e) ∧ es.toList.map txK = ks ∧ ks.Nodup ∧
    es.size < scanBound ∧ t.fits es.size = true ∧ Ris t.place.toList ∧ (w.params.followText "set-order" = true ∨ t.led = true)
section
variable {P : Program} {w : World} {A : Around} {E : Value → Shared → Prop} {s : Shared} {a : Addr}
theorem TxE.elem {l : List (Int × Value)} (g : ∀ e ∈ l, TxE P w e) : ElemsOf (KT P w) l := fun e he => by
  obtain ⟨x, tk, h1, h2⟩ := g e he
  exact ⟨⟨x, by rw [h1]; exact strKind_is P w x tk, h2⟩, by rw [h1]; rfl⟩
theorem TxE.is {e : Int × Value} (g : TxE P w e) (x : Str) : (KT P w).is x e.2 = decide (x = txK e) := by
  obtain ⟨y, tk, h1, h2⟩ := g
  have : txK e = y := by unfold txK; rw [h1]
  rw [this]
  exact KeyKind.is_eq_decide (knd := KT P w) (by rw [h1]; exact strKind_is P w y tk) x
theorem TxS.keep {h g : Heap} {ks : List Str} (z : TxS P w h a ks) (k : ∀ o, h.get? a = some o → g.get? a = some o) : TxS P w g a ks := by
  obtain ⟨o, es, ep, t, ho, r⟩ := z
  exact ⟨o, es, ep, t, k o ho, r⟩
theorem txTail {g : Bool → Sem Unit} (hg : ∀ (b : Bool) (s₁ : Shared) (Q' : Unit → Shared → Prop), Q' () s₁ → wpAny (model P w) A (g b) Q' E s₁)
    {o : Obj} {es : Array (Int × Value)} {ep : Nat} {t : SetTable} (ho : s.heap.get? a = some o) (hex : o.ExactSet) (hd : o.data = .set es ep t)
    {fs : Array (Int × Value)} {t2 : SetTable} (k1 : ∀ e ∈ fs.toList, TxE P w e) (k2 : (fs.toList.map txK).Nodup) (k3 : fs.size < scanBound) (k4 : t2.fits fs.size = true) (k5 : Ris t2.place.toList)
    (k6 : w.params.followText "set-order" = true ∨ t2.led = true) {dm : Bool} {R : Option Bool → Shared → Prop}
    (out : ∀ h' ks, Heap.SameBut a s.heap h' → ks.Perm (fs.toList.map txK) → TxS P w h' a ks → R (some true) { s with heap := h' }) :
    wpAny (model P w) A (do
        storeSet a fs t2
        if (!dm && t2.tooFull) = true then do
            g (relayAll t2 fs (SetTable.grown fs.size)).2.2
            storeSet a (relayAll t2 fs (SetTable.grown fs.size)).1 (relayAll t2 fs (SetTable.grown fs.size)).2.1
            pure (some true)
          else pure (some true)) R E s := by
  refine wpAny_bind (wpAny_storeSet_of ho hd ?_ (fits_of_scanBound k3))
  have w1 := store_at (es' := fs) (t' := t2) ho hd
  have b1 := Heap.SameBut.update s.heap a (Obj.putSet fs t2)
  split
  case isFalse => exact wpAny_pure (out _ _ b1 (.refl _) ⟨_, fs, _, t2, w1, hex, rfl, k1, rfl, k2, k3, k4, k5, k6⟩)
  have pm := relayAll_perm t2 fs (SetTable.grown fs.size)
  have q4 := relayAll_fits t2 fs (SetTable.grown fs.size)
  have q5 := relayAll_ris t2 fs (SetTable.grown fs.size)
  have q6 := relayAll_led t2 fs (SetTable.grown fs.size)
  generalize relayAll t2 fs (SetTable.grown fs.size) = Z at pm q4 q5 q6 ⊢
  obtain ⟨gs, t3, gave⟩ := Z
  dsimp only at pm q4 q5 q6 ⊢
  have z1 : gs.size = fs.size := by rw [← Array.length_toList, pm.length_eq, Array.length_toList]
  refine wpAny_bind (hg _ _ _ (wpAny_bind (wpAny_storeSet_of w1 rfl ?_ (fits_of_scanBound (z1 ▸ k3)))))
  have w2 := store_at (es' := gs) (t' := t3) w1 rfl
  refine wpAny_pure (out _ _ (b1.trans (Heap.SameBut.update _ a _)) (pm.map txK) ⟨_, gs, _, t3, w2, hex, rfl, fun e he => k1 e (pm.mem_iff.mp he), rfl, (pm.map txK).nodup_iff.mpr k2, z1 ▸ k3, q4, q5, k6.imp id fun z => ?_⟩)
  rw [q6]; exact z
theorem txAdd {x : Str} {tk : Tok} {ks : List Str} {Q : Bool → Shared → Prop} (Z : TxS P w s.heap a ks) (room : ks.length + 1 < scanBound)
    (go : ∀ b h' ks', Heap.SameBut a s.heap h' → ks'.Perm (if x ∈ ks then ks else x :: ks) → TxS P w h' a ks' → Q b { s with heap := h' }) :
    wpAny (model P w) A (setAddHashed a (.str x tk) ((KT P w).hash x)) Q E s := by
  obtain ⟨o, es, ep, t, ho, hex, hd, g, hk, nd, hb, hf, hr, hl⟩ := Z
  have key : (KT P w).is x (.str x tk) = true := strKind_is P w x tk
  have sc : (Value.str x tk).scannable = true := rfl
  have el : ElemsOf (KT P w) es.toList := TxE.elem g
  unfold setAddHashed setAddHashedIn
  refine wpAny_holding (wpAny_bind (wpAny_setState_of ho hd hf ?_))
  dsimp only
  rw [byScan_of sc hb el]
  simp only [↓reduceIte]
  unfold setAddByScan
  refine wpAny_bind (wpAny_bind (wpAny_rule (wpAny_bind (wpAny_setScan_of key ho hd hf el ?_))))
  cases fi : List.findIdx? (fun e => (KT P w).is x e.2) es.toList with
  | some j =>
    dsimp only
    obtain ⟨hj, pj, _⟩ := List.findIdx?_eq_some_iff_getElem.mp fi
    have hm : es.toList[j] ∈ es.toList := List.getElem_mem hj
    have hx : x ∈ ks := by
      rw [← hk]
      have pj' : (KT P w).is x es.toList[j].2 = true := pj
      rw [TxE.is (g _ hm) x, decide_eq_true_eq] at pj'
      exact List.mem_map.mpr ⟨_, hm, pj'.symm⟩
    have q := go false s.heap ks (Heap.SameBut.refl a s.heap) (by rw [if_pos hx]) ⟨o, es, ep, t, ho, hex, hd, g, hk, nd, hb, hf, hr, hl⟩
    exact wpAny_pure (wpAny_pure q)
  | none =>
    dsimp only
    have hx : x ∉ ks := fun z => by
      rw [← hk] at z
      obtain ⟨e, he, q⟩ := List.mem_map.mp z
      have c := List.findIdx?_eq_none_iff.mp fi e he
      rw [TxE.is (g e he) x, q] at c
      simp at c
    rw [if_neg hx] at go
    have gw : ∀ (b : Bool) {s₁ : Shared} {Q' : Unit → Shared → Prop}, Q' () s₁ → wpAny (model P w) A (match b with | true => rule "set.scan.the-table-gave-way" | false => pure ()) Q' E s₁ := fun b s₁ Q' q => by
      cases b
      · exact wpAny_pure q
      · exact wpAny_rule q
    have pm := layNew_perm t es ((KT P w).hash x) (.str x tk)
    have q4 := layNew_fits t es ((KT P w).hash x) (.str x tk)
    have q5 := layNew_ris t es ((KT P w).hash x) (.str x tk) hr
    have q6 := layNew_led t es ((KT P w).hash x) (.str x tk)
    generalize layNew t es ((KT P w).hash x) (.str x tk) = Z at pm q4 q5 q6 ⊢
    obtain ⟨fs, t1, dm, gave⟩ := Z
    dsimp only at pm q4 q5 q6 ⊢
    rw [Array.toList_push] at pm
    have pc : fs.toList.Perm (((KT P w).hash x, Value.str x tk) :: es.toList) := pm.trans (List.perm_append_singleton _ _)
    have pk : (fs.toList.map txK).Perm (x :: ks) := by rw [← hk]; exact pc.map txK
    have z1 : fs.size = ks.length + 1 := by rw [← Array.length_toList, pc.length_eq, List.length_cons, ← hk, List.length_map]
    have j1 : ∀ e ∈ fs.toList, TxE P w e := fun e he => by
      rcases List.mem_cons.mp (pc.mem_iff.mp he) with z | z
      · rw [z]; exact ⟨x, tk, rfl, rfl⟩
      · exact g e z
    have j2 : (fs.toList.map txK).Nodup := pk.nodup_iff.mpr (List.nodup_cons.mpr ⟨hx, nd⟩)
    have j3 : fs.size < scanBound := by rw [z1]; exact room
    have j6 : w.params.followText "set-order" = true ∨ t1.led = true := hl.imp id fun z => by rw [q6]; exact z
    refine wpAny_bind (gw _ ?_)
    split
    · refine wpAny_bind ?_
      rw [hashByValue_scannable 8 sc]
      refine wpAny_pure ?_
      refine txTail ?_ ho hex hd j1 j2 j3 ?_ ?_ ?_ fun h' ks' b p z => ?_
      · intro b s₁ Q' q
        cases b
        · exact wpAny_pure q
        · exact wpAny_rule q
      · split
        · exact q4
        · exact SetTable.fits_plain_off q4
      · split <;> exact q5
      · split <;> exact j6
      · dsimp only; exact wpAny_pure (go true h' ks' b (p.trans pk) z)
    · refine wpAny_bind (wpAny_pure ?_)
      simp only [↓reduceIte]
      refine txTail ?_ ho hex hd j1 j2 j3 q4 q5 j6 fun h' ks' b p z => ?_
      · intro b s₁ Q' q
        cases b
        · exact wpAny_pure q
        · exact wpAny_rule q
      · dsimp only; exact wpAny_pure (go true h' ks' b (p.trans pk) z)
end
theorem dedS_mem : ∀ (l : List Str) (x : Str), x ∈ dedS l ↔ x ∈ l
  | [], x => Iff.rfl
  | y :: r, x => by
    unfold dedS
    split
    · rename_i h
      rw [dedS_mem r x, List.mem_cons]
      exact ⟨.inr, fun z => z.elim (fun e => e ▸ h) id⟩
    · rw [List.mem_cons, List.mem_cons, dedS_mem r x]
theorem dedS_nodup : ∀ l : List Str, (dedS l).Nodup
  | [] => List.nodup_nil
  | y :: r => by
    unfold dedS
    split
    · exact dedS_nodup r
    · rename_i h
      exact List.nodup_cons.mpr ⟨fun z => h ((dedS_mem r y).mp z), dedS_nodup r⟩
theorem nodupLe {α : Type} [DecidableEq α] : ∀ (l D : List α), l.Nodup → (∀ x ∈ l, x ∈ D) → l.length ≤ D.length
  | [], D, _, _ => Nat.zero_le _
  | x :: l, D, h, hs => by
    obtain ⟨h1, h2⟩ := List.nodup_cons.mp h
    have hx := hs x (by simp)
    have := nodupLe l (D.erase x) h2 fun y hy => (List.mem_erase_of_ne (fun e : y = x => h1 (by rw [← e]; exact hy))).mpr (hs y (by simp [hy]))
    rw [List.length_erase_of_mem hx] at this
    have hp : 0 < D.length := List.length_pos_of_mem hx
    rw [List.length_cons]; omega
theorem perm_of_mem {α : Type} [DecidableEq α] : ∀ (l D : List α), l.Nodup → D.Nodup → (∀ x, x ∈ l ↔ x ∈ D) → l.Perm D := fun l D h1 h2 h => (List.perm_ext_iff_of_nodup h1 h2).mpr h
section
variable {P : Program} {w : World} {A : Around} {R : Result → Shared → Prop} {I : Addr} {fp wr : List Addr} {G : Array GenState → Array GenState → Prop} {n : Nat} {Pv : Nat → Value → Prop} {St : Nat → Shared → Prop}
theorem txLoop (W : WalksS P w A.in1 I fp wr G n Pv St) (S : Addr) (nS : S ∉ fp) (xs : List Str) (hl : xs.length = n) (hB : (dedS xs).length + 1 < scanBound) (hv : ∀ i v, Pv i v → ∃ t, v = .str (xs.getD i Str.empty) t) :
    ∀ (k i : Nat) (s : Shared) (ks : List Str), n - i = k → i ≤ n → St i s → TxS P w s.heap S ks → (∀ y, y ∈ ks ↔ y ∈ xs.take i) →
      (∀ s' ks', Moved (S :: wr) G s s' → TxS P w s'.heap S ks' → (∀ y, y ∈ ks' ↔ y ∈ xs) → R (.ok (.ret .none)) s') →
      codeAny (model P w) A (.builtin "set.update.loop" ⟨[.ref S, .ref I], []⟩) R s := by
  have nW : S ∉ wr := fun z => nS (W.sub _ z)
  have up : ∀ b ∈ wr, b ∈ S :: wr := fun b hb => List.mem_cons_of_mem _ hb
  intro k
  induction k with
  | zero =>
    intro i s ks hk hi st z hm fin
    obtain rfl : i = n := by omega
    refine codeAny_builtin PyProof.Rows.F.entry_set_update_loop ?_
    rw [Around.under_plainId PyProof.Rows.F.plain_set_update_loop _]
    show wpAny _ A.in1 (pyNext (.ref I) >>= _) _ _ s
    refine wpAny_bind (W.done s _ _ st fun s' mv => ?_)
    show wpAny _ A.in1 (ret Value.none) _ _ s'
    refine wpAny_pure (fin s' ks (mv.mono up) (z.keep fun o e => mv.heap S _ nW e) fun y => ?_)
    rw [hm y, List.take_of_length_le (by omega)]
  | succ k ih =>
    intro i s ks hk hi st z hm fin
    have hlt : i < n := by omega
    refine codeAny_builtin PyProof.Rows.F.entry_set_update_loop ?_
    rw [Around.under_plainId PyProof.Rows.F.plain_set_update_loop _]
    show wpAny _ A.in1 (pyNext (.ref I) >>= _) _ _ s
    refine wpAny_bind (W.item i s _ _ hlt st fun v s' hp st' mv => ?_)
    obtain ⟨tk, rfl⟩ := hv i v hp
    have z' := z.keep fun o e => mv.heap S _ nW e
    have hx : xs[i]? = some (xs.getD i Str.empty) := by
      rw [List.getD_eq_getElem?_getD, List.getElem?_eq_getElem (by omega)]; rfl
    generalize hX : xs.getD i Str.empty = x at hx ⊢
    have hxm : x ∈ xs := List.mem_of_getElem? hx
    have htk : xs.take (i + 1) = xs.take i ++ [x] := by rw [List.take_succ, hx]; rfl
    have nd : ks.Nodup := by obtain ⟨_, _, _, _, _, _, _, _, _, q, _⟩ := z; exact q
    have room : ks.length + 1 < scanBound := by
      have := nodupLe ks (dedS xs) nd fun y hy => (dedS_mem xs y).mpr (List.mem_of_mem_take ((hm y).mp hy))
      omega
    show wpAny _ A.in1 (holding [Value.str x tk] (setAdd S (.str x tk)) >>= _) _ _ s'
    refine wpAny_bind (wpAny_holding ?_)
    unfold setAdd
    refine wpAny_holding (wpAny_bind ((KT P w).pyHash (k := x) (strKind_is _ _ _ _) ?_))
    refine txAdd (s := { s' with toks := s'.toks + 1 }) z' room fun b h' ks' sb pm z2 => ?_
    refine wpAny_pure ⟨plainId_quiet PyProof.Rows.F.plain_set_update_loop _, ih (i + 1) _ ks' (by omega) hlt (W.frame _ s' _ _ st' (Nat.le_succ _) fun b hb o e => ?_) z2 (fun y => ?_) fun s'' ks'' mv2 z3 m3 => ?_⟩
    · rw [sb.2 b (fun q : b = S => nS (q ▸ hb))]; exact e
    · rw [pm.mem_iff, htk, List.mem_append, List.mem_singleton]
      split
      · rename_i c
        rw [hm y]
        exact ⟨.inl, fun q => q.elim id fun e => (hm y).mp (e ▸ c)⟩
      · rw [List.mem_cons, hm y]; exact Or.comm
    · refine fin s'' ks'' (Moved.trans W.gtrans ((mv.mono up).then_heap (Nat.le_succ _) fun b o hb e => ?_) mv2) z3 m3
      rw [sb.2 b (fun q : b = S => hb (q ▸ List.mem_cons_self))]; exact e
end
abbrev newSetO (w : World) : Obj := { cls := .type "set", dict := none, data := .set #[] 0 (.fresh 0 0 (!w.params.followText "set-order")) }
theorem txFresh {P : Program} {w : World} {h : Heap} {a : Addr} (ho : h.get? a = some (newSetO w)) : TxS P w h a [] := by
  refine ⟨_, #[], 0, _, ho, ⟨rfl, rfl, rfl⟩, rfl, by intro e he; simp at he, rfl, List.nodup_nil, by decide, rfl, List.Pairwise.nil, ?_⟩
  show _ ∨ (!w.params.followText "set-order") = true
  cases w.params.followText "set-order"
  · exact .inr rfl
  · exact .inl rfl
section
variable {P : Program} {w : World} {A : Around} {E : Value → Shared → Prop} {s : Shared}
/-- set(v), from where its loop begins -/
theorem setCall {l : Addr} {items : Array Value} {R1 : Shared → Prop} {Q : Value → Shared → Prop} (hh : A.handled = none) (hs : s.heap.IsList l items ∨ s.heap.IsTuple l items)
    (loop : ∀ (I : Addr) (g : Heap), g.get? s.heap.objs.size = some (newSetO w) → (∀ b o, s.heap.get? b = some o → g.get? b = some o) → s.heap.objs.size < I →
      (∃ St : Nat → Shared → Prop, WalksS P w A.in1.in1.in1 I [I, l] [I] (fun x y => y = x) items.size (fun i v => items[i]? = some v) St ∧ St 0 { s with heap := g }) →
      codeAny (model P w) A.in1.in1 (.builtin "set.update.loop" ⟨[.ref s.heap.objs.size, .ref I], []⟩) (wants (fun r s' => r = .none ∧ R1 s') E) { s with heap := g })
    (fin : ∀ s', R1 s' → Q (.ref s.heap.objs.size) s') : wpAny (model P w) A (call (.type "set") [.ref l]) Q E s := by
  obtain ⟨c, tl, m0⟩ := PySem.F.called_set.mro
  have m1 := PySem.F.called_set.made
  have m2 := PySem.F.called_set.sub
  refine wpAny_call (codeAny_of_tree ?_)
  show wpAny _ _ (callAny (.type "set") _) _ _ _
  refine wpAny_pure ⟨Code.quiet_builtin _ (by decide +kernel), codeAny_builtin PySem.F.entry_type_call ?_⟩
  rw [Around.under_plain (weight_type_call_type "set" [.ref l] []) rfl]
  have m3 := PySem.F.called_set.notType
  have m4 := PySem.F.called_set.canCreate
  have m5 := PySem.F.typeCall_set_1 (.ref l)
  repeat (any_goals (first | assumption | wp_step))
  refine codeAny_mono (code_set_led1 (.ref l) (E := E) (Q₁ := fun ob s₁ => ob = .ref s.heap.objs.size ∧ s₁ = { s with heap := s.heap.push (newSetO w) }) ⟨rfl, rfl⟩) fun r s₁ hr => ?_
  cases r with
  | error e => exact hr
  | ok fl =>
    cases fl with
    | next => exact hr.elim
    | brk => exact hr.elim
    | cont => exact hr.elim
    | ret ob =>
      obtain ⟨rfl, rfl⟩ := hr
      have gS : (s.heap.push (newSetO w)).get? s.heap.objs.size = some (newSetO w) := Heap.get?_push_size _ rfl
      have gT : Shared.TypeIs { s with heap := s.heap.push (newSetO w) } (.ref s.heap.objs.size) "set" := ⟨_, gS, rfl⟩
      have m6 := PySem.F.called_set.init.lookup
      have m7 := PySem.F.called_set.init.bind (.ref s.heap.objs.size)
      have hh3 : A.in1.in1.in1.handled = none := by simp [hh]
      have hsz : (s.heap.push (newSetO w)).objs.size = s.heap.objs.size + 1 := Heap.size_push ..
      repeat (any_goals (first | assumption | wp_step))
      refine codeAny_mono (codeAny_call_builtin (R := wants (fun r s₂ => r = .none ∧ R1 s₂) E) PySem.F.called_set.init.plain PySem.F.entry_set_init (check_set_init_1 gT ?_)) fun r₂ s₂ hr₂ => ?_
      · rcases hs with hs | hs
        · obtain ⟨⟨oc, od, odt, osl⟩, ho, h1, nl, h2⟩ := hs
          simp only at h1 h2
          subst h1; subst h2
          have ho' : (s.heap.push (newSetO w)).get? l = some { cls := .type "list", dict := od, data := .seq items nl, slots := osl } := Heap.get?_push_of_some _ ho
          have u1 := PySem.F.sub_list_set
          have u2 := PySem.F.sub_list_frozenset
          have u3 : (Value.type "list" == Value.type "dict") = false := by decide
          have hl1 : (s.heap.push (newSetO w)).IsList l items := ⟨_, ho', rfl, nl, rfl⟩
          unfold Builtin.«set.__init__» noKeywords Builtin.Frozenset.updateFrom
          generalize hPI : pyIter = PI
          wp_walk
          subst hPI
          refine wpAny_pyIter_list hl1 (wpAny_bind (wpAny_runValue ?_))
          have lt : l < s.heap.objs.size := Heap.lt_size ho
          have ne : l ≠ (s.heap.push (newSetO w)).objs.size := by rw [hsz]; exact Nat.ne_of_lt (Nat.lt_succ_of_lt lt)
          refine codeAny_mono (loop _ _ (Heap.get?_push_of_some _ gS) (fun b o e => Heap.get?_push_of_some _ (Heap.get?_push_of_some _ e)) (by rw [hsz]; exact Nat.lt_succ_self _)
            ⟨_, (Walks.list hh3 _ l ne items).toS, ⟨_, Heap.get?_push_size _ rfl, rfl, rfl⟩, hl1.push _⟩) fun r s' hq => ?_
          cases r with
          | error e => exact hq
          | ok f =>
            cases f with
            | ret v =>
              obtain ⟨rfl, hq⟩ := hq
              refine wpAny_pure ?_
              show wpAny _ _ (ret Value.none) _ _ _
              exact wpAny_pure ⟨rfl, hq⟩
            | next => exact hq.elim
            | brk => exact hq.elim
            | cont => exact hq.elim
        · obtain ⟨⟨oc, od, odt, osl⟩, ho, h1, nl, h2⟩ := hs
          simp only at h1 h2
          subst h1; subst h2
          have ho' : (s.heap.push (newSetO w)).get? l = some { cls := .type "tuple", dict := od, data := .seq items nl, slots := osl } := Heap.get?_push_of_some _ ho
          have u1 := PySem.F.sub_tuple_set
          have u2 := PySem.F.sub_tuple_frozenset
          have u3 : (Value.type "tuple" == Value.type "dict") = false := by decide
          have hl1 : (s.heap.push (newSetO w)).IsTuple l items := ⟨_, ho', rfl, nl, rfl⟩
          unfold Builtin.«set.__init__» noKeywords Builtin.Frozenset.updateFrom
          generalize hPI : pyIter = PI
          wp_walk
          subst hPI
          refine wpAny_pyIter_tuple hl1 (wpAny_bind (wpAny_runValue ?_))
          have lt : l < s.heap.objs.size := Heap.lt_size ho
          have ne : l ≠ (s.heap.push (newSetO w)).objs.size := by rw [hsz]; exact Nat.ne_of_lt (Nat.lt_succ_of_lt lt)
          refine codeAny_mono (loop _ _ (Heap.get?_push_of_some _ gS) (fun b o e => Heap.get?_push_of_some _ (Heap.get?_push_of_some _ e)) (by rw [hsz]; exact Nat.lt_succ_self _)
            ⟨_, (Walks.tuple hh3 _ l ne items).toS, ⟨_, Heap.get?_push_size _ rfl, rfl, rfl⟩, hl1.push _⟩) fun r s' hq => ?_
          cases r with
          | error e => exact hq
          | ok f =>
            cases f with
            | ret v =>
              obtain ⟨rfl, hq⟩ := hq
              refine wpAny_pure ?_
              show wpAny _ _ (ret Value.none) _ _ _
              exact wpAny_pure ⟨rfl, hq⟩
            | next => exact hq.elim
            | brk => exact hq.elim
            | cont => exact hq.elim
      · cases r₂ with
        | error e => exact hr₂
        | ok fl₂ =>
          cases fl₂ with
          | next => exact hr₂.elim
          | brk => exact hr₂.elim
          | cont => exact hr₂.elim
          | ret r =>
            obtain ⟨rfl, hq⟩ := hr₂
            repeat (any_goals (first | assumption | wp_step))
            exact fin _ hq
end
section
variable {X : Cx}
/-- set(xs), xs a list or tuple of texts, in the machine's own words -/
theorem callTxSet {A : Around} {E : Value → Shared → Prop} {P : Program} {w : World} {s : Shared} {l : Addr} {its : List Value} {xs : List Str} {Q : Value → Shared → Prop} (hh : A.handled = none) (hs : s.heap.IsList l its.toArray ∨ s.heap.IsTuple l its.toArray) (hv : Vals (xs.map V.str) its) (hB : (dedS xs).length + 1 < scanBound)
    (fin : ∀ (h' : Heap) (tk : Nat) (ks : List Str), TxS P w h' s.heap.objs.size ks → (∀ y, y ∈ ks ↔ y ∈ xs) → (∀ b o, s.heap.get? b = some o → h'.get? b = some o) → Q (.ref s.heap.objs.size) { s with heap := h', toks := tk }) :
    wpAny (model P w) A (call (.type "set") [.ref l]) Q E s := by
  have hl : xs.length = its.toArray.size := by rw [List.size_toArray, ← hv.length, List.length_map]
  have hlt : l < s.heap.objs.size := by rcases hs with ⟨_, e, _⟩ | ⟨_, e, _⟩ <;> exact Heap.lt_size e
  refine setCall (R1 := fun s' => ∃ (h' : Heap) (tk : Nat) (ks : List Str), s' = { s with heap := h', toks := tk } ∧ TxS P w h' s.heap.objs.size ks ∧ (∀ y, y ∈ ks ↔ y ∈ xs) ∧ ∀ b o, s.heap.get? b = some o → h'.get? b = some o) hh hs (fun I g gS keep lI ⟨T0, W, st⟩ => ?_) (fun s' ⟨h', tk, ks, e, z, m, k⟩ => by rw [e]; exact fin h' tk ks z m k)
  refine txLoop W s.heap.objs.size (by simp only [List.mem_cons, List.not_mem_nil, or_false, not_or]; exact ⟨Nat.ne_of_lt lI, Nat.ne_of_gt hlt⟩) xs hl hB (fun i v e => ?_) (its.toArray.size - 0) 0 _ [] (by omega) (Nat.zero_le _) st (txFresh gS) (by simp) fun s' ks' mv z m => ?_
  · have e' : its[i]? = some v := by simpa using e
    obtain ⟨x, ex, tk, rv⟩ : ∃ x, xs[i]? = some x ∧ ∃ tk, v = .str x tk := by
      have hi : i < xs.length := by
        have := (List.getElem?_eq_some_iff.mp e').1
        rw [hl, List.size_toArray]; exact this
      obtain ⟨u, hu, ru⟩ := hv.get (i := i) (x := .str xs[i]) (by rw [List.getElem?_map, List.getElem?_eq_getElem hi]; rfl)
      rw [e'] at hu
      cases hu
      exact ⟨_, List.getElem?_eq_getElem hi, ru⟩
    exact ⟨tk, by rw [List.getD_eq_getElem?_getD, ex]; exact rv⟩
  · obtain ⟨h', g', d', tk', os'⟩ := s'
    have e1 : g' = s.gens := mv.gens
    have e2 : d' = s.drawn := mv.drawn
    have e3 : os' = s.os := mv.os
    subst e1; subst e2; subst e3
    refine ⟨rfl, h', tk', ks', rfl, z, m, fun b o e => ?_⟩
    have hb := Heap.lt_size e
    exact mv.heap b o (by simp only [List.mem_cons, List.not_mem_nil, or_false, not_or]; exact ⟨Nat.ne_of_lt hb, Nat.ne_of_lt (Nat.lt_trans hb lI)⟩) (keep b o e)
def tLenTx (K : PySem.W.Frag) (ta : TE) : TE := fun σ H Q => ta σ H fun x H1 => ∃ (l : Addr) (xs : List Str), x = .ref l ∧ (SqL K H1 l (xs.map V.str) ∨ SqT K H1 l (xs.map V.str)) ∧ (dedS xs).length + 1 < scanBound ∧ Q (.int ((dedS xs).length : Nat)) H1
theorem peLenTx {a : Expr} {ta : TE} {p p2 q pos : Pos} (hc : X.calm = true) (hg : Gl X "len") (hm : X.mg "len" = none) (hg2 : Gl X "set") (hm2 : X.mg "set" = none) (ha : PE X a ta) (na : starEach [a] X.env = (false, eval a X.env) :: starEach [] X.env) :
    PE X (.Call (.Name "len" p) [.Call (.Name "set" p2) [a] [] q] [] pos) (tLenTx X.K ta) := by
  refine ⟨fun pins s σ H Q I h => ?_⟩
  refine Call_ (ld_blt I hg hm boot_len (PyProof.Rows.callWith_builtin1 (PyProof.Rows.args_cons ?_ rfl) rfl rfl))
  refine Call_ (ld_blt I hg2 hm2 boot_set (PyProof.Rows.callWith_type1 (PyProof.Rows.args_cons (thn (ha.run pins s σ H _ I h) fun v s1 ⟨x, H1, I1, r1, q1⟩ => PyProof.Rows.args_nil ?_) na) na rfl))
  obtain ⟨l, xs, rfl, hq, hB, q1⟩ := q1
  cases r1
  obtain ⟨its, hv, hs⟩ : ∃ its, Vals (xs.map V.str) its ∧ (s1.heap.IsList l its.toArray ∨ s1.heap.IsTuple l its.toArray) := by
    rcases hq with hq | hq
    · obtain ⟨its, r, pl, _⟩ := I1.list hq; exact ⟨its, r, .inl pl.isList⟩
    · obtain ⟨its, r, pl, _⟩ := I1.tuple hq; exact ⟨its, r, .inr pl⟩
  refine callTxSet (I1.ok.hd hc) hs hv hB fun h' tk ks z m k => PyProof.Rows.args_nil ?_
  obtain ⟨o, es, ep, t, ho, hex, hd, g, hk, nd, hb, hf, _, _⟩ := z
  have hlen : es.size = (dedS xs).length := by
    rw [← Array.length_toList, ← List.length_map (f := txK), hk]
    exact (perm_of_mem _ _ nd (dedS_nodup xs) fun y => by rw [m y, dedS_mem]).length_eq
  have I2 : Inv X pins σ H1 { s1 with heap := h', toks := tk } := I1.kept k
  exact call_len_set ho hex hd hf (by rw [hlen]; unfold scanBound at hB; omega) ⟨.int ((dedS xs).length : Nat), H1, I2.tok _, ⟨_, by rw [hlen]⟩, q1⟩
theorem strs_list : ∀ (l : List (Int × Value)) {P : Program} {w : World}, (∀ e ∈ l, TxE P w e) → StrsAre (l.map (·.2)) (l.map txK)
  | [], _, _, _ => .nil
  | e :: l, P, w, h => by
    obtain ⟨x, tk, h1, _⟩ := h e (by simp)
    have : txK e = x := by unfold txK; rw [h1]
    rw [List.map_cons, List.map_cons, h1, this]
    exact .cons x tk (strs_list l fun y hy => h y (by simp [hy]))
theorem strs_perm {us vs : List Value} (h : vs.Perm us) : ∀ {xs : List Str}, StrsAre us xs → ∃ ys, StrsAre vs ys ∧ ys.Perm xs := by
  induction h with
  | nil => intro xs h; cases h; exact ⟨[], .nil, .refl _⟩
  | cons x _ ih =>
    intro xs h
    cases h with
    | cons y k r =>
      obtain ⟨ys, h1, h2⟩ := ih r
      exact ⟨y :: ys, .cons y k h1, h2.cons y⟩
  | swap x y l =>
    intro xs h
    cases h with
    | cons a k r =>
      cases r with
      | cons b k' r => exact ⟨_, .cons b k' (.cons a k r), .swap _ _ _⟩
  | trans _ _ ih1 ih2 =>
    intro xs h
    obtain ⟨ys, h1, h2⟩ := ih2 h
    obtain ⟨zs, h3, h4⟩ := ih1 h1
    exact ⟨zs, h3, h4.trans h2⟩
end
end Tw
set_option Elab.async false
set_option linter.all false
set_option maxRecDepth 100000
set_option maxHeartbeats 4000000
/-! C3i: sets of pairs of texts; sorted(set(xs)), xs texts or pairs of texts. -/
namespace Tw
open PySem PySem.Spec PyProof.Rows L2
section
variable {P : Program} {w : World} {A : Around} {E : Value → Shared → Prop} {s : Shared}
/-- at b there is a tuple of these two texts -/
def IsPr (h : Heap) (p : Str × Str) (b : Addr) : Prop := ∃ (o : Obj) (n : Nat) (t u : Tok), h.get? b = some o ∧ o.cls = .type "tuple" ∧ o.data = .seq #[.str p.1 t, .str p.2 u] n
abbrev prKey (p : Str × Str) : List Key := [Sum.inr p.1, Sum.inr p.2]
theorem prH_ex (P : Program) (w : World) : ∃ f : Str × Str → Int, ∀ p, tupleKeyHash (mixKind P w) (prKey p) = f p := ⟨_, fun _ => rfl⟩
/-- a pair's hash, which nothing unfolds -/
noncomputable def prH (P : Program) (w : World) : Str × Str → Int := Classical.choose (prH_ex P w)
theorem prH_is (p : Str × Str) : tupleKeyHash (mixKind P w) (prKey p) = prH P w p := Classical.choose_spec (prH_ex P w) p
theorem IsPr.key {h : Heap} {p : Str × Str} {b : Addr} (x : IsPr h p b) : IsTupleKey (mixKind P w) h (prKey p) b := by
  obtain ⟨o, n, t, u, ho, hc, hd⟩ := x
  exact ⟨o, _, n, ho, hc, hd, .cons (mixKind_str P w p.1 t) (.cons (mixKind_str P w p.2 u) .nil)⟩
theorem prKey_inj {p q : Str × Str} : prKey p = prKey q ↔ p = q := by
  constructor
  · intro e
    injection e with e1 e2
    injection e2 with e2 _
    injection e1 with e1
    injection e2 with e2
    exact Prod.ext e1 e2
  · intro e; rw [e]
theorem IsPr.type {p : Str × Str} {b : Addr} (x : IsPr s.heap p b) : s.TypeIs (.ref b) "tuple" := let ⟨o, _, _, _, ho, hc, _⟩ := x; ⟨o, ho, hc⟩
theorem IsPr.keep {h g : Heap} {p : Str × Str} {b : Addr} (x : IsPr h p b) (k : ∀ o, h.get? b = some o → g.get? b = some o) : IsPr g p b := let ⟨o, n, t, u, ho, q⟩ := x; ⟨o, n, t, u, k o ho, q⟩
/-- no class statement made it -/
theorem pr_cls {p : Str × Str} {b : Addr} {Q : Bool → Shared → Prop} (x : IsPr s.heap p b) (h : Q false s) : wpAny (model P w) A (ofAClassStatement 8 (.ref b)) Q E s := by
  obtain ⟨o, n, t, u, ho, hc, hd⟩ := id x
  unfold ofAClassStatement
  refine wpAny_bind (wpAny_typeOf x.type ?_)
  show wpAny _ _ ((pure true : Sem Bool) >>= _) _ _ _
  refine wpAny_bind (wpAny_pure ?_)
  show wpAny _ _ (seqItems? (.ref b) >>= _) _ _ _
  refine wpAny_bind (wpAny_seqItems ho hd ?_)
  dsimp only
  refine wpAny_bind ?_
  rw [← Array.forIn_toList]
  have f : ∀ (v : Str) (t : Tok), ofAClassStatement 7 (.str v t) = pure false := fun _ _ => rfl
  simp only [List.forIn_cons, List.forIn_nil, f, pure_bind, Bool.false_eq_true, if_false]
  exact wpAny_pure (wpAny_pure h)
/-- its hash is not told by its value -/
theorem pr_hbv {p : Str × Str} {b : Addr} {Q : Bool → Shared → Prop} (x : IsPr s.heap p b) (h : Q false s) : wpAny (model P w) A (hashByValue 8 (.ref b)) Q E s := by
  obtain ⟨o, n, t, u, ho, hc, hd⟩ := id x
  unfold hashByValue
  refine wpAny_bind (wpAny_specialOf x.type F.slot_tuple_hash.lookup ?_)
  show wpAny _ _ (seqItems? (.ref b) >>= _) _ _ _
  refine wpAny_bind (wpAny_seqItems ho hd ?_)
  refine wpAny_bind ?_
  show wpAny _ _ (forIn (#[Value.str p.1 t, Value.str p.2 u] : Array Value) _ _) _ _ _
  rw [← Array.forIn_toList]
  have f : ∀ (v : Str) (t : Tok), hashByValue 7 (.str v t) = pure false := fun _ _ => rfl
  simp only [List.forIn_cons, List.forIn_nil, f, pure_bind, Bool.not_false, if_true]
  exact wpAny_pure (wpAny_pure h)
/-- a search among pairs shows nothing -/
theorem pr_unseen {p : Str × Str} {b : Addr} {Q : Bool → Shared → Prop} (x : IsPr s.heap p b) (h : Q false s) : ∀ {ys : List Value}, (∀ y ∈ ys, ∃ q c, y = Value.ref c ∧ IsPr s.heap q c) → wpAny (model P w) A (searchCouldBeSeen (.ref b) ys) Q E s := by
  intro ys hy
  unfold searchCouldBeSeen
  refine wpAny_bind ?_
  induction ys with
  | nil => exact wpAny_pure (wpAny_pure h)
  | cons y ys ih =>
    obtain ⟨q, c, rfl, hc⟩ := hy y (by simp)
    have ih' := ih fun z hz => hy z (List.mem_cons_of_mem _ hz)
    rw [List.forIn_cons]
    refine wpAny_bind ?_
    dsimp only
    split
    · exact wpAny_pure ih'
    · refine wpAny_bind (wpAny_eqIsQuiet_tuple (IsPr.key (P := P) (w := w) x) ?_)
      simp only [Bool.not_true, Bool.false_eq_true, if_false]
      refine wpAny_bind (wpAny_eqIsQuiet_tuple (IsPr.key (P := P) (w := w) hc) ?_)
      simp only [Bool.not_true, Bool.false_eq_true, if_false]
      refine wpAny_bind (pr_cls x ?_)
      simp only [Bool.false_eq_true, if_false]
      refine wpAny_bind (pr_cls hc ?_)
      simp only [Bool.false_eq_true, if_false]
      exact wpAny_pure ih'
/-! ### the set -/
noncomputable abbrev prRow (P : Program) (w : World) (p : Addr × Str × Str) : Int × Value := (prH P w p.2, .ref p.1)
/-- at a there is a set of these pairs -/
structure PrS (P : Program) (w : World) (h : Heap) (a : Addr) (L : List (Addr × Str × Str)) (es : Array (Int × Value)) (ep : Nat) (t : SetTable) : Prop where
  ob : ∃ o, h.get? a = some o ∧ o.ExactSet ∧ o.data = .set es ep t
  rows : es.toList = L.map (prRow P w)
  tab : TabOk t (L.map fun p => prH P w p.2)
  nd : (L.map (·.2)).Nodup
  prs : ∀ p ∈ L, IsPr h p.2 p.1
  led : w.params.followText "set-order" = true ∨ t.led = true
  room : L.length * 5 < t.mask * 3
  few : L.length < 64
variable {a : Addr} {L : List (Addr × Str × Str)} {es : Array (Int × Value)} {ep : Nat} {t : SetTable}
theorem PrS.size (R : PrS P w s.heap a L es ep t) : es.size = L.length := by rw [← Array.length_toList, R.rows, List.length_map]
theorem PrS.place (R : PrS P w s.heap a L es ep t) : t.place.size = L.length := by rw [R.tab.sz, List.length_map]
theorem PrS.fits (R : PrS P w s.heap a L es ep t) : t.fits es.size = true := by
  have h1 := R.place
  have h2 := R.size
  have h3 := R.room
  simp only [SetTable.fits, SetTable.fill, R.tab.dm, Bool.and_eq_true, beq_iff_eq, decide_eq_true_eq]
  refine ⟨by omega, ?_⟩
  show t.place.size + 0 ≤ t.mask
  omega
theorem PrS.at (R : PrS P w s.heap a L es ep t) {i : Nat} {p : Addr × Str × Str} (h : L[i]? = some p) : es[i]? = some (prRow P w p) := by
  have e : es.toList[i]? = some (prRow P w p) := by rw [R.rows, List.getElem?_map, h]; rfl
  simpa using e
theorem PrS.keep {h' : Heap} (R : PrS P w s.heap a L es ep t) (ka : ∀ o, s.heap.get? a = some o → h'.get? a = some o) (kp : ∀ p ∈ L, IsPr h' p.2 p.1) : PrS P w h' a L es ep t := by
  obtain ⟨⟨o, ho, r⟩, r1, r2, r3, r4, r5, r6, r7⟩ := R
  exact ⟨⟨o, ka o ho, r⟩, r1, r2, r3, kp, r5, r6, r7⟩
abbrev pst (t : SetTable) (h : Int) (c : Nat) : SetTable.Probe := nth t.mask (runAt t.mask (SetTable.bits h % (t.mask + 1)) (SetTable.bits h)) c
theorem nth_dm (m : Nat) : ∀ (n : Nat) (p : SetTable.Probe), p.dummy = none → (nth m p n).dummy = none
  | 0, _, h => h
  | n + 1, p, h => nth_dm m n (adv m p) (by unfold adv; split <;> exact h)
/-- behind a candidate -/
theorem prRest (R : PrS P w s.heap a L es ep t) {x : Addr} {k : Str × Str} (hx : IsPr s.heap k x) (hu : A.units < cLine) {f i j : Nat} {p : Addr × Str × Str} {nx : SetTable.Probe} {H : Int} (hp : L[i]? = some p) (hj : t.place.toList[i]? = some j) {Q : SetFound → Shared → Prop}
    (yes : p.2 = k → Q (.there none) s) (no : p.2 ≠ k → wpAny (model P w) A (setSearchFrom a (.ref x) H true f (some nx)) Q E s) : wpAny (model P w) A (searchRest a (.ref x) H true f es t j i nx) Q E s := by
  obtain ⟨o, ho, hex, hd⟩ := R.ob
  unfold searchRest
  rw [R.at hp]
  dsimp only
  refine wpAny_bind (wpAny_holding (wpAny_eqBool_tuple hu (IsPr.key (P := P) (w := w) (R.prs p (List.mem_of_getElem? hp))) (IsPr.key (P := P) (w := w) hx) ?_))
  refine wpAny_bind (wpAny_setState_of ho hd R.fits ?_)
  dsimp only
  by_cases c : p.2 = k
  · have e : decide (prKey p.2 = prKey k) = true := decide_eq_true (prKey_inj.mpr c)
    rw [e]
    exact wpAny_pure (yes c)
  · have e : decide (prKey p.2 = prKey k) = false := decide_eq_false fun z => c (prKey_inj.mp z)
    rw [e]
    have sl : t.slot j = .live i := slot_live R.tab.ris hj
    simp only [Bool.and_false, Bool.false_eq_true, if_false]
    rw [sameMem]
    simp only [if_true, sl, R.at hp]
    refine wpAny_bind (wpAny_isSame_ref_self (wpAny_bind (wpAny_pure ?_)))
    simp only [if_true]
    exact no c
theorem prSearch (R : PrS P w s.heap a L es ep t) {x : Addr} {k : Str × Str} (hx : IsPr s.heap k x) (hu : A.units < cLine) {H : Int} (hH : prH P w k = H) {K : Nat} (hKf : K < 10 * SetTable.turns t.mask) (hK : way t.mask H K ∉ t.place.toList)
    (hKb : ∀ c, c < K → way t.mask H c ∈ t.place.toList) {Q : SetFound → Shared → Prop} (yes : k ∈ L.map (·.2) → Q (.there none) s) (no : k ∉ L.map (·.2) → Q (.free (way t.mask H K) false) s) :
    ∀ (f c : Nat) (stand : Option SetTable.Probe), stand.getD (t.probeStart H) = pst t H c → c ≤ K → K - c < f →
      (∀ (i : Nat) (p : Addr × Str × Str), L[i]? = some p → p.2 = k → ∃ c', c ≤ c' ∧ c' < K ∧ t.place.toList[i]? = some (way t.mask H c')) → wpAny (model P w) A (setSearchFrom a (.ref x) H true f stand) Q E s := by
  intro f
  induction f with
  | zero => intro c stand _ _ hf; exact absurd hf (Nat.not_lt_zero _)
  | succ f ih =>
    intro c stand hst hc hf hold
    obtain ⟨o, ho, hex, hd⟩ := R.ob
    have hgw : t.gaveWay = false := by unfold SetTable.gaveWay; rw [mask_odd R.tab.mok]; decide
    have hsh : ∀ (i : Nat) (p : Addr × Str × Str), L[i]? = some p → (es[i]?.map (·.1)).getD 0 = prH P w p.2 := fun i p hp => by rw [R.at hp, Option.map_some, Option.getD_some]
    have stp : ∀ n, nth t.mask (pst t H c) n = pst t H (c + n) := fun n => (nth_add t.mask c _ n).symm
    have stj : ∀ n, (nth t.mask (pst t H c) n).j = way t.mask H (c + n) := fun n => by rw [stp n]
    have toK : way t.mask H (c + (K - c)) = way t.mask H K := by rw [Nat.add_sub_cancel' hc]
    have spec := go_spec t R.tab.ris R.tab.dm (fun i => (es[i]?.map (·.1)).getD 0) H (10 * SetTable.turns t.mask) (K - c) (pst t H c) (nth_dm _ _ _ rfl) (by omega)
      (fun n hn => by rw [stj]; exact hKb _ (by omega)) (by rw [stj, toK]; exact hK)
    have prb : ∀ m, SetTable.probe.go t (fun i => (es[i]?.map (·.1)).getD 0) H (10 * SetTable.turns t.mask) (pst t H c) = m → t.probe (fun i => (es[i]?.map (·.1)).getD 0) H (stand.getD (t.probeStart H)) = m := fun m e => by rw [hst]; exact e
    rw [setSearchFrom_succ]
    refine wpAny_bind (wpAny_setState_of ho hd R.fits ?_)
    dsimp only
    rw [hgw]
    simp only [Bool.false_eq_true, if_false]
    rcases spec with ⟨q, i, hq, hi, hh, hno, hpr⟩ | ⟨hno, hpr⟩
    · rw [prb _ hpr]
      rw [stj] at hi
      rw [stj, stp]
      dsimp only
      have hil : i < L.length := by
        have := (List.getElem?_eq_some_iff.mp hi).1
        rw [Array.length_toList, R.place] at this
        exact this
      obtain ⟨p, hp⟩ : ∃ p, L[i]? = some p := ⟨_, List.getElem?_eq_getElem hil⟩
      have rest : wpAny (model P w) A (searchRest a (.ref x) H true f es t (way t.mask H (c + q)) i (pst t H (c + (q + 1)))) Q E s := by
        refine prRest R hx hu hp hi (fun e => yes (List.mem_map.mpr ⟨p, List.mem_of_getElem? hp, e⟩)) fun ne => ?_
        refine ih (c + (q + 1)) (some (pst t H (c + (q + 1)))) rfl (by omega) (by omega) fun i0 p0 h0 e0 => ?_
        obtain ⟨c', a1, a2, a3⟩ := hold i0 p0 h0 e0
        refine ⟨c', ?_, a2, a3⟩
        rcases Nat.lt_trichotomy c' (c + q) with z | z | z
        · refine absurd ((hsh i0 p0 h0).trans (by rw [e0]; exact hH)) (hno (c' - c) i0 (by omega) ?_)
          rw [stj, Nat.add_sub_cancel' a1]
          exact a3
        · subst z
          have z1 := (slot_live R.tab.ris hi).symm.trans (slot_live R.tab.ris a3)
          injection z1 with z1
          subst z1
          rw [hp] at h0
          cases h0
          exact absurd e0 ne
        · omega
      cases hl : t.led with
      | true => simp only [Bool.not_true, Bool.false_eq_true, if_false]; exact rest
      | false =>
        simp only [Bool.not_false, if_true]
        refine wpAny_bind (pr_unseen hx ?_ fun y hy => ?_)
        · simp only [Bool.false_eq_true, if_false]; exact rest
        · obtain ⟨e, he, rfl⟩ := List.mem_map.mp hy
          have he1 : e ∈ es := by
            have : e ∈ es ∧ e.1 = H := by simpa using he
            exact this.1
          have he2 : e ∈ es.toList := by simpa using he1
          rw [R.rows] at he2
          obtain ⟨p2, hp2, rfl⟩ := List.mem_map.mp he2
          exact ⟨p2.2, p2.1, rfl, R.prs p2 hp2⟩
    · rw [prb _ hpr]
      rw [stj, toK]
      dsimp only
      refine wpAny_pure (no fun hm => ?_)
      obtain ⟨p0, h0, e0⟩ := List.mem_map.mp hm
      obtain ⟨i0, hi0⟩ := List.mem_iff_getElem?.mp h0
      obtain ⟨c', a1, a2, a3⟩ := hold i0 p0 hi0 e0
      refine hno (c' - c) i0 (by omega) ?_ ((hsh i0 p0 hi0).trans (by rw [e0]; exact hH))
      rw [stj, Nat.add_sub_cancel' a1]
      exact a3
/-- a pair looked for -/
theorem prFind (R : PrS P w s.heap a L es ep t) {x : Addr} {k : Str × Str} (hx : IsPr s.heap k x) (hu : A.units < cLine) {Q : SetFound → Shared → Prop} (yes : k ∈ L.map (·.2) → Q (.there none) s)
    (no : ∀ K, k ∉ L.map (·.2) → way t.mask (prH P w k) K ∉ t.place.toList → (∀ c, c < K → way t.mask (prH P w k) c ∈ t.place.toList) → Q (.free (way t.mask (prH P w k) K) false) s) :
    wpAny (model P w) A (setSearch a (.ref x) (prH P w k) true) Q E s := by
  obtain ⟨K, k1, k2, k3⟩ := R.tab.first (by rw [List.length_map]; have := R.room; omega) (prH P w k)
  have big : 10 * SetTable.turns t.mask ≤ 1420 := by
    unfold SetTable.turns
    rcases R.tab.mok with e | e | e <;> omega
  have at_ : ∀ (i : Nat) (p : Addr × Str × Str), L[i]? = some p → p.2 = k → ∃ c', 0 ≤ c' ∧ c' < K ∧ t.place.toList[i]? = some (way t.mask (prH P w k) c') := fun i p hp e => by
    have hi : (L.map fun p => prH P w p.2)[i]? = some (prH P w k) := by rw [List.getElem?_map, hp, ← e]; rfl
    have hil : i < t.place.toList.length := by
      rw [Array.length_toList, R.place]
      exact (List.getElem?_eq_some_iff.mp hp).1
    have hj := List.getElem?_eq_getElem hil
    obtain ⟨c, hc, e⟩ := R.tab.before k2 hi hj
    exact ⟨c, Nat.zero_le _, hc, by rw [hj, e]⟩
  have start : (none : Option SetTable.Probe).getD (t.probeStart (prH P w k)) = pst t (prH P w k) 0 := rfl
  revert k1 k2 k3 at_ start no
  generalize hH : prH P w k = H
  intro no k1 k2 k3 at_ start
  unfold setSearch
  exact prSearch R hx hu hH k1 k2 k3 yes (fun z => no K z k2 k3) 100000 0 none start (Nat.zero_le _) (by omega) at_
end
/-! ### laid anew -/
theorem range_get {α : Type} : ∀ L : List α, (List.range L.length).filterMap (fun i => L[i]?) = L
  | [] => rfl
  | x :: L => by
    rw [List.length_cons, List.range_succ_eq_map, List.filterMap_cons, List.filterMap_map]
    have e : ((fun i => (x :: L)[i]?) ∘ Nat.succ) = fun i => L[i]? := by funext i; simp
    rw [e, range_get L]
    rfl
theorem rows_in {α : Type} (row : α → Int × Value) (L : List α) (es : Array (Int × Value)) (ord : Array Nat) (hr : es.toList = L.map row) (hp : ord.toList.Perm (List.range L.length)) :
    ∃ L2 : List α, (ord.filterMap (es[·]?)).toList = L2.map row ∧ L2.Perm L ∧ (L2.map fun p => (row p).1) = ord.toList.map fun i => (es.map (·.1)).getD i 0 := by
  have e0 : ∀ i, es[i]? = (L[i]?).map row := fun i => by rw [← Array.getElem?_toList, hr, List.getElem?_map]
  refine ⟨ord.toList.filterMap fun i => L[i]?, ?_, ?_, ?_⟩
  · rw [Array.toList_filterMap, List.map_filterMap]
    congr 1
    funext i
    exact e0 i
  · have := hp.filterMap fun i => L[i]?
    rwa [range_get] at this
  · have key : ∀ l : List Nat, (∀ i ∈ l, i < L.length) → ((l.filterMap fun i => L[i]?).map fun p => (row p).1) = l.map fun i => (es.map (·.1)).getD i 0 := by
      intro l
      induction l with
      | nil => intro _; rfl
      | cons i l ih =>
        intro h
        have hi := h i (by simp)
        have e1 : (es.map (·.1)).getD i 0 = (row L[i]).1 := by
          have e2 : (es.map (·.1))[i]? = some (row L[i]).1 := by rw [Array.getElem?_map, e0, List.getElem?_eq_getElem hi]; rfl
          rw [Array.getD_eq_getD_getElem?, e2]; rfl
        rw [List.filterMap_cons, List.getElem?_eq_getElem hi]
        dsimp only
        rw [List.map_cons, List.map_cons, ih fun j hj => h j (List.mem_cons_of_mem _ hj), e1]
    exact key _ fun i hi => List.mem_range.mp (hp.mem_iff.mp hi)
theorem tab_dull {t : SetTable} {hs : List Int} (T : TabOk t hs) : TabOk { t with plain := false } hs := ⟨T.ris, T.dm, T.sz, T.mok, T.bd, T.reach⟩
section
variable {P : Program} {w : World} {A : Around} {E : Value → Shared → Prop} {s : Shared} {a : Addr} {L : List (Addr × Str × Str)} {es : Array (Int × Value)} {ep : Nat} {t : SetTable}
theorem IsPr.other {h h' : Heap} {k : Str × Str} {b : Addr} {o : Obj} (hb : IsPr h k b) (ho : h.get? a = some o) (hd : o.data = .set es ep t) (hs : Heap.SameBut a h h') : IsPr h' k b := by
  obtain ⟨o', n, u, v, ho', hc, hd'⟩ := hb
  refine ⟨o', n, u, v, (hs.2 b fun e => ?_).trans ho', hc, hd'⟩
  rw [e, ho] at ho'
  cases ho'
  rw [hd] at hd'
  cases hd'
theorem prRelay {o : Obj} (ho : s.heap.get? a = some o) (hex : o.ExactSet) (hd : o.data = .set es ep t) (hrows : es.toList = L.map (prRow P w)) (hsz : t.place.size = es.size) (hdm : t.dummies = #[]) (hfl : es.size ≤ t.mask) (nd : (L.map (·.2)).Nodup)
    (prs : ∀ p ∈ L, IsPr s.heap p.2 p.1) (ld : w.params.followText "set-order" = true ∨ t.led = true) (few : L.length < 64) {wanted M : Nat} (hw : SetTable.sizeAbove wanted - 1 = M) (hM : MaskOk M) (hw2 : SetTable.sizeAbove wanted ≤ 128) (hn : L.length * 5 < M * 3)
    {Q : Unit → Shared → Prop} (fin : ∀ h' L' es' ep' t', Heap.SameBut a s.heap h' → PrS P w h' a L' es' ep' t' → L'.Perm L → Q () { s with heap := h' }) : wpAny (model P w) A (setRelay a wanted) Q E s := by
  have hsl : es.size = L.length := by rw [← Array.length_toList, hrows, List.length_map]
  have hfits : t.fits es.size = true := by
    simp only [SetTable.fits, SetTable.fill, hdm, Bool.and_eq_true, beq_iff_eq, decide_eq_true_eq]
    refine ⟨by omega, ?_⟩
    show t.place.size + 0 ≤ t.mask
    omega
  obtain ⟨t', ord, e, hp, T, em, el, _, _⟩ := relaid_ok t (hs := es.map (·.1)) (wanted := wanted) hw hM (by rw [Array.size_map, hsl]; omega)
  rw [Array.size_map, hsl] at hp
  obtain ⟨L2, r1, r2, r3⟩ := rows_in (prRow P w) L es ord hrows hp
  rw [← r3] at T
  have hs2 : (ord.filterMap (es[·]?)).size = es.size := by rw [← Array.length_toList, r1, List.length_map, r2.length_eq, hsl]
  rw [setRelay_eq]
  refine wpAny_bind (wpAny_setState_of ho hd hfits ?_)
  dsimp only
  refine wp_if_neg (by rw [sizeLine_eq]; omega) ?_
  rw [e]
  dsimp only
  refine wpAny_bind ?_
  refine wp_if_neg (by rw [hs2]; simp) ?_
  refine wpAny_pure ?_
  dsimp only
  refine wpAny_storeSet_of ho hd ?_ (by rw [hs2, hsl, sizeLine_eq]; omega)
  have sb : Heap.SameBut a s.heap (s.heap.update a (Obj.putSet (ord.filterMap (es[·]?)) t')) := Heap.SameBut.update ..
  refine fin _ L2 (ord.filterMap (es[·]?)) (ep + 1) t' sb ⟨⟨_, store_at ho hd, ⟨hex.1, hex.2.1, hex.2.2⟩, rfl⟩, r1, T, (r2.map (·.2)).nodup_iff.mpr nd, fun p hpm => (prs p (r2.mem_iff.mp hpm)).other ho hd sb, by rw [el]; exact ld, ?_, by rw [r2.length_eq]; exact few⟩ r2
  rw [r2.length_eq, em]
  exact hn
/-- one put in: the table behind it -/
theorem prPut (R : PrS P w s.heap a L es ep t) {x : Addr} {k : Str × Str} (hx : IsPr s.heap k x) (hm : k ∉ L.map (·.2)) {K : Nat} (hK : way t.mask (prH P w k) K ∉ t.place.toList) (hb : ∀ c, c < K → way t.mask (prH P w k) c ∈ t.place.toList) :
    ∃ (L1 : List (Addr × Str × Str)), (SetTable.insertAt es (t.put (way t.mask (prH P w k) K)).2 (prH P w k, Value.ref x)).toList = L1.map (prRow P w) ∧ L1.Perm ((x, k) :: L) ∧ TabOk (t.put (way t.mask (prH P w k) K)).1 (L1.map fun p => prH P w p.2) ∧
      (t.put (way t.mask (prH P w k) K)).1.mask = t.mask ∧ (t.put (way t.mask (prH P w k) K)).1.led = t.led ∧ (t.put (way t.mask (prH P w k) K)).1.fill = L.length + 1 := by
  obtain ⟨q1, q2, q3, q4, q5, _, _, _, q9⟩ := R.tab.put hK hb
  rw [List.length_map] at q9
  refine ⟨L.take (SetTable.below t.place (way t.mask (prH P w k) K)) ++ (x, k) :: L.drop (SetTable.below t.place (way t.mask (prH P w k) K)), ?_, put_perm L _ _, ?_, q4, q5, q9⟩
  · rw [q1, SetTable.toList_insertAt, R.rows, List.map_append, List.map_cons, List.map_take, List.map_drop]
  · rw [List.map_append, List.map_cons, List.map_take, List.map_drop]
    exact q3
theorem prAdd (R : PrS P w s.heap a L es ep t) {x : Addr} {k : Str × Str} (hx : IsPr s.heap k x) (hu : A.units < cLine) (few : L.length + 1 < 64) {Q : Bool → Shared → Prop}
    (fin : ∀ b h' L' es' ep' t', Heap.SameBut a s.heap h' → PrS P w h' a L' es' ep' t' → (k ∈ L.map (·.2) → L' = L) → (k ∉ L.map (·.2) → L'.Perm ((x, k) :: L)) → Q b { s with heap := h' }) :
    wpAny (model P w) A (setAddHashed a (.ref x) (prH P w k)) Q E s := by
  obtain ⟨o, ho, hex, hd⟩ := R.ob
  have hsl := R.size
  have hroom := R.room
  unfold setAddHashed
  refine wpAny_holding ?_
  rw [show (100000 : Nat) = 99999 + 1 from rfl, setAddHashedIn_succ]
  refine wpAny_bind (wpAny_setState_of ho hd R.fits ?_)
  dsimp only
  refine wp_if_neg (by simp [byScan, Value.scannable]) ?_
  refine wpAny_bind (prFind R hx hu (fun hm => ?_) fun K hm hK hb => ?_)
  · dsimp only
    exact wpAny_pure (fin false s.heap L es ep t (Heap.SameBut.refl a s.heap) R (fun _ => rfl) fun z => absurd hm z)
  · dsimp only
    refine wpAny_bind (wpAny_setState_of ho hd R.fits ?_)
    dsimp only
    obtain ⟨L1, q1, pm, q3, q4, q5, q9⟩ := prPut R hx hm hK hb
    generalize t.put (way t.mask (prH P w k) K) = pt at q1 q3 q4 q5 q9 ⊢
    obtain ⟨t0, p⟩ := pt
    dsimp only at q1 q3 q4 q5 q9 ⊢
    have hlen : L1.length = L.length + 1 := pm.length_eq
    have hes : (SetTable.insertAt es p (prH P w k, Value.ref x)).size = L.length + 1 := by rw [← Array.length_toList, q1, List.length_map, hlen]
    have nd1 : (L1.map (·.2)).Nodup := by
      refine (pm.map (·.2)).nodup_iff.mpr ?_
      rw [List.map_cons]
      exact List.nodup_cons.mpr ⟨hm, R.nd⟩
    generalize SetTable.insertAt es p (prH P w k, Value.ref x) = es1 at q1 hes ⊢
    -- what follows, for the table with or without its mark
    have more : ∀ t1 : SetTable, TabOk t1 (L1.map fun p => prH P w p.2) → t1.mask = t.mask → t1.led = t.led → t1.fill = L.length + 1 →
        wpAny (model P w) A (do
          storeSet a es1 t1
          if (!false && t1.tooFull) = true then do
            setRelay a (SetTable.grown (es.size + 1))
            pure true
          else pure true) Q E s := fun t1 T1 m1 l1 f1 => by
      refine wpAny_bind (wpAny_storeSet_of ho hd ?_ (by rw [hes, sizeLine_eq]; omega))
      have sb : Heap.SameBut a s.heap (s.heap.update a (Obj.putSet es1 t1)) := Heap.SameBut.update ..
      have ho1 := store_at (es' := es1) (t' := t1) ho hd
      generalize s.heap.update a (Obj.putSet es1 t1) = h1 at sb ho1 ⊢
      have pr1 : ∀ p ∈ L1, IsPr h1 p.2 p.1 := fun p hp => by
        rcases List.mem_cons.mp (pm.mem_iff.mp hp) with e | hp
        · rw [e]; exact hx.other ho hd sb
        · exact (R.prs p hp).other ho hd sb
      have ld1 : w.params.followText "set-order" = true ∨ t1.led = true := by rw [l1]; exact R.led
      cases hf : t1.tooFull with
      | true =>
        simp only [Bool.not_false, Bool.and_self, if_true]
        refine wpAny_bind ?_
        have hfull : (L.length + 1) * 5 ≥ t1.mask * 3 := by
          unfold SetTable.tooFull at hf
          rw [decide_eq_true_eq, f1] at hf
          exact hf
        rw [hsl]
        have hsz1 : t1.place.size = es1.size := by
          have h := T1.sz
          rw [List.length_map, hlen] at h
          rw [h, hes]
        have two : (t.mask = 7 ∧ L.length = 4) ∨ (t.mask = 31 ∧ L.length = 18) := by
          rw [m1] at hfull
          rcases R.tab.mok with e | e | e
          · left; rw [e] at hfull hroom; exact ⟨e, by omega⟩
          · right; rw [e] at hfull hroom; exact ⟨e, by omega⟩
          · exfalso; rw [e] at hfull; omega
        have lay : ∀ M, SetTable.sizeAbove (SetTable.grown (L.length + 1)) - 1 = M → MaskOk M → SetTable.sizeAbove (SetTable.grown (L.length + 1)) ≤ 128 → (L.length + 1) * 5 < M * 3 →
            wpAny (model P w) A (setRelay a (SetTable.grown (L.length + 1))) (fun _ s' => wpAny (model P w) A (pure true) Q E s') E { s with heap := h1 } := fun M z1 z2 z3 z4 => by
          refine prRelay (s := { s with heap := h1 }) ho1 ⟨hex.1, hex.2.1, hex.2.2⟩ rfl q1 hsz1 T1.dm (by rw [hes, m1]; rcases two with ⟨e, e2⟩ | ⟨e, e2⟩ <;> omega) nd1 pr1 ld1 (by rw [hlen]; exact few) z1 z2 z3 (by rw [hlen]; exact z4) fun h2 L2 es2 ep2 t2 sb2 R2 pm2 => ?_
          exact wpAny_pure (fin true h2 L2 es2 ep2 t2 (sb.trans sb2) R2 (fun z => absurd z hm) fun _ => pm2.trans pm)
        rcases two with ⟨_, e2⟩ | ⟨_, e2⟩
        · exact lay 31 (by rw [e2, size_20]) (.inr (.inl rfl)) (by rw [e2, size_20]; decide) (by omega)
        · exact lay 127 (by rw [e2, size_76]) (.inr (.inr rfl)) (by rw [e2, size_76]; decide) (by omega)
      | false =>
        simp only [Bool.and_false, Bool.false_eq_true, if_false]
        refine wpAny_pure (fin true h1 L1 es1 (ep + 1) t1 sb ⟨⟨_, ho1, ⟨hex.1, hex.2.1, hex.2.2⟩, rfl⟩, q1, T1, nd1, pr1, ld1, ?_, by rw [hlen]; exact few⟩ (fun z => absurd z hm) fun _ => pm)
        unfold SetTable.tooFull at hf
        rw [decide_eq_false_iff_not, f1] at hf
        rw [hlen]
        omega
    cases hpl : t0.plain with
    | true =>
      simp only [if_true]
      refine wpAny_bind (pr_hbv hx ?_)
      simp only [Bool.false_eq_true, if_false]
      exact more { t0 with plain := false } (tab_dull q3) q4 q5 q9
    | false =>
      simp only [Bool.false_eq_true, if_false]
      refine wpAny_bind (wpAny_pure ?_)
      simp only [if_true]
      exact more t0 q3 q4 q5 q9
end
/-! ### set(xs) -/
theorem dedP_mem : ∀ (l : List (Str × Str)) (x : Str × Str), x ∈ dedP l ↔ x ∈ l
  | [], x => Iff.rfl
  | y :: r, x => by
    unfold dedP
    split
    · rename_i h
      rw [dedP_mem r x, List.mem_cons]
      exact ⟨.inr, fun z => z.elim (fun e => e ▸ h) id⟩
    · rw [List.mem_cons, List.mem_cons, dedP_mem r x]
theorem dedP_nodup : ∀ l : List (Str × Str), (dedP l).Nodup
  | [] => List.nodup_nil
  | y :: r => by
    unfold dedP
    split
    · exact dedP_nodup r
    · rename_i h
      exact List.nodup_cons.mpr ⟨fun z => h ((dedP_mem r y).mp z), dedP_nodup r⟩
theorem perm_maps {α β : Type} {f : α → β} {us vs : List β} (h : vs.Perm us) : ∀ {l : List α}, us = l.map f → ∃ l' : List α, vs = l'.map f ∧ l'.Perm l := by
  induction h with
  | nil => intro l e; exact ⟨[], rfl, by cases l with | nil => exact .refl _ | cons => cases e⟩
  | cons x _ ih =>
    intro l e
    cases l with
    | nil => cases e
    | cons y l =>
      injection e with e1 e2
      obtain ⟨l', h1, h2⟩ := ih e2
      exact ⟨y :: l', by rw [List.map_cons, ← h1, e1], h2.cons y⟩
  | swap x y l0 =>
    intro l e
    match l, e with
    | z1 :: z2 :: l, e =>
      injection e with e1 e2
      injection e2 with e2 e3
      exact ⟨z2 :: z1 :: l, by rw [List.map_cons, List.map_cons, e1, e2, e3], .swap _ _ _⟩
  | trans _ _ ih1 ih2 =>
    intro l e
    obtain ⟨l1, h1, h2⟩ := ih2 e
    obtain ⟨l2, h3, h4⟩ := ih1 h1
    exact ⟨l2, h3, h4.trans h2⟩
section
variable {P : Program} {w : World} {A : Around} {R : Result → Shared → Prop} {I : Addr} {fp wr : List Addr} {G : Array GenState → Array GenState → Prop} {n : Nat} {Pv : Nat → Value → Prop} {St : Nat → Shared → Prop}
/-- what a set has got of the pairs up to now -/
structure GotP (ks L : List (Addr × Str × Str)) : Prop where
  sub : ∀ p ∈ L, p ∈ ks
  all : ∀ p ∈ ks, p.2 ∈ L.map (·.2)
theorem prLoop (W : WalksS P w A.in1 I fp wr G n Pv St) (S : Addr) (nS : S ∉ fp) (ks : List (Addr × Str × Str)) (hl : ks.length = n) (hB : (dedP (ks.map (·.2))).length < 63) (hv : ∀ i v, Pv i v → ∃ p, ks[i]? = some p ∧ v = .ref p.1)
    (h0 : Heap) (hk0 : ∀ p ∈ ks, IsPr h0 p.2 p.1) (hS0 : h0.get? S = none) (hw0 : ∀ b ∈ wr, h0.get? b = none) (hu : A.in1.units < cLine) :
    ∀ (k i : Nat) (s : Shared), n - i = k → i ≤ n → St i s → (∀ b o, h0.get? b = some o → s.heap.get? b = some o) → (∃ L es ep t, PrS P w s.heap S L es ep t ∧ GotP (ks.take i) L) →
      (∀ s' L es ep t, Moved (S :: wr) G s s' → PrS P w s'.heap S L es ep t → GotP ks L → (∀ b o, h0.get? b = some o → s'.heap.get? b = some o) → R (.ok (.ret .none)) s') →
      codeAny (model P w) A (.builtin "set.update.loop" ⟨[.ref S, .ref I], []⟩) R s := by
  have nW : S ∉ wr := fun z => nS (W.sub _ z)
  have up : ∀ b ∈ wr, b ∈ S :: wr := fun b hb => List.mem_cons_of_mem _ hb
  have kp : ∀ {s s' : Shared}, Moved wr G s s' → (∀ b o, h0.get? b = some o → s.heap.get? b = some o) → ∀ b o, h0.get? b = some o → s'.heap.get? b = some o := fun mv k b o e =>
    mv.heap b o (fun hb => by rw [hw0 b hb] at e; cases e) (k b o e)
  intro k
  induction k with
  | zero =>
    intro i s hk hi st kk ⟨L, es, ep, t, z, g⟩ fin
    obtain rfl : i = n := by omega
    refine codeAny_builtin PyProof.Rows.F.entry_set_update_loop ?_
    rw [Around.under_plainId PyProof.Rows.F.plain_set_update_loop _]
    show wpAny _ A.in1 (pyNext (.ref I) >>= _) _ _ s
    refine wpAny_bind (W.done s _ _ st fun s' mv => ?_)
    show wpAny _ A.in1 (ret Value.none) _ _ s'
    rw [List.take_of_length_le (by omega)] at g
    have k' := kp mv kk
    exact wpAny_pure (fin s' L es ep t (mv.mono up) (z.keep (fun o e => mv.heap S _ nW e) fun p hp => (hk0 p (g.sub p hp)).keep fun o e => k' _ o e) g k')
  | succ k ih =>
    intro i s hk hi st kk ⟨L, es, ep, t, z, g⟩ fin
    have hlt : i < n := by omega
    refine codeAny_builtin PyProof.Rows.F.entry_set_update_loop ?_
    rw [Around.under_plainId PyProof.Rows.F.plain_set_update_loop _]
    show wpAny _ A.in1 (pyNext (.ref I) >>= _) _ _ s
    refine wpAny_bind (W.item i s _ _ hlt st fun v s' hp st' mv => ?_)
    obtain ⟨p, hpi, rfl⟩ := hv i v hp
    have k' := kp mv kk
    have z' : PrS P w s'.heap S L es ep t := z.keep (fun o e => mv.heap S _ nW e) fun q hq => (hk0 q (List.mem_of_mem_take (g.sub q hq))).keep fun o e => k' _ o e
    have hx : IsPr s'.heap p.2 p.1 := (hk0 p (List.mem_of_getElem? hpi)).keep fun o e => k' _ o e
    have htk : ks.take (i + 1) = ks.take i ++ [p] := by rw [List.take_succ, hpi]; rfl
    have few : L.length + 1 < 64 := by
      have := nodupLe (L.map (·.2)) (dedP (ks.map (·.2))) z.nd fun y hy => by
        obtain ⟨q, hq, rfl⟩ := List.mem_map.mp hy
        exact (dedP_mem _ _).mpr (List.mem_map.mpr ⟨q, List.mem_of_mem_take (g.sub q hq), rfl⟩)
      rw [List.length_map] at this
      omega
    show wpAny _ A.in1 (holding [Value.ref p.1] (setAdd S (.ref p.1)) >>= _) _ _ s'
    refine wpAny_bind (wpAny_holding ?_)
    unfold setAdd
    refine wpAny_holding (wpAny_bind (wpAny_pyHash_tuple (knd := mixKind P w) hu (IsPr.key hx) ?_))
    rw [prH_is]
    refine prAdd (s := { s' with toks := s'.toks + ((prKey p.2).length + 1) }) z' hx hu few fun b h' L' es' ep' t' sb z2 c1 c2 => ?_
    have g' : GotP (ks.take (i + 1)) L' := by
      rw [htk]
      by_cases c : p.2 ∈ L.map (·.2)
      · rw [c1 c]
        refine ⟨fun q hq => List.mem_append_left _ (g.sub q hq), fun q hq => ?_⟩
        rcases List.mem_append.mp hq with q1 | q1
        · exact g.all q q1
        · rw [List.mem_singleton.mp q1]; exact c
      · have pm := c2 c
        refine ⟨fun q hq => ?_, fun q hq => ?_⟩
        · rcases List.mem_cons.mp (pm.mem_iff.mp hq) with e | q1
          · rw [e]; exact List.mem_append_right _ (List.mem_singleton.mpr rfl)
          · exact List.mem_append_left _ (g.sub q q1)
        · rw [(pm.map (·.2)).mem_iff, List.map_cons]
          rcases List.mem_append.mp hq with q1 | q1
          · exact List.mem_cons_of_mem _ (g.all q q1)
          · rw [List.mem_singleton.mp q1]; exact List.mem_cons_self
    have k2 : ∀ b o, h0.get? b = some o → h'.get? b = some o := fun b o e => (sb.2 b fun q => by rw [q, hS0] at e; cases e).trans (k' b o e)
    refine wpAny_pure ⟨plainId_quiet PyProof.Rows.F.plain_set_update_loop _, ih (i + 1) _ (by omega) hlt (W.frame _ s' _ _ st' (Nat.le_add_right _ _) fun b hb o e => ?_) k2 ⟨L', es', ep', t', z2, g'⟩ fun s'' L2 es2 ep2 t2 mv2 z3 g3 k3 => ?_⟩
    · rw [sb.2 b (fun q : b = S => nS (q ▸ hb))]; exact e
    · refine fin s'' L2 es2 ep2 t2 (Moved.trans W.gtrans ((mv.mono up).then_heap (Nat.le_add_right _ _) fun b o hb e => ?_) mv2) z3 g3 k3
      rw [sb.2 b (fun q : b = S => hb (q ▸ List.mem_cons_self))]; exact e
end
theorem prFresh {P : Program} {w : World} {h : Heap} {a : Addr} (ho : h.get? a = some (newSetO w)) : PrS P w h a [] #[] 0 (.fresh 0 0 (!w.params.followText "set-order")) where
  ob := ⟨_, ho, ⟨rfl, rfl, rfl⟩, rfl⟩
  rows := rfl
  tab := ⟨List.Pairwise.nil, rfl, rfl, .inl rfl, fun x hx => (by cases hx), fun i h j hi => (by simp at hi)⟩
  nd := List.nodup_nil
  prs := fun p hp => (by cases hp)
  led := by
    show _ ∨ (!w.params.followText "set-order") = true
    cases w.params.followText "set-order"
    · exact .inr rfl
    · exact .inl rfl
  room := by show 0 * 5 < 7 * 3; decide
  few := by show 0 < 64; decide
theorem noHeap {h : Heap} {a : Addr} (l : h.objs.size ≤ a) : h.get? a = none := by
  cases q : h.get? a with
  | none => rfl
  | some o => exact absurd (Heap.lt_size q) (Nat.not_lt.mpr l)
/-- set(xs), xs a list or tuple of pairs -/
theorem callPrSet {A : Around} {E : Value → Shared → Prop} {P : Program} {w : World} {s : Shared} {l : Addr} {ks : List (Addr × Str × Str)} {Q : Value → Shared → Prop} (hh : A.handled = none) (hs : s.heap.IsList l (ks.map fun p => Value.ref p.1).toArray ∨ s.heap.IsTuple l (ks.map fun p => Value.ref p.1).toArray)
    (hk : ∀ p ∈ ks, IsPr s.heap p.2 p.1) (hB : (dedP (ks.map (·.2))).length < 63) (hu : A.units + 3 < cLine)
    (fin : ∀ (h' : Heap) (tk : Nat) L es ep t, PrS P w h' s.heap.objs.size L es ep t → GotP ks L → (∀ b o, s.heap.get? b = some o → h'.get? b = some o) → Q (.ref s.heap.objs.size) { s with heap := h', toks := tk }) :
    wpAny (model P w) A (call (.type "set") [.ref l]) Q E s := by
  have hl : ks.length = (ks.map fun p => Value.ref p.1).toArray.size := by rw [List.size_toArray, List.length_map]
  have hlt : l < s.heap.objs.size := by rcases hs with ⟨_, e, _⟩ | ⟨_, e, _⟩ <;> exact Heap.lt_size e
  refine setCall (R1 := fun s' => ∃ (h' : Heap) (tk : Nat) (L : _) (es : _) (ep : _) (t : _), s' = { s with heap := h', toks := tk } ∧ PrS P w h' s.heap.objs.size L es ep t ∧ GotP ks L ∧ ∀ b o, s.heap.get? b = some o → h'.get? b = some o) hh hs (fun I g gS keep lI ⟨T0, W, st⟩ => ?_) (fun s' ⟨h', tk, L, es, ep, t, e, z, m, k⟩ => by rw [e]; exact fin h' tk L es ep t z m k)
  refine prLoop W s.heap.objs.size (by simp only [List.mem_cons, List.not_mem_nil, or_false, not_or]; exact ⟨Nat.ne_of_lt lI, Nat.ne_of_gt hlt⟩) ks hl hB (fun i v e => ?_) s.heap hk (noHeap (Nat.le_refl _)) (fun b hb => ?_) (by show A.units + 1 + 1 + 1 < cLine; omega)
    ((ks.map fun p => Value.ref p.1).toArray.size - 0) 0 _ (by omega) (Nat.zero_le _) st keep ⟨[], _, _, _, prFresh gS, ⟨fun p hp => (by cases hp), fun p hp => (by simp at hp)⟩⟩ fun s' L es ep t mv z m k => ?_
  · have e' : (ks[i]?).map (fun p => Value.ref p.1) = some v := by simpa using e
    obtain ⟨p, hp, rfl⟩ := Option.map_eq_some_iff.mp e'
    exact ⟨p, hp, rfl⟩
  · rw [List.mem_singleton.mp hb]
    exact noHeap (Nat.le_of_lt lI)
  · obtain ⟨h', g', d', tk', os'⟩ := s'
    have e1 : g' = s.gens := mv.gens
    have e2 : d' = s.drawn := mv.drawn
    have e3 : os' = s.os := mv.os
    subst e1; subst e2; subst e3
    exact ⟨rfl, h', tk', L, es, ep, t, rfl, z, m, k⟩
/-! ### sorted(set(xs)) -/
def encZ (z : Addr × Str × Str) : PyData := encP z.2
theorem encZ_le (a b : Addr × Str × Str) : PySem.W.dataLe false encZ a b = leP a.2 b.2 := by
  rw [PySem.W.dataLe_eq]
  show (!PySem.W.dataLt (encZ b) (encZ a)) = _
  unfold encZ encP
  rw [PySem.W.dataLt_pair (by simp [PySem.W.alike]) (by simp [PySem.W.alike]), PySem.W.dataLt_str, PySem.W.dataLt_str]
  unfold leP leS
  by_cases c : b.2.1 = a.2.1
  · have e1 : PyData.eqv (.str b.2.1) (.str a.2.1) = true := by simp [PyData.eqv, c]
    rw [e1, if_pos rfl, if_pos c.symm]
    by_cases d : b.2.2 = a.2.2
    · have e2 : PyData.eqv (.str b.2.2) (.str a.2.2) = true := by simp [PyData.eqv, d]
      rw [e2, if_pos rfl, d]
      simp [List.lt_irrefl]
    · have e2 : PyData.eqv (.str b.2.2) (.str a.2.2) = false := by simp [PyData.eqv, d]
      rw [e2, if_neg Bool.false_ne_true]
  · have e1 : PyData.eqv (.str b.2.1) (.str a.2.1) = false := by simp [PyData.eqv, c]
    rw [e1, if_neg Bool.false_ne_true, if_neg fun e => c e.symm]
theorem leS_cmp (x y : Str) : leS x y = true ↔ ¬ y.cps.toList < x.cps.toList := by unfold leS; simp
theorem leS_tot (x y : Str) : leS x y = true ∨ leS y x = true := by
  rw [leS_cmp, leS_cmp]
  by_cases c : y.cps.toList < x.cps.toList
  · exact .inr fun d => List.lt_irrefl _ (List.lt_trans c d)
  · exact .inl c
theorem leS_tr {x y z : Str} (h1 : leS x y = true) (h2 : leS y z = true) : leS x z = true := by
  rw [leS_cmp] at *
  exact List.not_lt.mpr (List.le_trans (List.not_lt.mp h1) (List.not_lt.mp h2))
theorem leS_an {x y : Str} (h1 : leS x y = true) (h2 : leS y x = true) : x = y := by
  rw [leS_cmp] at *
  have e := List.le_antisymm (List.not_lt.mp h1) (List.not_lt.mp h2)
  cases x; cases y
  simp only [Str.mk.injEq]
  exact Array.toList_inj.mp e
theorem leP_tr (x y z : Str × Str) (h1 : leP x y = true) (h2 : leP y z = true) : leP x z = true := by
  unfold leP at *
  by_cases a : x.1 = y.1
  · rw [if_pos a] at h1
    by_cases b : y.1 = z.1
    · rw [if_pos b] at h2; rw [if_pos (a.trans b)]; exact leS_tr h1 h2
    · rw [if_neg b] at h2; rw [if_neg (fun e => b (a.symm.trans e)), a]; exact h2
  · rw [if_neg a] at h1
    by_cases b : y.1 = z.1
    · rw [if_neg (fun e => a (e.trans b.symm)), ← b]; exact h1
    · rw [if_neg b] at h2
      by_cases c : x.1 = z.1
      · rw [c] at h1 a; exact absurd (leS_an h2 h1) b
      · rw [if_neg c]; exact leS_tr h1 h2
theorem leP_tot (x y : Str × Str) : (leP x y || leP y x) = true := by
  unfold leP
  rw [Bool.or_eq_true]
  by_cases a : x.1 = y.1
  · rw [if_pos a, if_pos a.symm]; exact leS_tot _ _
  · rw [if_neg a, if_neg fun e => a e.symm]; exact leS_tot _ _
theorem leP_anti (x y : Str × Str) (h1 : leP x y = true) (h2 : leP y x = true) : x = y := by
  unfold leP at *
  by_cases a : x.1 = y.1
  · rw [if_pos a] at h1; rw [if_pos a.symm] at h2
    exact Prod.ext a (leS_an h1 h2)
  · rw [if_neg a] at h1; rw [if_neg fun e => a e.symm] at h2
    exact absurd (leS_an h1 h2) a
theorem srtP_uniq {xs ys : List (Str × Str)} (h1 : ys.Perm xs) (h2 : ys.Pairwise (fun a b => leP a b = true)) : ys = xs.mergeSort leP :=
  List.Perm.eq_of_pairwise (fun a b _ _ => leP_anti a b) h2 (List.pairwise_mergeSort leP_tr leP_tot xs) (h1.trans (List.mergeSort_perm xs leP).symm)
theorem vals_refs : ∀ {L : List (Addr × Str × Str)} {its : List Value}, Vals (L.map fun z => V.ref z.1) its → its = L.map fun z => Value.ref z.1
  | [], _, h => by cases h; rfl
  | z :: L, _, h => by
    cases h with
    | cons r t =>
      cases r
      rw [vals_refs t]
      rfl
theorem refs_vals : ∀ (L : List (Addr × Str × Str)), Vals (L.map fun z => V.ref z.1) (L.map fun z => Value.ref z.1)
  | [] => .nil
  | z :: L => .cons rfl (refs_vals L)
theorem eachZ : ∀ (L : List (Addr × Str × Str)), PySem.W.EachIs (fun v (z : Addr × Str × Str) => v = Value.ref z.1) (L.map fun z => Value.ref z.1) L
  | [] => .nil
  | _ :: L => .cons rfl (eachZ L)
theorem eachZ_eq {us : List Value} {L : List (Addr × Str × Str)} (h : PySem.W.EachIs (fun v (z : Addr × Str × Str) => v = Value.ref z.1) us L) : us = L.map fun z => Value.ref z.1 := by
  induction h with
  | nil => rfl
  | cons h1 _ ih => rw [h1, ih]; rfl
theorem eachZ_reads {h : Heap} {b : Addr} : ∀ (L : List (Addr × Str × Str)), (∀ z ∈ L, IsPr h z.2 z.1) → PySem.W.EachIs (fun v (z : Addr × Str × Str) => ∃ as, Reads h v (encZ z) as ∧ b ∉ as) (L.map fun z => Value.ref z.1) L
  | [], _ => .nil
  | z :: L, hp => by
    refine .cons ⟨[], ?_, by simp⟩ (eachZ_reads L fun y hy => hp y (List.mem_cons_of_mem _ hy))
    obtain ⟨o, n, t, u, ho, hc, hd⟩ := hp z (by simp)
    have : Reads h (.ref z.1) (.tuple [.str z.2.1, .str z.2.2]) ([] ++ ([] ++ [])) := .tuple ho hc hd (.cons (.str _ _) (.cons (.str _ _) .nil))
    exact this
section
variable {X : Cx}
theorem pr_of {pins : List (Addr × Obj)} {σ : L2.St} {H : Hp} {s : Shared} (I : Inv X pins σ H s) {b : Addr} {p : Str × Str} (h : SqT X.K H b [.str p.1, .str p.2]) : IsPr s.heap p b := by
  obtain ⟨its, rv, ⟨o, ho, hc, n, hd⟩, _⟩ := I.tuple h
  cases rv with
  | cons r1 r2 =>
    cases r2 with
    | cons r3 r4 =>
      cases r4
      obtain ⟨t, rfl⟩ := (show ∃ t, _ = Value.str p.1 t from r1)
      obtain ⟨u, rfl⟩ := (show ∃ t, _ = Value.str p.2 t from r3)
      exact ⟨o, n, t, u, ho, hc, hd⟩
def tSrt2 (K : PySem.W.Frag) (ta : TE) : TE := fun σ H Q => ta σ H fun x H1 => ∃ l : Addr, x = .ref l ∧
  ((∃ xs : List Str, (SqL K H1 l (xs.map V.str) ∨ SqT K H1 l (xs.map V.str)) ∧ (dedS xs).length < 64 ∧
      ∀ (ys : List Str) (p : Addr), ys.Perm (dedS xs) → sortedS ys = true → H1 p = none → Q (.ref p) (upd H1 p (.lst (ys.map V.str)))) ∨
    ∃ L : List (Addr × Str × Str), (SqL K H1 l (L.map fun z => V.ref z.1) ∨ SqT K H1 l (L.map fun z => V.ref z.1)) ∧ (∀ z ∈ L, SqT K H1 z.1 [.str z.2.1, .str z.2.2]) ∧ (dedP (L.map (·.2))).length < 63 ∧
      ∀ (M : List (Addr × Str × Str)) (p : Addr), (∀ z ∈ M, z ∈ L) → M.map (·.2) = (dedP (L.map (·.2))).mergeSort leP → H1 p = none → Q (.ref p) (upd H1 p (.lst (M.map fun z => V.ref z.1))))
theorem peSrt2 {a : Expr} {ta : TE} {p p2 q pos : Pos} (hc : X.calm = true) (hu : X.A.units + 64 < cLine) (hg : Gl X "sorted") (hm : X.mg "sorted" = none) (hg2 : Gl X "set") (hm2 : X.mg "set" = none) (ha : PE X a ta) (na : starEach [a] X.env = (false, eval a X.env) :: starEach [] X.env) :
    PE X (.Call (.Name "sorted" p) [.Call (.Name "set" p2) [a] [] q] [] pos) (tSrt2 X.K ta) := by
  refine ⟨fun pins s σ H Q I h => ?_⟩
  refine Call_ (ld_blt I hg hm PyProof.Rows.boot_sorted (PyProof.Rows.callWith_builtin1 (PyProof.Rows.args_cons ?_ rfl) rfl rfl))
  refine Call_ (ld_blt I hg2 hm2 boot_set (PyProof.Rows.callWith_type1 (PyProof.Rows.args_cons (thn (ha.run pins s σ H _ I h) fun v s1 ⟨x, H1, I1, r1, q1⟩ => PyProof.Rows.args_nil ?_) na) na rfl))
  obtain ⟨l, rfl, q1⟩ := q1
  cases r1
  rcases q1 with ⟨xs, hq, hB, q1⟩ | ⟨L, hq, hz, hB, q1⟩
  · obtain ⟨its, hv, hs⟩ : ∃ its, Vals (xs.map V.str) its ∧ (s1.heap.IsList l its.toArray ∨ s1.heap.IsTuple l its.toArray) := by
      rcases hq with hq | hq
      · obtain ⟨its, r, pl, _⟩ := I1.list hq; exact ⟨its, r, .inl pl.isList⟩
      · obtain ⟨its, r, pl, _⟩ := I1.tuple hq; exact ⟨its, r, .inr pl⟩
    have hh := I1.ok.hd hc
    refine callTxSet hh hs hv (by unfold scanBound; omega) fun h' tk ks z m k => PyProof.Rows.args_nil ?_
    obtain ⟨o, es, ep, t, ho, hex, hd, g, hk, nd, hb, hf, hr, hl⟩ := z
    have pk : ks.Perm (dedS xs) := perm_of_mem _ _ nd (dedS_nodup xs) fun y => by rw [m y, dedS_mem]
    have hn : es.size < 64 := by rw [← Array.length_toList, ← List.length_map (f := txK), hk, pk.length_eq]; exact hB
    have I2 : Inv X pins σ H1 { s1 with heap := h', toks := tk } := I1.kept k
    refine Calls.call_function_entry kind_sorted plain_sorted entry_sorted (args_sorted1 _) ?_
    unfold Builtin.«sorted»
    refine wpAny_bind (m := checkCount "sorted" 1 1 _) (wpAny_pure ?_)
    refine wpAny_bind (collect_set (A := X.A.in1) (s := { s1 with heap := h', toks := tk }) hh ⟨o, ho, hex.1, hd⟩ hf hb hr hl fun s2 us k2 z2 g2 o2 pm => ?_)
    have hus : us.length < 64 := by rw [pm.length_eq, List.length_map, Array.length_toList]; exact hn
    obtain ⟨ys, h1, h2⟩ := strs_perm pm (strs_list es.toList g)
    rw [hk] at h2
    refine wpAny_bind (wpAny_newList ?_ (by rw [sizeLine_eq]; omega))
    have oL : (s2.heap.push (seqObj "list" us.toArray 0)).get? s2.heap.objs.size = some (seqObj "list" us.toArray 0) := Heap.get?_push_size _ rfl
    refine wpAny_bind (wpAny_holding (wpAny_call_entry slot_list_sort ⟨_, oL, rfl⟩ entry_list_sort (list_sort_treeK strKind_oneLt oL h1.keysOf (fun v₁ v₂ rest e => keyKind_strs (by rw [← e]; exact h1)) hus fun st' hp hs' => ⟨_, rfl, ?_⟩) (args_list_sort _)))
    obtain ⟨ss, j1, j2, j3⟩ := sorted_out_str h1 hp hs'
    obtain ⟨cc, hcc⟩ := sortedHeap_at (vs := us) (out := (arrOf st').map (·.2)) oL
    have j4 : ss.Perm (dedS xs) := j2.trans (h2.trans pk)
    have keep : ∀ b u, s1.heap.get? b = some u → (sortedHeap (s2.heap.push (seqObj "list" us.toArray 0)) s2.heap.objs.size us ((arrOf st').map (·.2))).get? b = some u := fun b u e => by
      have e2 := k2 b u (k b u e)
      have lt := Heap.lt_size e2
      rw [sortedHeap_old (Nat.ne_of_lt lt) (by rw [size_push']; exact Nat.lt_succ_of_lt lt)]
      exact Heap.get?_push_of_some _ e2
    have hle : s1.heap.objs.size ≤ s2.heap.objs.size := by
      have w1 : s1.heap.objs.size < h'.objs.size := Heap.lt_size ho
      have w2 : h'.objs.size ≤ s2.heap.objs.size := z2
      omega
    have hlen : (ss.map V.str).length ≤ sizeLine := by rw [List.length_map, j4.length_eq, sizeLine_eq]; omega
    refine wpAny_pure ⟨_, rfl, ?_⟩
    have hnH : H1 s2.heap.objs.size = none := I1.hok.fresh hle
    refine ⟨.ref s2.heap.objs.size, upd H1 s2.heap.objs.size (.lst (ss.map V.str)), ?_, rfl, q1 ss _ j4 j3 hnH⟩
    obtain ⟨h3, g3, d3, t3, os3⟩ := s2
    have e1 : os3 = s1.os := o2
    have e2 : g3 = s1.gens := g2
    subst e1; subst e2
    have J : Inv X pins σ (upd H1 h3.objs.size (.lst (ss.map V.str))) { s1 with heap := sortedHeap (h3.push (seqObj "list" us.toArray 0)) h3.objs.size us ((arrOf st').map (·.2)), gens := s1.gens, drawn := d3, toks := t3 } :=
      I1.call (ch := []) (Un.laid keep hle hnH) (I1.hok.laid keep hle ⟨hlen, ((arrOf st').map (·.2)).toList, cc, vals_of_strs j1, hcc⟩) I1.bare (fun _ z => nomatch z)
    exact J
  · have hs : s1.heap.IsList l (L.map fun z => Value.ref z.1).toArray ∨ s1.heap.IsTuple l (L.map fun z => Value.ref z.1).toArray := by
      rcases hq with hq | hq
      · obtain ⟨its, r, pl, _⟩ := I1.list hq; rw [← vals_refs r]; exact .inl pl.isList
      · obtain ⟨its, r, pl, _⟩ := I1.tuple hq; rw [← vals_refs r]; exact .inr pl
    have hh := I1.ok.hd hc
    refine callPrSet hh hs (fun z hz' => pr_of I1 (hz z hz')) hB (by omega) fun h' tk L' es ep t z g k => PyProof.Rows.args_nil ?_
    obtain ⟨o, ho, hex, hd⟩ := z.ob
    have hfew := z.few
    have hsz : es.size = L'.length := by rw [← Array.length_toList, z.rows, List.length_map]
    have hfit : t.fits es.size = true := PrS.fits (s := { s1 with heap := h' }) z
    have I2 : Inv X pins σ H1 { s1 with heap := h', toks := tk } := I1.kept k
    have pk : (L'.map (·.2)).Perm (dedP (L.map (·.2))) := perm_of_mem _ _ z.nd (dedP_nodup _) fun y => by
      rw [dedP_mem]
      constructor
      · intro hy
        obtain ⟨b, hb, rfl⟩ := List.mem_map.mp hy
        exact List.mem_map.mpr ⟨b, g.sub b hb, rfl⟩
      · intro hy
        obtain ⟨b, hb, rfl⟩ := List.mem_map.mp hy
        exact g.all b hb
    refine Calls.call_function_entry kind_sorted plain_sorted entry_sorted (args_sorted1 _) ?_
    unfold Builtin.«sorted»
    refine wpAny_bind (m := checkCount "sorted" 1 1 _) (wpAny_pure ?_)
    refine wpAny_bind (collect_set (A := X.A.in1) (s := { s1 with heap := h', toks := tk }) hh ⟨o, ho, hex.1, hd⟩ hfit (by unfold scanBound; omega) z.tab.ris z.led fun s2 us k2 z2 g2 o2 pm => ?_)
    obtain ⟨L1, e1, p1⟩ := perm_maps (f := fun z : Addr × Str × Str => Value.ref z.1) pm (l := L') (by rw [z.rows, List.map_map]; rfl)
    subst e1
    have l1 : L1.length < 64 := by rw [p1.length_eq]; exact hfew
    refine wpAny_bind (wpAny_newList ?_ (by rw [List.length_map, sizeLine_eq]; omega))
    have oL : (s2.heap.push (seqObj "list" (L1.map fun z => Value.ref z.1).toArray 0)).get? s2.heap.objs.size = some (seqObj "list" (L1.map fun z => Value.ref z.1).toArray 0) := Heap.get?_push_size _ rfl
    have kL : ∀ b u, s1.heap.get? b = some u → (s2.heap.push (seqObj "list" (L1.map fun z => Value.ref z.1).toArray 0)).get? b = some u ∧ b < s2.heap.objs.size := fun b u e => by
      have e2 := k2 b u (k b u e)
      exact ⟨Heap.get?_push_of_some _ e2, Heap.lt_size e2⟩
    have hsz2 : (s2.heap.push (seqObj "list" (L1.map fun z => Value.ref z.1).toArray 0)).objs.size = s2.heap.objs.size + 1 := size_push' ..
    have ip : ∀ z ∈ L1, IsPr (s2.heap.push (seqObj "list" (L1.map fun z => Value.ref z.1).toArray 0)) z.2 z.1 := fun y hy => (pr_of I1 (hz y (g.sub y (p1.mem_iff.mp hy)))).keep fun o e => (kL _ o e).1
    show wpAny _ _ _ _ _ { s2 with heap := s2.heap.push (seqObj "list" (L1.map fun z => Value.ref z.1).toArray 0) }
    generalize s2.heap.push (seqObj "list" (L1.map fun z => Value.ref z.1).toArray 0) = h3 at oL kL hsz2 ip ⊢
    refine wpAny_bind (wpAny_holding (PySem.W.list_sort_data (s := { s2 with heap := h3 }) (vs := L1.map fun z => Value.ref z.1) (bs := L1) (enc := encZ) (R := fun v z => v = Value.ref z.1) oL (eachZ L1) (eachZ_reads L1 ip) (PySem.W.AllAlike.of fun b b' => ?_) (PySem.W.Sortable.tuples fun b => ⟨_, _, rfl⟩) (by rw [sizeLine_eq]; omega) (fun b _ => ?_) fun out ho' eo => ?_))
    · simp [encZ, encP, PySem.W.alike, PySem.W.alikeAll]
    · have : (encZ b).depth ≤ 2 := by simp [encZ, encP, PyData.depth, PyData.depthAll]
      show X.A.units + 1 + 1 + _ < cLine
      omega
    · have hM := eachZ_eq eo
      have hle : PySem.W.dataLe false encZ = fun a b => leP a.2 b.2 := by funext a b; exact encZ_le a b
      rw [hle] at hM
      have pM := List.mergeSort_perm L1 (fun a b => leP a.2 b.2)
      have sM : (L1.mergeSort fun a b => leP a.2 b.2).Pairwise (fun a b => leP a.2 b.2 = true) := List.pairwise_mergeSort (fun a b c => leP_tr a.2 b.2 c.2) (fun a b => leP_tot a.2 b.2) L1
      generalize (L1.mergeSort fun a b => leP a.2 b.2) = M at hM pM sM
      subst hM
      have uM : M.map (·.2) = (dedP (L.map (·.2))).mergeSort leP := srtP_uniq (((pM.trans p1).map (·.2)).trans pk) (List.pairwise_map.mpr sM)
      obtain ⟨cc, hcc⟩ := sortedHeap_at (vs := L1.map fun z => Value.ref z.1) (out := (M.map fun z => Value.ref z.1).toArray) oL
      have keep : ∀ b u, s1.heap.get? b = some u → (sortedHeap h3 s2.heap.objs.size (L1.map fun z => Value.ref z.1) (M.map fun z => Value.ref z.1).toArray).get? b = some u := fun b u e => by
        obtain ⟨e2, lt⟩ := kL b u e
        rw [sortedHeap_old (Nat.ne_of_lt lt) (by rw [hsz2]; exact Nat.lt_succ_of_lt lt)]
        exact e2
      have hle : s1.heap.objs.size ≤ s2.heap.objs.size := by
        have w1 : s1.heap.objs.size < h'.objs.size := Heap.lt_size ho
        have w2 : h'.objs.size ≤ s2.heap.objs.size := z2
        omega
      have hlen : (M.map fun z => V.ref z.1).length ≤ sizeLine := by rw [List.length_map, pM.length_eq, sizeLine_eq]; omega
      refine wpAny_pure ⟨_, rfl, ?_⟩
      have hnH : H1 s2.heap.objs.size = none := I1.hok.fresh hle
      refine ⟨.ref s2.heap.objs.size, upd H1 s2.heap.objs.size (.lst (M.map fun z => V.ref z.1)), ?_, rfl, q1 M _ (fun y hy => g.sub y ((pM.trans p1).mem_iff.mp hy)) uM hnH⟩
      obtain ⟨h4, g3, d3, t3, os3⟩ := s2
      have e1 : os3 = s1.os := o2
      have e2 : g3 = s1.gens := g2
      subst e1; subst e2
      have J : Inv X pins σ (upd H1 h4.objs.size (.lst (M.map fun z => V.ref z.1))) { s1 with heap := sortedHeap h3 h4.objs.size (L1.map fun z => Value.ref z.1) (M.map fun z => Value.ref z.1).toArray, gens := s1.gens, drawn := d3, toks := t3 } :=
        I1.call (ch := []) (Un.laid keep hle hnH) (I1.hok.laid keep hle ⟨hlen, M.map fun z => Value.ref z.1, cc, refs_vals M, hcc⟩) I1.bare (fun _ z => nomatch z)
      exact J
end
end Tw
set_option Elab.async false
set_option linter.all false
set_option maxRecDepth 100000
set_option maxHeartbeats 4000000
/-! C3j: sorted(xs), xs a tuple of texts, a list of pairs of texts. -/
namespace Tw
open PySem PySem.Spec PyProof.Rows L2
section
variable {prog : Program} {w : World} {A : Around} {E : Value → Shared → Prop} {s : Shared}
theorem collectT {l : Addr} {vs : List Value} {Q : List Value → Shared → Prop} (hl : s.heap.IsTuple l vs.toArray) (hsz : vs.length ≤ sizeLine)
    (h : Q vs { s with heap := (s.heap.push (seqObj "list" #[] 0)).update s.heap.objs.size (Obj.mapSeq (· ++ vs.toArray)) }) : wpAny (model prog w) A (collect (.ref l)) Q E s := by
  obtain ⟨o, ho, hc, n, hd⟩ := id hl
  unfold collect
  refine wpAny_bind (wpAny_runValue (codeAny_builtin entry_proto_collect' ?_))
  show wpAny _ _ (do again (.builtin "list.__iadd__" ⟨[← newList [], .ref l], []⟩)) _ _ s
  refine wpAny_bind (wpAny_newList (wpAny_pure ⟨Code.quiet_builtin _ (by decide +kernel), codeAny_builtin entry_list_iadd' ?_⟩))
  show wpAny _ _ (Builtin.List.listExtendWith (.ref s.heap.objs.size) (.ref l) (.ref s.heap.objs.size)) _ _ { s with heap := s.heap.push (seqObj "list" #[] 0) }
  unfold Builtin.List.listExtendWith
  have ho' : (s.heap.push (seqObj "list" #[] 0)).get? l = some o := Heap.get?_push_of_some _ ho
  refine wpAny_bind (wpAny_typeOf (T := "tuple") ⟨o, ho', hc⟩ ?_)
  have e1 : (Value.type "tuple" == Value.type "list") = false := by decide
  have e2 : (Value.type "tuple" == Value.type "tuple") = true := by decide
  rw [if_pos (by rw [e1, e2]; simp)]
  refine wpAny_bind (listItems_at ho' hd ?_)
  refine wpAny_bind (listItems_at (xs := #[]) (n := 0) (Heap.get?_push_size _ rfl) rfl ?_)
  rw [if_neg (by simp)]
  refine wpAny_bind (listUpdate_at (xs := #[]) (n := 0) (Heap.get?_push_size _ rfl) rfl ?_ (Nat.zero_le _) (by show (#[] ++ vs.toArray).size ≤ sizeLine + 1; simp only [Array.size_append, List.size_toArray, List.length_nil]; omega))
  refine wpAny_pure ?_
  show wpAny (model prog w) A (do
      let o ← load s.heap.objs.size
      match o.data with
      | .seq xs _ => pure xs.toList
      | _ => unsupported "internal:collect") Q E { s with heap := (s.heap.push (seqObj "list" #[] 0)).update s.heap.objs.size (Obj.mapSeq (· ++ vs.toArray)) }
  refine wpAny_bind (wpAny_load (get?_update_seq (Heap.get?_push_size _ rfl) _) ?_)
  show wpAny _ _ (pure ((#[] : Array Value) ++ vs.toArray).toList) Q E _
  have e3 : ((#[] : Array Value) ++ vs.toArray).toList = vs := by simp
  rw [e3]
  exact wpAny_pure h
end
section
variable {X : Cx}
def rSortedP (K : PySem.W.Frag) : List V → Hp → VK → Prop := fun vs H Q => ∃ (a : Addr) (L : List (Addr × Str × Str)), vs = [V.ref a] ∧ SqL K H a (L.map fun z => V.ref z.1) ∧ (∀ z ∈ L, SqT K H z.1 [.str z.2.1, .str z.2.2]) ∧ L.length < 64 ∧
  ∀ (M : List (Addr × Str × Str)) (p : Addr), (∀ z ∈ M, z ∈ L) → M.map (·.2) = (L.map (·.2)).mergeSort leP → H p = none → Q (.ref p) (upd H p (.lst (M.map fun z => V.ref z.1)))
theorem cr_sortedP (hu : X.A.units + 64 < cLine) : CallR X (.builtin "sorted") (rSortedP X.K) := by
  intro pins s σ H vs us Q I r h
  obtain ⟨a, L, rfl, hs, hz, h64, q⟩ := h
  obtain ⟨its, rv, hl, _⟩ := I.list hs
  rw [Vals.ref1 r]
  obtain rfl := vals_refs rv
  have er : PySem.W.EachIs (fun v (z : Addr × Str × Str) => ∃ as, Reads s.heap v (encZ z) as) (L.map fun z => Value.ref z.1) L := (eachZ_reads (b := 0) L fun z hz' => pr_of I (hz z hz')).mono fun _ _ ⟨as, r, _⟩ => ⟨as, r⟩
  refine PySem.W.sorted_data hl.isList (eachZ L) er (PySem.W.AllAlike.of fun b b' => ?_) (PySem.W.Sortable.tuples fun b => ⟨_, _, rfl⟩) (by rw [sizeLine_eq]; omega) (fun b _ => ?_) fun out ho eo => ?_
  · simp [encZ, encP, PySem.W.alike, PySem.W.alikeAll]
  · have : (encZ b).depth ≤ 2 := by simp [encZ, encP, PyData.depth, PyData.depthAll]
    omega
  · have hM := eachZ_eq eo
    have hle : PySem.W.dataLe false encZ = fun a b => leP a.2 b.2 := by funext a b; exact encZ_le a b
    rw [hle] at hM
    have pM := List.mergeSort_perm L (fun a b => leP a.2 b.2)
    have sM : (L.mergeSort fun a b => leP a.2 b.2).Pairwise (fun a b => leP a.2 b.2 = true) := List.pairwise_mergeSort (fun a b c => leP_tr a.2 b.2 c.2) (fun a b => leP_tot a.2 b.2) L
    generalize (L.mergeSort fun a b => leP a.2 b.2) = M at hM pM sM
    subst hM
    obtain ⟨ep, he'⟩ := PyProof.Rows.sortedAll_at s.heap (L.map fun z => Value.ref z.1) (M.map fun z => Value.ref z.1).toArray
    have hlen : (M.map fun z => V.ref z.1).length ≤ sizeLine := by rw [List.length_map, pM.length_eq]; exact small64 h64
    exact ⟨.ref _, upd H (s.heap.objs.size + 1) (.lst (M.map fun z => V.ref z.1)), I.laid (t' := s.toks) (fun _ _ => PyProof.Rows.sortedAll_old) (Nat.le_succ _) ⟨hlen, M.map fun z => Value.ref z.1, ep, refs_vals M, he'⟩, rfl,
      q M _ (fun z hz' => pM.mem_iff.mp hz') (srtP_uniq (pM.map (·.2)) (List.pairwise_map.mpr sM)) (I.hok.fresh (Nat.le_succ _))⟩
def rSortedT (K : PySem.W.Frag) : List V → Hp → VK → Prop := fun vs H Q => ∃ (a : Addr) (xs : List Str), vs = [V.ref a] ∧ SqT K H a (xs.map V.str) ∧ xs.length < 64 ∧
  ∀ (ys : List Str) (p : Addr), ys.Perm xs → sortedS ys = true → H p = none → Q (.ref p) (upd H p (.lst (ys.map V.str)))
theorem cr_sortedT2 (hu : X.A.units + 64 < cLine) : CallR X (.builtin "sorted") (rSortedT X.K) := by
  intro pins s σ H vs us Q I r h
  obtain ⟨a, xs, rfl, hs, h64, q⟩ := h
  obtain ⟨its, rv, hl, _⟩ := I.tuple hs
  rw [Vals.ref1 r]
  have hlen0 := rv.length
  rw [List.length_map] at hlen0
  have h1 := rv.strs
  refine Calls.call_function_entry kind_sorted plain_sorted entry_sorted (args_sorted1 _) ?_
  unfold Builtin.«sorted»
  refine wpAny_bind (m := checkCount "sorted" 1 1 _) (wpAny_pure ?_)
  refine wpAny_bind (collectT (show s.heap.IsTuple a its.toArray from hl) (by rw [sizeLine_eq]; omega) ?_)
  refine wpAny_bind (wpAny_newList ?_ (by rw [sizeLine_eq]; omega))
  have hsz : ((s.heap.push (seqObj "list" #[] 0)).update s.heap.objs.size (Obj.mapSeq (· ++ its.toArray))).objs.size = s.heap.objs.size + 1 := by
    rw [Heap.size_update, size_push']
  have hoL : (((s.heap.push (seqObj "list" #[] 0)).update s.heap.objs.size (Obj.mapSeq (· ++ its.toArray))).push (seqObj "list" its.toArray 0)).get? (s.heap.objs.size + 1) = some (seqObj "list" its.toArray 0) := by
    rw [← hsz]; exact Heap.get?_push_size _ rfl
  show wpAny _ _ _ _ _ { s with heap := ((s.heap.push (seqObj "list" #[] 0)).update s.heap.objs.size (Obj.mapSeq (· ++ its.toArray))).push (seqObj "list" its.toArray 0) }
  rw [hsz]
  refine wpAny_bind (wpAny_holding (wpAny_call_entry slot_list_sort ⟨_, hoL, rfl⟩ entry_list_sort (list_sort_treeK strKind_oneLt hoL h1.keysOf (fun v₁ v₂ rest e => keyKind_strs (by rw [← e]; exact h1)) (by rw [← hlen0]; exact h64) fun st' hp hs' => ⟨_, rfl, ?_⟩) (args_list_sort _)))
  obtain ⟨ys, j1, j2, j3⟩ := sorted_out_str h1 hp hs'
  refine wpAny_pure ⟨_, rfl, ?_⟩
  obtain ⟨ep, he'⟩ := PyProof.Rows.sortedAll_at s.heap its ((arrOf st').map (·.2))
  have hlen : (ys.map V.str).length ≤ sizeLine := by rw [List.length_map, j2.length_eq]; exact small64 h64
  exact ⟨.ref _, upd H (s.heap.objs.size + 1) (.lst (ys.map V.str)), I.laid (t' := s.toks) (fun _ _ => PyProof.Rows.sortedAll_old) (Nat.le_succ _) ⟨hlen, _, ep, vals_of_strs j1, he'⟩, rfl, q ys _ j2 j3 (I.hok.fresh (Nat.le_succ _))⟩
def rSortedAny (K : PySem.W.Frag) : List V → Hp → VK → Prop := fun vs H Q => (rSortedS K vs H Q ∨ rSortedT K vs H Q) ∨ rSortedP K vs H Q
theorem cr_sortedAny (hu : X.A.units + 64 < cLine) : CallR X (.builtin "sorted") (rSortedAny X.K) := (CallR.or cr_sortedS (cr_sortedT2 hu)).or (cr_sortedP hu)
end
end Tw
set_option Elab.async false
set_option linter.all false
set_option maxRecDepth 100000
set_option maxHeartbeats 4000000
/-! C4: the expressions' rules, each over the evaluator. -/
namespace Tw
open PySem L2

theorem peWeak {X : Cx} {e : Expr} {t t' : TE} (h : PE X e t) (w : ∀ σ H Q, t' σ H Q → t σ H Q) : PE X e t' :=
  ⟨fun pins s σ H Q I q => h.run pins s σ H Q I (w σ H Q q)⟩
theorem ptWeak {X : Cx} {e : Expr} {t t' : TT} (h : PT X e t) (w : ∀ σ H Q, t' σ H Q → t σ H Q) : PT X e t' :=
  ⟨fun pins s σ H Q I q => h.run pins s σ H Q I (w σ H Q q)⟩
theorem pwWeak {X : Cx} {e : Expr} {t t' : TT} (h : PW X e t) (w : ∀ σ H Q, t' σ H Q → t σ H Q) : PW X e t' :=
  ⟨fun wh pins s σ H Q I q => h.run wh pins s σ H Q I (w σ H Q q)⟩
theorem paWeak {X : Cx} {es : List Expr} {t t' : TA} (h : PA X es t) (w : ∀ σ H Q, t' σ H Q → t σ H Q) : PA X es t' :=
  ⟨fun pos pins s σ H Q I q => h.run pos pins s σ H Q I (w σ H Q q)⟩
theorem psWeak {X : Cx} {st : Stmt} {t t' : TS} (h : PS X st t) (w : ∀ D σ H, t' D σ H → t D σ H) : PS X st t' :=
  ⟨fun pins s σ H D I q => h.run pins s σ H D I (w D σ H q)⟩
theorem pssWeak {X : Cx} {st : List Stmt} {t t' : TS} (h : PSs X st t) (w : ∀ D σ H, t' D σ H → t D σ H) : PSs X st t' :=
  ⟨fun pins s σ H D I q => h.run pins s σ H D I (w D σ H q)⟩
theorem peOr {X : Cx} {e : Expr} {t t' : TE} (h : PE X e t) (h' : PE X e t') : PE X e (fun σ H Q => t σ H Q ∨ t' σ H Q) :=
  ⟨fun pins s σ H Q I q => q.elim (h.run pins s σ H Q I) (h'.run pins s σ H Q I)⟩
theorem ptOr {X : Cx} {e : Expr} {t t' : TT} (h : PT X e t) (h' : PT X e t') : PT X e (fun σ H Q => t σ H Q ∨ t' σ H Q) :=
  ⟨fun pins s σ H Q I q => q.elim (h.run pins s σ H Q I) (h'.run pins s σ H Q I)⟩

abbrev Mv := En → Sto → Option (Vl × Sto)
section
variable (K : PySem.W.Frag) (CA : CAT)
/-- an expression's reading by an evaluation -/
def TV (m : Mv) : TE := fun σ H Q => ∃ F φ st ρ x st', R K CA F φ st H ∧ RE K F φ σ ρ ∧ m ρ st = some (x, st') ∧ PostV K CA F φ H x st' Q
def TB (m : Mv) : TT := fun σ H Q => ∃ F φ st ρ b st', R K CA F φ st H ∧ RE K F φ σ ρ ∧ m ρ st = some (.d (.bool b), st') ∧ ∀ F' φ' H', Nx K CA F φ H F' φ' st' H' → Q b H'
def TL (m : En → Sto → Option (List Vl × Sto)) : TA := fun σ H Q => ∃ F φ st ρ xs st', R K CA F φ st H ∧ RE K F φ σ ρ ∧ m ρ st = some (xs, st') ∧ ∀ F' φ' H' vs, Nx K CA F φ H F' φ' st' H' → RVs K F' φ' vs xs → Q vs H'
def TOo (m : En → Sto → Option (Option Int × Sto)) : TO := fun σ H Q => ∃ F φ st ρ o st', R K CA F φ st H ∧ RE K F φ σ ρ ∧ m ρ st = some (o, st') ∧ ∀ F' φ' H', Nx K CA F φ H F' φ' st' H' → Q o H'
end
section
variable {X : Cx} {CA : CAT} {a b c : Expr} {pos : Pos} {ma mb mc : Mv}

theorem TV.congr {K : PySem.W.Frag} {m m' : Mv} (e : ∀ ρ st, m ρ st = m' ρ st) : TV K CA m = TV K CA m' := by
  have : m = m' := funext fun ρ => funext fun st => e ρ st
  rw [this]
/-- one part -/
theorem tvOne {K : PySem.W.Frag} {m : Mv} {k : Vl → Sto → Option (Vl × Sto)} (hm : ∀ ρ st, m ρ st = (ma ρ st).bind fun p => k p.1 p.2) {σ : L2.St} {H : Hp} {Q : VK} (h : TV K CA m σ H Q) {T : VK}
    (ht : ∀ F φ st H u v x st', R K CA F φ st H → RV K F φ u v → k v st = some (x, st') → PostV K CA F φ H x st' Q → T u H) : TV K CA ma σ H T := by
  obtain ⟨F, φ, st, ρ, x, st', r, re, e, q⟩ := h
  rw [hm] at e
  obtain ⟨⟨v1, st1⟩, e1, e⟩ := Option.bind_eq_some_iff.mp e
  exact ⟨F, φ, st, ρ, v1, st1, r, re, e1, fun F1 φ1 H1 u1 n1 rv1 => ht F1 φ1 st1 H1 u1 v1 x st' n1.r rv1 e fun F3 φ3 H3 v n3 rv => q _ _ _ _ (n1.trans n3) rv⟩
/-- two parts, from the left -/
theorem tvTwo {K : PySem.W.Frag} {m : Mv} {k : Vl → Vl → Sto → Option (Vl × Sto)} (hm : ∀ ρ st, m ρ st = (ma ρ st).bind fun p => (mb ρ p.2).bind fun q => k p.1 q.1 q.2) {σ : L2.St} {H : Hp} {Q : VK} (h : TV K CA m σ H Q) {T : V → V → Hp → Prop}
    (ht : ∀ F φ st H u w v v' x st', R K CA F φ st H → RV K F φ u v → RV K F φ w v' → k v v' st = some (x, st') → PostV K CA F φ H x st' Q → T u w H) : TV K CA ma σ H fun u H1 => TV K CA mb σ H1 fun w H2 => T u w H2 := by
  obtain ⟨F, φ, st, ρ, x, st', r, re, e, q⟩ := h
  rw [hm] at e
  obtain ⟨⟨v1, st1⟩, e1, e⟩ := Option.bind_eq_some_iff.mp e
  obtain ⟨⟨v2, st2⟩, e2, e⟩ := Option.bind_eq_some_iff.mp e
  refine ⟨F, φ, st, ρ, v1, st1, r, re, e1, fun F1 φ1 H1 u1 n1 rv1 => ?_⟩
  refine ⟨F1, φ1, st1, ρ, v2, st2, n1.r, re.le n1.le n1.gr, e2, fun F2 φ2 H2 u2 n2 rv2 => ?_⟩
  exact ht F2 φ2 st2 H2 u1 u2 v1 v2 x st' n2.r (rv1.le n2.le n2.gr) rv2 e fun F3 φ3 H3 v n3 rv => q _ _ _ _ ((n1.trans n2).trans n3) rv
/-- both parts read as data, the store as it is -/
theorem tvTwoD {K : PySem.W.Frag} {m : Mv} {k : PyData → PyData → Option PyData} (hm : ∀ ρ st, m ρ st = (ma ρ st).bind fun p => (mb ρ p.2).bind fun q => (dat q.2 p.1).bind fun x => (dat q.2 q.1).bind fun y => (k x y).map fun z => (.d z, q.2))
    {σ : L2.St} {H : Hp} {Q : VK} (h : TV K CA m σ H Q) {T : V → V → Hp → Prop}
    (ht : ∀ F φ st H u w x y z, R K CA F φ st H → Rt K F H u x → Rt K F H w y → k x y = some z → PostD K CA F φ st H z Q → T u w H) : TV K CA ma σ H fun u H1 => TV K CA mb σ H1 fun w H2 => T u w H2 := by
  refine tvTwo (k := fun v v' st => (dat st v).bind fun x => (dat st v').bind fun y => (k x y).map fun z => (.d z, st)) hm h fun F φ st H u w v v' x st' r rv rv' e q => ?_
  obtain ⟨x1, e1, e⟩ := Option.bind_eq_some_iff.mp e
  obtain ⟨y1, e2, e⟩ := Option.bind_eq_some_iff.mp e
  obtain ⟨z, e3, e4⟩ := Option.map_eq_some_iff.mp e
  cases e4
  exact ht F φ st H u w x1 y1 z r (r.reads rv e1) (r.reads rv' e2) e3 (PostV.data q)
theorem tbOf {m : Mv} (h : PE X a (TV X.K CA m)) (he : ∀ whole, isTrue a X.env whole = (do let v ← whole; standAt a.pos; holding [v] (truthy v))) : PT X a (TB X.K CA m) := by
  refine ptWeak (pt_val h he) fun σ H Q ⟨F, φ, st, ρ, b, st', r, re, e, q⟩ => ?_
  refine ⟨F, φ, st, ρ, _, st', r, re, e, fun F1 φ1 H1 u1 n1 rv1 => ?_⟩
  have rv : Rp X.K F1 u1 (.bool b) := rv1
  cases rv
  exact ⟨b, rfl, q _ _ _ n1⟩
/-- the same of a test that is a comparison -/
theorem tbOfT {m : Mv} {t : TE} (h : PT X a (tTest t)) (w : ∀ σ H Q, TV X.K CA m σ H Q → t σ H Q) : PT X a (TB X.K CA m) := by
  refine ptWeak h fun σ H Q ⟨F, φ, st, ρ, b, st', r, re, e, q⟩ => w σ H _ ?_
  refine ⟨F, φ, st, ρ, _, st', r, re, e, fun F1 φ1 H1 u1 n1 rv1 => ?_⟩
  have rv : Rp X.K F1 u1 (.bool b) := rv1
  cases rv
  exact ⟨b, rfl, q _ _ _ n1⟩

/-! ### names, constants -/
theorem pvVar {i : Nat} {x : Str} {m : Mv} (hm : ∀ ρ st, m ρ st = match ρ[i]? with | some (some v) => some (v, st) | _ => none) (hN : X.N[i]? = some x) (hv : Vis X.env.scope x) (hd : (x == ("__debug__" : Str)) = false) (hcd : (x == ("__classdict__" : Str)) = false) :
    PE X (.Name x pos) (TV X.K CA m) := by
  refine peWeak (pe_var hN hv hd hcd) fun σ H Q ⟨F, φ, st, ρ, x, st', r, re, e, q⟩ => ?_
  rw [hm] at e
  cases h1 : ρ[i]? with
  | none => rw [h1] at e; cases e
  | some o =>
    cases o with
    | none => rw [h1] at e; cases e
    | some v =>
      rw [h1] at e
      cases e
      obtain ⟨u, e1, rv⟩ := re.at_ i _ h1
      exact ⟨u, e1, q _ _ _ _ r.nx rv⟩
def cstRel (k : Const) (d : PyData) : Prop := match k, d with
  | .none, .none => True
  | .bool b, .bool b' => b = b'
  | .int i, .int i' => i = i'
  | .str z, .str z' => z = z'
  | _, _ => False
theorem pvCst {k : Const} {j : Nat} {d : PyData} {m : Mv} (hm : ∀ ρ st, m ρ st = some (.d d, st)) (h : cstRel k d) : PE X (.Constant k j pos) (TV X.K CA m) := by
  have fin : ∀ v, (∀ F, Rp X.K F v d) → PE X (.Constant k j pos) (tC v) → PE X (.Constant k j pos) (TV X.K CA m) := fun v hv hp =>
    peWeak hp fun σ H Q ⟨F, φ, st, ρ, x, st', r, re, e, q⟩ => by
      rw [hm] at e
      cases e
      exact q _ _ _ _ r.nx (hv F)
  cases k with
  | none => cases d with
    | none => exact fin _ (fun _ => .non) pe_non
    | _ => exact h.elim
  | bool b => cases d with
    | bool b' => cases h; exact fin _ (fun _ => .bl _) pe_bl
    | _ => exact h.elim
  | int i => cases d with
    | int i' => cases h; exact fin _ (fun _ => .int _) pe_int
    | _ => exact h.elim
  | str z => cases d with
    | str z' => cases h; exact fin _ (fun _ => .str _) pe_str
    | _ => exact h.elim
  | _ => cases d <;> exact h.elim
/-- a constant that is an object is a tuple of the module -/
def KTp (K : PySem.W.Frag) (v : V) : Prop := ∀ p, v = .ref p → ∃ o, K.lookup p = some o ∧ o.cls = .type "tuple" ∧ o.dict = none
theorem pvGlb {x : Str} {v : V} {u : Value} {d : PyData} {m : Mv} (hm : ∀ ρ st, m ρ st = some (.d d, st)) (hg : Gl X x) (hx : X.mg x = some u) (rv : RelV v u) (hr : Rp X.K (fun _ => none) v d) (hd : (x == ("__debug__" : Str)) = false) : PE X (.Name x pos) (TV X.K CA m) :=
  peWeak (pe_glob hg hx rv hd) fun σ H Q ⟨F, φ, st, ρ, y, st', r, re, e, q⟩ => by
    rw [hm] at e
    cases e
    exact q _ _ _ _ r.nx (hr.le fun _ _ z => by cases z)
/-! ### lists of expressions -/
theorem pvNil {m : En → Sto → Option (List Vl × Sto)} (hm : ∀ ρ st, m ρ st = some ([], st)) : PA X [] (TL X.K CA m) :=
  paWeak pa_nil fun σ H Q ⟨F, φ, st, ρ, xs, st', r, re, e, q⟩ => by
    rw [hm] at e
    cases e
    exact q _ _ _ _ r.nx .nil
theorem pvCons {es : List Expr} {m m2 : En → Sto → Option (List Vl × Sto)} (hm : ∀ ρ st, m ρ st = (ma ρ st).bind fun p => (m2 ρ p.2).map fun q => (p.1 :: q.1, q.2)) (ha : PE X a (TV X.K CA ma)) (hr : PA X es (TL X.K CA m2))
    (hs : starEach (a :: es) X.env = (false, eval a X.env) :: starEach es X.env) : PA X (a :: es) (TL X.K CA m) :=
  paWeak (pa_cons ha hr hs) fun σ H Q ⟨F, φ, st, ρ, xs, st', r, re, e, q⟩ => by
    rw [hm] at e
    obtain ⟨⟨v1, st1⟩, e1, e⟩ := Option.bind_eq_some_iff.mp e
    obtain ⟨⟨vs2, st2⟩, e2, e3⟩ := Option.map_eq_some_iff.mp e
    cases e3
    refine ⟨F, φ, st, ρ, v1, st1, r, re, e1, fun F1 φ1 H1 u1 n1 rv1 => ?_⟩
    refine ⟨F1, φ1, st1, ρ, vs2, st2, n1.r, re.le n1.le n1.gr, e2, fun F2 φ2 H2 us n2 rv2 => ?_⟩
    exact q _ _ _ _ (n1.trans n2) (.cons (rv1.le n2.le n2.gr) rv2)
theorem tlOne {K : PySem.W.Frag} {es : List Expr} {m : Mv} {ml : En → Sto → Option (List Vl × Sto)} {k : List Vl → Sto → Option (Vl × Sto)} (hm : ∀ ρ st, m ρ st = (ml ρ st).bind fun p => k p.1 p.2) {σ : L2.St} {H : Hp} {Q : VK} (h : TV K CA m σ H Q) {T : List V → Hp → Prop}
    (ht : ∀ F φ st H us vs x st', R K CA F φ st H → RVs K F φ us vs → k vs st = some (x, st') → PostV K CA F φ H x st' Q → T us H) : TL K CA ml σ H T := by
  obtain ⟨F, φ, st, ρ, x, st', r, re, e, q⟩ := h
  rw [hm] at e
  obtain ⟨⟨v1, st1⟩, e1, e⟩ := Option.bind_eq_some_iff.mp e
  exact ⟨F, φ, st, ρ, v1, st1, r, re, e1, fun F1 φ1 H1 us n1 rv1 => ht F1 φ1 st1 H1 us v1 x st' n1.r rv1 e fun F3 φ3 H3 v n3 rv => q _ _ _ _ (n1.trans n3) rv⟩
/-! ### displays -/
theorem pvTup {es : List Expr} {k : Nat} {m : Mv} {ml : En → Sto → Option (List Vl × Sto)} (hm : ∀ ρ st, m ρ st = (ml ρ st).bind fun p => if p.1.length ≤ sizeL then (allD p.1).map fun xs => (.d (.tuple xs), p.2) else none) (h : PA X es (TL X.K CA ml)) : PE X (.Tuple es k pos) (TV X.K CA m) :=
  peWeak (pe_tup h) fun σ H Q hq => tlOne (es := es) (k := fun vs st => if vs.length ≤ sizeL then (allD vs).map fun xs => (.d (.tuple xs), st) else none) hm hq fun F φ st H us vs x st' r rv e q => by
    split at e
    · rename_i hl
      obtain ⟨xs, e1, e2⟩ := Option.map_eq_some_iff.mp e
      cases e2
      have ra := rv.data e1
      have hl' : xs.length ≤ sizeL := by rw [← ra.length, rv.length]; exact hl
      exact ⟨by rw [rv.length, ← sizeL_eq]; exact hl, (PostV.data q).tup r ra hl'⟩
    · cases e
theorem pvLst {es : List Expr} {m : Mv} {ml : En → Sto → Option (List Vl × Sto)} (hm : ∀ ρ st, m ρ st = (ml ρ st).bind fun p => if p.1.length ≤ sizeL then (allD p.1).map fun xs => (.d (.list xs), p.2) else none) (h : PA X es (TL X.K CA ml)) : PE X (.List es pos) (TV X.K CA m) :=
  peWeak (pe_lst h) fun σ H Q hq => tlOne (es := es) (k := fun vs st => if vs.length ≤ sizeL then (allD vs).map fun xs => (.d (.list xs), st) else none) hm hq fun F φ st H us vs x st' r rv e q => by
    split at e
    · rename_i hl
      obtain ⟨xs, e1, e2⟩ := Option.map_eq_some_iff.mp e
      cases e2
      have ra := rv.data e1
      have hl' : xs.length ≤ sizeL := by rw [← ra.length, rv.length]; exact hl
      exact ⟨by rw [rv.length, ← sizeL_eq]; exact hl, (PostV.data q).lst r ra hl'⟩
    · cases e
theorem pvNlst {es : List Expr} {m : Mv} {ml : En → Sto → Option (List Vl × Sto)} (hm : ∀ ρ st, m ρ st = (ml ρ st).bind fun p => if p.1.length ≤ sizeL then (allD p.1).map fun xs => (.r p.2.length, p.2 ++ [.lst xs]) else none) (h : PA X es (TL X.K CA ml)) : PE X (.List es pos) (TV X.K CA m) :=
  peWeak (pe_lst h) fun σ H Q hq => tlOne (es := es) (k := fun vs st => if vs.length ≤ sizeL then (allD vs).map fun xs => (.r st.length, st ++ [.lst xs]) else none) hm hq fun F φ st H us vs x st' r rv e q => by
    split at e
    · rename_i hl
      obtain ⟨xs, e1, e2⟩ := Option.map_eq_some_iff.mp e
      cases e2
      have ra := rv.data e1
      have hl' : xs.length ≤ sizeL := by rw [← ra.length, rv.length]; exact hl
      refine ⟨by rw [rv.length, ← sizeL_eq]; exact hl, fun p hp => ?_⟩
      refine q _ _ _ _ (r.nxEntry (m := .lst xs) hp ⟨us, upd_same, hl', ra, rfl⟩) ⟨(p, []), ?_, rfl⟩
      rw [r.len, List.getElem?_append_right (Nat.le_refl _)]; simp
    · cases e
/-! ### operators -/
theorem pvBin {op : Operator} {r : R2} {o : Bop} {m : Mv} (hm : ∀ ρ st, m ρ st = (ma ρ st).bind fun p => (mb ρ p.2).bind fun q => (dat q.2 p.1).bind fun x => (dat q.2 q.1).bind fun y => (binD o x y).map fun z => (.d z, q.2)) (ho : OpR X (binaryOp op) r)
    (hok : ∀ F φ st H u w x y z Q, R X.K CA F φ st H → Rt X.K F H u x → Rt X.K F H w y → binD o x y = some z → PostD X.K CA F φ st H z Q → r u w H Q) (ha : PE X a (TV X.K CA ma)) (hb : PE X b (TV X.K CA mb)) : PE X (.BinOp a op b pos) (TV X.K CA m) :=
  peWeak (pe_op ho ha hb) fun σ H Q h => tvTwoD hm h fun F φ st H u w x y z => hok F φ st H u w x y z Q
theorem pvNeg {m : Mv} (hm : ∀ ρ st, m ρ st = (ma ρ st).bind fun p => (intOf p.1).map fun i => (.d (.int (-i)), p.2)) (ha : PE X a (TV X.K CA ma)) : PE X (.UnaryOp .USub a pos) (TV X.K CA m) :=
  peWeak (pe_un un_neg ha) fun σ H Q h => tvOne (k := fun v st => (intOf v).map fun i => (.d (.int (-i)), st)) hm h fun F φ st H u v x st' r rv e q => by
    obtain ⟨i, e1, e2⟩ := Option.map_eq_some_iff.mp e
    cases e2
    unfold intOf at e1
    split at e1
    · cases e1
      have rv' : Rp X.K F u (.int _) := rv
      cases rv'
      exact ⟨_, rfl, (PostV.data q).self r (.int _)⟩
    · cases e1
/-- a comparison of two parts: as a value, as a test -/
theorem pvCmp {op : CmpOp} {r : R2} {o : Cop} {m : Mv} (hm : ∀ ρ st, m ρ st = (ma ρ st).bind fun p => (mb ρ p.2).bind fun q => (dat q.2 p.1).bind fun x => (dat q.2 q.1).bind fun y => (cmpD o x y).map fun z => (.d (.bool z), q.2)) (ho : OpR X (compareOp op) r)
    (hok : ∀ F φ st H u w x y z Q, R X.K CA F φ st H → Rt X.K F H u x → Rt X.K F H w y → cmpD o x y = some z → PostD X.K CA F φ st H (.bool z) Q → r u w H Q) (ha : PE X a (TV X.K CA ma)) (hb : PE X b (TV X.K CA mb)) (hb' : behindInMarks op b = false) :
    PE X (.Compare a [op] [b] pos) (TV X.K CA m) ∧ PT X (.Compare a [op] [b] pos) (TB X.K CA m) := by
  have w : ∀ σ H Q, TV X.K CA m σ H Q → tOp r (TV X.K CA ma) (TV X.K CA mb) σ H Q := fun σ H Q h => by
    refine tvTwoD (k := fun x y => (cmpD o x y).map PyData.bool) (fun ρ st => ?_) h fun F φ st H u w x y z r rx ry e q => ?_
    · rw [hm]
      simp only [Option.map_map]
      rfl
    · obtain ⟨b', e1, rfl⟩ := Option.map_eq_some_iff.mp e
      exact hok F φ st H u w x y b' Q r rx ry e1 q
  exact ⟨peWeak (pe_cmpR ho ha hb hb') w, tbOfT (pt_cmpR ho ha hb hb') w⟩
/-- the parts of a chain: data -/
theorem pvChn {op op' : CmpOp} {r r' : R2} {o o' : Cop} {m : Mv} (hm : ∀ ρ st, m ρ st = (ma ρ st).bind fun p => (mb ρ p.2).bind fun q => (dOf p.1).bind fun x => (dOf q.1).bind fun y => (cmpD o x y).bind fun k =>
      if k then (mc ρ q.2).bind fun s => (dOf s.1).bind fun z => (cmpD o' y z).map fun k' => (.d (.bool k'), s.2) else some (.d (.bool false), q.2)) (ho : OpR X (compareOp op) r) (ho' : OpR X (compareOp op') r')
    (hok : ∀ F φ st H u w x y z Q, R X.K CA F φ st H → Rt X.K F H u x → Rt X.K F H w y → cmpD o x y = some z → PostD X.K CA F φ st H (.bool z) Q → r u w H Q)
    (hok' : ∀ F φ st H u w x y z Q, R X.K CA F φ st H → Rt X.K F H u x → Rt X.K F H w y → cmpD o' x y = some z → PostD X.K CA F φ st H (.bool z) Q → r' u w H Q)
    (ha : PE X a (TV X.K CA ma)) (hb : PE X b (TV X.K CA mb)) (hc : PE X c (TV X.K CA mc)) (h2 : behindInMarks op' c = false) :
    PE X (.Compare a [op, op'] [b, c] pos) (TV X.K CA m) ∧ PT X (.Compare a [op, op'] [b, c] pos) (TB X.K CA m) := by
  have w : ∀ σ H Q, TV X.K CA m σ H Q → tChain r r' (TV X.K CA ma) (TV X.K CA mb) (TV X.K CA mc) σ H Q := fun σ H Q h => by
    obtain ⟨F, φ, st, ρ, x, st', rr, re, e, q⟩ := h
    rw [hm] at e
    obtain ⟨⟨v1, st1⟩, e1, e⟩ := Option.bind_eq_some_iff.mp e
    obtain ⟨⟨v2, st2⟩, e2, e⟩ := Option.bind_eq_some_iff.mp e
    obtain ⟨x1, e3, e⟩ := Option.bind_eq_some_iff.mp e
    obtain ⟨y1, e4, e⟩ := Option.bind_eq_some_iff.mp e
    obtain ⟨k, e5, e⟩ := Option.bind_eq_some_iff.mp e
    cases v1 with
    | r n => cases e3
    | f n a => cases e3
    | s ns => cases e3
    | d x1' =>
    cases e3
    cases v2 with
    | r n => cases e4
    | f n a => cases e4
    | s ns => cases e4
    | d y1' =>
    cases e4
    refine ⟨F, φ, st, ρ, _, st1, rr, re, e1, fun F1 φ1 H1 u1 n1 rv1 => ?_⟩
    refine ⟨F1, φ1, st1, ρ, _, st2, n1.r, re.le n1.le n1.gr, e2, fun F2 φ2 H2 u2 n2 rv2 => ?_⟩
    have p1 : Rp X.K F1 u1 x1 := rv1
    have p2 : Rp X.K F2 u2 y1 := rv2
    refine hok F2 φ2 st2 H2 u1 u2 x1 y1 k _ n2.r (Rp.rt n2.r.sub (p1.le n2.le)) (Rp.rt n2.r.sub p2) e5 fun F3 H3 v n3 rv3 => ?_
    cases rv3
    refine ⟨k, rfl, ?_⟩
    have n123 := (n1.trans n2).trans n3
    cases k with
    | false =>
      cases e
      exact iteF (q _ _ _ _ n123 (.bl _))
    | true =>
      refine iteT ?_
      obtain ⟨⟨v3, st3⟩, e6, e⟩ := Option.bind_eq_some_iff.mp (show (mc ρ st2).bind _ = _ from e)
      obtain ⟨z1, e7, e⟩ := Option.bind_eq_some_iff.mp e
      obtain ⟨k', e8, e9⟩ := Option.map_eq_some_iff.mp e
      cases e9
      cases v3 with
      | r n => cases e7
      | f n a => cases e7
      | s ns => cases e7
      | d z1' =>
      cases e7
      refine ⟨F3, _, st2, ρ, _, st3, n3.r, re.le n123.le n123.gr, e6, fun F4 φ4 H4 u4 n4 rv4 => ?_⟩
      have p4 : Rp X.K F4 u4 z1 := rv4
      refine hok' F4 φ4 st3 H4 u2 u4 y1 z1 k' _ n4.r (Rp.rt n4.r.sub (p2.le (n3.le.trans n4.le))) (Rp.rt n4.r.sub p4) e8 fun F5 H5 v n5 rv5 => ?_
      exact q _ _ _ _ ((n123.trans n4).trans n5) rv5
  exact ⟨peWeak (pe_chain ho ho' ha hb hc (show lastMarks [op, op'] [b, c] = false from h2)) w, tbOfT (pt_chain ho ho' ha hb hc (show lastMarks [op, op'] [b, c] = false from h2)) w⟩
end
end Tw
set_option Elab.async false
set_option linter.all false
set_option maxRecDepth 100000
set_option maxHeartbeats 4000000
/-! C4b: the expressions' rules, further. -/
namespace Tw
open PySem L2
section
variable {X : Cx} {CA : CAT} {a b c : Expr} {pos : Pos} {ma mb mc mr : Mv}

theorem intOf_eq {v : Vl} {i : Int} (h : intOf v = some i) : v = .d (.int i) := by
  unfold intOf at h
  split at h
  · cases h; rfl
  · cases h
theorem boolOf_eq {v : Vl} {i : Bool} (h : boolOf v = some i) : v = .d (.bool i) := by
  unfold boolOf at h
  split at h
  · cases h; rfl
  · cases h
theorem dOf_eq {v : Vl} {x : PyData} (h : dOf v = some x) : v = .d x := by
  unfold dOf at h
  split at h
  · cases h; rfl
  · cases h
/-! ### is None -/
theorem pvIsn {p : Bool} {m : Mv} {j : Nat} {pos' : Pos} (hm : ∀ ρ st, m ρ st = (ma ρ st).map fun q => (.d (.bool (match q.1 with | .d .none => p | _ => !p)), q.2)) (ha : PE X a (TV X.K CA ma)) :
    PE X (.Compare a [if p then .Is else .IsNot] [.Constant .none j pos'] pos) (TV X.K CA m) ∧ PT X (.Compare a [if p then .Is else .IsNot] [.Constant .none j pos'] pos) (TB X.K CA m) := by
  have key : ∀ F φ u v, RV X.K F φ u v → (if p then decide (u = V.non) else !decide (u = V.non)) = (match v with | .d .none => p | _ => !p) := fun F φ u v rv => by
    cases v with
    | d x =>
      have rv' : Rp X.K F u x := rv
      cases rv' <;> cases p <;> rfl
    | r n => obtain ⟨q, _, rfl⟩ := rv; cases p <;> rfl
    | f n s => obtain ⟨q, b, _, _, rfl⟩ := rv; cases p <;> rfl
    | s ns => obtain ⟨b, rfl, _⟩ := rv; cases p <;> rfl
  have w : ∀ σ H Q, TV X.K CA m σ H Q → (if p then tIsN (TV X.K CA ma) else tNotN (TV X.K CA ma)) σ H Q := fun σ H Q ⟨F, φ, st, ρ, x, st', r, re, e, q⟩ => by
    rw [hm] at e
    obtain ⟨⟨v1, st1⟩, e1, e2⟩ := Option.map_eq_some_iff.mp e
    cases e2
    cases p
    · refine ⟨F, φ, st, ρ, v1, st1, r, re, e1, fun F1 φ1 H1 u1 n1 rv1 => ?_⟩
      have k := key F1 φ1 u1 v1 rv1
      have k' : (!decide (u1 = V.non)) = _ := k
      show Q (V.bl (!decide (u1 = V.non))) H1
      rw [k']
      exact q _ _ _ _ n1 (.bl _)
    · refine ⟨F, φ, st, ρ, v1, st1, r, re, e1, fun F1 φ1 H1 u1 n1 rv1 => ?_⟩
      have k := key F1 φ1 u1 v1 rv1
      have k' : decide (u1 = V.non) = _ := k
      show Q (V.bl (decide (u1 = V.non))) H1
      rw [k']
      exact q _ _ _ _ n1 (.bl _)
  cases p
  · exact ⟨peWeak (pe_cmp (pc_notN ha)) w, tbOfT (pt_cmp (pc_notN ha)) w⟩
  · exact ⟨peWeak (pe_cmp (pc_isN ha)) w, tbOfT (pt_cmp (pc_isN ha)) w⟩
/-! ### subscripts -/
theorem scr_rep {K : PySem.W.Frag} {F H : Hp} {φ : List FP} {st : Sto} {u : V} {v : Vl} {ns : List Int} (r : R K CA F φ st H) (rv : RV K F φ u v) (e : scrOf v = some ns) : ∃ q, u = .ref q ∧ SqL K H q (ns.map V.int) := by
  cases v with
  | d x => cases e
  | f n s => cases e
  | r n => cases e
  | s ns' =>
    cases e
    obtain ⟨q, rfl, h⟩ := rv
    exact ⟨q, rfl, SqL.le r.sub h⟩
theorem pvIx {m : Mv} (hm : ∀ ρ st, m ρ st = (ma ρ st).bind fun p => (mb ρ p.2).bind fun q => ixS p.1 q.1 q.2) (hu : X.A.units + 1 < cLine) (ha : PE X a (TV X.K CA ma)) (hb : PE X b (TV X.K CA mb)) (hs : ∀ o i, subscripted b false o i = operate [o, i] (getItem o i)) :
    PE X (.Subscript a b pos) (TV X.K CA m) := by
  refine peWeak (peOr (pe_ix ix_seq ha hb hs) (pe_dget hu ha hb hs)) fun σ H Q h => ?_
  obtain ⟨F, φ, st, ρ, x, st', r, re, e, q⟩ := h
  have e0 := e
  rw [hm] at e
  obtain ⟨⟨v1, st1⟩, e1, e⟩ := Option.bind_eq_some_iff.mp e
  obtain ⟨⟨v2, st2⟩, e2, e⟩ := Option.bind_eq_some_iff.mp e
  have h0 : TV X.K CA m σ H Q := ⟨F, φ, st, ρ, x, st', r, re, e0, q⟩
  by_cases hd : ∃ kvs, scrOf v1 = none ∧ dat st2 v1 = some (.dict kvs)
  · refine .inr ?_
    obtain ⟨kvs, hs1, hd⟩ := hd
    refine ⟨F, φ, st, ρ, v1, st1, r, re, e1, fun F1 φ1 H1 u1 n1 rv1 => ?_⟩
    refine ⟨F1, φ1, st1, ρ, v2, st2, n1.r, re.le n1.le n1.gr, e2, fun F2 φ2 H2 u2 n2 rv2 => ?_⟩
    unfold ixS at e
    dsimp only at e
    rw [hs1, hd] at e
    obtain ⟨y, e3, e⟩ := Option.bind_eq_some_iff.mp (show (dat st2 v2).bind _ = _ from e)
    obtain ⟨z, e4, e5⟩ := Option.map_eq_some_iff.mp e
    cases e5
    have t1 := n2.r.reads (rv1.le n2.le n2.gr) hd
    have t2 := n2.r.reads rv2 e3
    cases y with
    | str k =>
      obtain ⟨qs, e6, e7⟩ := Option.bind_eq_some_iff.mp (show (toKv kvs).bind (fun q => lookD q k) = some z from e4)
      have t2' : Rp X.K F2 u2 (.str k) := t2
      cases t2'
      obtain ⟨a1, ks, rfl, g1, g2, g3⟩ := dget_ok (k := k) t1 e6
      rcases g3 with ⟨g4, _⟩ | ⟨w, y, g4, g5, g6⟩
      · rw [g4] at e7; cases e7
      · rw [g4] at e7
        cases e7
        rw [g5] at g2
        exact ⟨a1, w, rfl, g2, q _ _ _ _ (n1.trans n2) g6⟩
    | _ => cases e4
  · refine .inl ⟨F, φ, st, ρ, v1, st1, r, re, e1, fun F1 φ1 H1 u1 n1 rv1 => ?_⟩
    refine ⟨F1, φ1, st1, ρ, v2, st2, n1.r, re.le n1.le n1.gr, e2, fun F2 φ2 H2 u2 n2 rv2 => ?_⟩
    have rv1' := rv1.le n2.le n2.gr
    unfold ixS at e
    dsimp only at e
    cases hs1 : scrOf v1 with
    | some ns =>
      rw [hs1] at e
      dsimp only at e
      obtain ⟨p, rfl, sq⟩ := scr_rep n2.r rv1' hs1
      cases v2 with
      | d y =>
        cases y with
        | int k =>
          obtain ⟨n, e3, e4⟩ := Option.map_eq_some_iff.mp (show (atI ns k).map _ = _ from e)
          cases e4
          have rv2' : Rp X.K F2 u2 (.int k) := rv2
          cases rv2'
          have e5 : atI (ns.map V.int) k = some (.int n) := by
            unfold atI at e3 ⊢
            rw [List.length_map]
            cases hj : ixN ns.length k with
            | none => rw [hj] at e3; cases e3
            | some j =>
              rw [hj] at e3
              have e6 : ns[j]? = some n := e3
              show (ns.map V.int)[j]? = _
              rw [List.getElem?_map, e6]; rfl
          exact .inl ⟨p, _, k, _, rfl, rfl, sq, e5, q _ _ _ _ (n1.trans n2) (.int _)⟩
        | _ => cases e
      | r n => cases e
      | f n s => cases e
      | s ns => cases e
    | none =>
      rw [hs1] at e
      obtain ⟨x1, e3, e⟩ := Option.bind_eq_some_iff.mp (show (dat st2 v1).bind _ = _ from e)
      obtain ⟨y1, e4, e⟩ := Option.bind_eq_some_iff.mp e
      obtain ⟨z, e5, e6⟩ := Option.map_eq_some_iff.mp e
      cases e6
      refine ix_ok n2.r (n2.r.reads rv1' e3) (n2.r.reads rv2 e4) (fun kvs hk => hd ⟨kvs, hs1, by rw [e3, hk]⟩) e5 fun F3 H3 v n3 rv => ?_
      exact q _ _ _ _ ((n1.trans n2).trans n3) rv
/-! ### slices -/
theorem poWeak {e : Option Expr} {t t' : TO} (h : PO X e t) (w : ∀ σ H Q, t' σ H Q → t σ H Q) : PO X e t' := ⟨fun pins s σ H Q I q => h.run pins s σ H Q I (w σ H Q q)⟩
theorem poNone {m : En → Sto → Option (Option Int × Sto)} (hm : ∀ ρ st, m ρ st = some (none, st)) : PO X none (TOo X.K CA m) :=
  poWeak po_none fun σ H Q ⟨F, φ, st, ρ, o, st', r, re, e, q⟩ => by
    rw [hm] at e; cases e
    exact q _ _ _ r.nx
theorem poSome {m : En → Sto → Option (Option Int × Sto)} (hm : ∀ ρ st, m ρ st = (ma ρ st).bind fun p => (intOf p.1).map fun i => (some i, p.2)) (ha : PE X a (TV X.K CA ma)) : PO X (some a) (TOo X.K CA m) :=
  poWeak (po_some ha) fun σ H Q ⟨F, φ, st, ρ, o, st', r, re, e, q⟩ => by
    rw [hm] at e
    obtain ⟨⟨v1, st1⟩, e1, e⟩ := Option.bind_eq_some_iff.mp e
    obtain ⟨i, e2, e3⟩ := Option.map_eq_some_iff.mp e
    cases e3
    refine ⟨F, φ, st, ρ, v1, st1, r, re, e1, fun F1 φ1 H1 u1 n1 rv1 => ?_⟩
    have hv : v1 = .d (.int i) := intOf_eq e2
    subst hv
    have rv' : Rp X.K F1 u1 (.int _) := rv1
    cases rv'
    exact ⟨_, rfl, q _ _ _ n1⟩
theorem pvSl {lo hi : Option Expr} {p2 : Pos} {ml mh : En → Sto → Option (Option Int × Sto)} {m : Mv} (hm : ∀ ρ st, m ρ st = (ma ρ st).bind fun p => (ml ρ p.2).bind fun q => (mh ρ q.2).bind fun s => (dat s.2 p.1).bind fun x => (slD x q.1 s.1).map fun z => (.d z, s.2))
    (ha : PE X a (TV X.K CA ma)) (hl : PO X lo (TOo X.K CA ml)) (hh : PO X hi (TOo X.K CA mh)) : PE X (.Subscript a (.Slice lo hi none p2) pos) (TV X.K CA m) :=
  peWeak (pe_slice sl_B ha hl hh) fun σ H Q ⟨F, φ, st, ρ, x, st', r, re, e, q⟩ => by
    rw [hm] at e
    obtain ⟨⟨v1, st1⟩, e1, e⟩ := Option.bind_eq_some_iff.mp e
    obtain ⟨⟨o1, st2⟩, e2, e⟩ := Option.bind_eq_some_iff.mp e
    obtain ⟨⟨o2, st3⟩, e3, e⟩ := Option.bind_eq_some_iff.mp e
    obtain ⟨x1, e4, e⟩ := Option.bind_eq_some_iff.mp e
    obtain ⟨z, e5, e6⟩ := Option.map_eq_some_iff.mp e
    cases e6
    refine ⟨F, φ, st, ρ, v1, st1, r, re, e1, fun F1 φ1 H1 u1 n1 rv1 => ?_⟩
    refine ⟨F1, φ1, st1, ρ, o1, st2, n1.r, re.le n1.le n1.gr, e2, fun F2 φ2 H2 n2 => ?_⟩
    have n12 := n1.trans n2
    refine ⟨F2, φ2, st2, ρ, o2, st3, n2.r, re.le n12.le n12.gr, e3, fun F3 φ3 H3 n3 => ?_⟩
    have n23 := n2.trans n3
    refine sl_ok n3.r (n3.r.reads (rv1.le n23.le n23.gr) e4) e5 fun F4 H4 v n4 rv => ?_
    exact q _ _ _ _ ((n12.trans n3).trans n4) rv
theorem pvRev {p1 p2 p3 : Pos} {kk : Nat} {m : Mv} (hm : ∀ ρ st, m ρ st = (ma ρ st).bind fun p => match p.1 with
    | .d (.tuple xs) => some (.d (.tuple xs.reverse), p.2)
    | _ => none) (ha : PE X a (TV X.K CA ma)) : PE X (.Subscript a (.Slice none none (some (.UnaryOp .USub (.Constant (.int 1) kk p1) p2)) p3) pos) (TV X.K CA m) :=
  peWeak (pe_revT ha) fun σ H Q ⟨F, φ, st, ρ, x, st', r, re, e, q⟩ => by
    rw [hm] at e
    obtain ⟨⟨v1, st1⟩, e1, e⟩ := Option.bind_eq_some_iff.mp e
    dsimp only at e
    split at e
    · rename_i xs
      cases e
      refine ⟨F, φ, st, ρ, _, _, r, re, e1, fun F1 φ1 H1 u1 n1 rv1 => ?_⟩
      obtain ⟨b, vs, rfl, h1, h2, h3, h4⟩ := Rt.tup n1.r (show Rt X.K F1 H1 u1 (.tuple xs) from rv1)
      refine ⟨b, vs, rfl, h1, fun p hp => ?_⟩
      have n2 := n1.r.nxData hp (.tup vs.reverse)
      exact q _ _ _ _ (n1.trans n2) (.tup (SqT.of upd_same) (by rw [List.length_reverse]; exact h2) (h3.rev.le n2.le))
    · cases e
/-! ### built-ins -/
theorem isiBoot {t : String} (h : isiT t = true) : bootBuiltins (Str.ofString t) = some (.type t) := by
  simp only [isiT, Bool.or_eq_true, beq_iff_eq] at h
  rcases h with (((h | h) | h) | h) | h <;> subst h
  · exact PyProof.Rows.boot_tuple
  · exact PyProof.Rows.boot_str
  · exact PyProof.Rows.boot_int
  · exact PyProof.Rows.boot_bool
  · exact PyProof.Rows.boot_list
theorem isiNames {t : String} (h : isiT t = true) : Str.ofString t ≠ Str.ofString "__name__" ∧ (Str.ofString t == Str.ofString "__debug__") = false := by
  simp only [isiT, Bool.or_eq_true, beq_iff_eq] at h
  rcases h with (((h | h) | h) | h) | h <;> subst h <;> decide +kernel
theorem pvIsi {t : String} {m : Mv} {p p1 : Pos} (hm : ∀ ρ st, m ρ st = (ma ρ st).bind fun p => (dOf p.1).map fun x => (.d (.bool (isiD t x)), p.2)) (ht : isiT t = true) (ha : PE X a (TV X.K CA ma))
    (hg : Gl X "isinstance") (hn : X.mg "isinstance" = none) (hgt : Gl X (Str.ofString t)) (hnt : X.mg (Str.ofString t) = none) (hs : ∀ es, starEach (a :: es) X.env = (false, eval a X.env) :: starEach es X.env) :
    PE X (.Call (.Name "isinstance" p) [a, .Name (Str.ofString t) p1] [] pos) (TV X.K CA m) := by
  have hb := pe_bltn (pos := p1) (v := .ty t) hgt hnt (isiBoot ht) rfl (isiNames ht).1 (isiNames ht).2
  refine peWeak (pe_callB call_isi hg hn PyProof.Rows.boot_isinstance (pa_cons ha (pa_cons hb pa_nil) (hs _)) (by decide) (by decide) (hs _) (by rfl)) fun σ H Q h => ?_
  refine tvOne (k := fun v st => (dOf v).map fun x => (.d (.bool (isiD t x)), st)) hm h fun F φ st H u v x st' r rv e q => ?_
  obtain ⟨y, e1, e2⟩ := Option.map_eq_some_iff.mp e
  cases e2
  cases v with
  | d y' => cases e1; exact isi_ok ht r rv (PostV.data q)
  | r n => cases e1
  | f n s => cases e1
  | s ns => cases e1
theorem pvFnB {x : Str} {id : String} {rr : List V → Hp → VK → Prop} {k : Vl → Sto → Option (Vl × Sto)} {m : Mv} {p : Pos} (hm : ∀ ρ st, m ρ st = (ma ρ st).bind fun p => k p.1 p.2) (hc : CallR X (.builtin id) rr) (hv : bootBuiltins x = some (.builtin id))
    (hok : ∀ F φ st H u v z st' Q, R X.K CA F φ st H → RV X.K F φ u v → k v st = some (z, st') → PostV X.K CA F φ H z st' Q → rr [u] H Q) (ha : PE X a (TV X.K CA ma)) (hg : Gl X x) (hn : X.mg x = none) (h1 : x ≠ "__name__") (h2 : (x == ("__debug__" : Str)) = false)
    (hs : ∀ es, starEach (a :: es) X.env = (false, eval a X.env) :: starEach es X.env) : PE X (.Call (.Name x p) [a] [] pos) (TV X.K CA m) :=
  peWeak (pe_callB hc hg hn hv (pa_cons ha pa_nil (hs _)) h1 h2 (hs _) (by rfl)) fun σ H Q h => tvOne hm h fun F φ st H u v z st' r rv e q => hok F φ st H u v z st' Q r rv e q
theorem pvFnT {x : Str} {id : String} {rr : List V → Hp → VK → Prop} {k : Vl → Sto → Option (Vl × Sto)} {m : Mv} {p : Pos} (hm : ∀ ρ st, m ρ st = (ma ρ st).bind fun p => k p.1 p.2) (hc : CallR X (.type id) rr) (hv : bootBuiltins x = some (.type id))
    (hok : ∀ F φ st H u v z st' Q, R X.K CA F φ st H → RV X.K F φ u v → k v st = some (z, st') → PostV X.K CA F φ H z st' Q → rr [u] H Q) (ha : PE X a (TV X.K CA ma)) (hg : Gl X x) (hn : X.mg x = none) (h1 : x ≠ "__name__") (h2 : (x == ("__debug__" : Str)) = false)
    (hs : ∀ es, starEach (a :: es) X.env = (false, eval a X.env) :: starEach es X.env) : PE X (.Call (.Name x p) [a] [] pos) (TV X.K CA m) :=
  peWeak (pe_callTy hc hg hn hv (pa_cons ha pa_nil (hs _)) h1 h2 (hs _) (by rfl)) fun σ H Q h => tvOne hm h fun F φ st H u v z st' r rv e q => hok F φ st H u v z st' Q r rv e q
/-- what is read and handed on -/
theorem rdOk {K : PySem.W.Frag} {F H : Hp} {φ : List FP} {st st' : Sto} {u : V} {v z : Vl} {g : PyData → Option PyData} {Q : VK} {T : Prop} (r : R K CA F φ st H) (rv : RV K F φ u v) (e : ((dat st v).bind fun x => (g x).map fun y => ((.d y : Vl), st)) = some (z, st')) (q : PostV K CA F φ H z st' Q)
    (h : ∀ x y, Rt K F H u x → g x = some y → PostD K CA F φ st H y Q → T) : T := by
  obtain ⟨x, e1, e⟩ := Option.bind_eq_some_iff.mp e
  obtain ⟨y, e2, e3⟩ := Option.map_eq_some_iff.mp e
  cases e3
  exact h x y (r.reads rv e1) e2 (PostV.data q)
theorem fn1S_read {f : F1} {v : Vl} {st : Sto} (h : f ≠ .len) : fn1S f v st = (dat st v).bind fun x => (fn1D f x).map fun z => (.d z, st) := by
  unfold fn1S
  cases f <;> first | rfl | exact absurd rfl h
theorem lenOk {K : PySem.W.Frag} {F H : Hp} {φ : List FP} {st st' : Sto} {u : V} {v z : Vl} {Q : VK} (r : R K CA F φ st H) (rv : RV K F φ u v) (e : fn1S .len v st = some (z, st')) (q : PostV K CA F φ H z st' Q) : ∃ y n, [u] = [y] ∧ LenV K y H n ∧ Q (.int (n : Nat)) H := by
  unfold fn1S at e
  cases hs : scrOf v with
  | some ns =>
    rw [hs] at e
    cases e
    obtain ⟨p, rfl, sq⟩ := scr_rep r rv hs
    exact ⟨_, ns.length, rfl, .inl ⟨_, sq, (List.length_map ..).symm⟩, (PostV.data q).self r (.int _)⟩
  | none =>
    rw [hs] at e
    exact rdOk r rv e q fun x y rx e1 q1 => len_ok r rx e1 q1
/-! ### and, or, not -/
theorem pvOne {op : BoolOp} (ha : PE X a (TV X.K CA ma)) (ht : PT X a (TB X.K CA ma)) : PE X (.BoolOp op [a] pos) (TV X.K CA ma) ∧ PW X (.BoolOp op [a] pos) (TB X.K CA ma) := by
  refine ⟨pe_one ha, ?_⟩
  cases op
  · exact pw_and1 ht
  · exact pw_or1 ht
theorem pvAnd {rest : List Expr} {m : Mv} (hm : ∀ ρ st, m ρ st = (ma ρ st).bind fun p => (boolOf p.1).bind fun k => if k then mr ρ p.2 else some (.d (.bool false), p.2)) (ha : PE X a (TV X.K CA ma)) (ht : PT X a (TB X.K CA ma))
    (hr : PE X (.BoolOp .And (b :: rest) pos) (TV X.K CA mr) ∧ PW X (.BoolOp .And (b :: rest) pos) (TB X.K CA mr)) : PE X (.BoolOp .And (a :: b :: rest) pos) (TV X.K CA m) ∧ PW X (.BoolOp .And (a :: b :: rest) pos) (TB X.K CA m) := by
  refine ⟨peWeak (pe_and ha hr.1) fun σ H Q ⟨F, φ, st, ρ, x, st', r, re, e, q⟩ => ?_, pwWeak (pw_and ht hr.2) fun σ H Q ⟨F, φ, st, ρ, x, st', r, re, e, q⟩ => ?_⟩
  all_goals
    rw [hm] at e
    obtain ⟨⟨v1, st1⟩, e1, e⟩ := Option.bind_eq_some_iff.mp e
    obtain ⟨k, e2, e⟩ := Option.bind_eq_some_iff.mp e
    have hv : v1 = .d (.bool k) := boolOf_eq e2
    subst hv
  · refine ⟨F, φ, st, ρ, _, st1, r, re, e1, fun F1 φ1 H1 u1 n1 rv1 => ?_⟩
    have rv' : Rp X.K F1 u1 (.bool k) := rv1
    cases rv'
    refine ⟨k, rfl, ?_⟩
    cases k with
    | true => exact iteT ⟨F1, φ1, st1, ρ, x, st', n1.r, re.le n1.le n1.gr, e, fun F2 φ2 H2 v n2 rv => q _ _ _ _ (n1.trans n2) rv⟩
    | false => cases e; exact iteF (q _ _ _ _ n1 (.bl _))
  · refine ⟨F, φ, st, ρ, k, st1, r, re, e1, fun F1 φ1 H1 n1 => ?_⟩
    cases k with
    | true => exact iteT ⟨F1, φ1, st1, ρ, x, st', n1.r, re.le n1.le n1.gr, e, fun F2 φ2 H2 n2 => q _ _ _ (n1.trans n2)⟩
    | false => cases e; exact iteF (q _ _ _ n1)
theorem pvOr {rest : List Expr} {m : Mv} (hm : ∀ ρ st, m ρ st = (ma ρ st).bind fun p => (boolOf p.1).bind fun k => if k then some (.d (.bool true), p.2) else mr ρ p.2) (ha : PE X a (TV X.K CA ma)) (ht : PT X a (TB X.K CA ma))
    (hr : PE X (.BoolOp .Or (b :: rest) pos) (TV X.K CA mr) ∧ PW X (.BoolOp .Or (b :: rest) pos) (TB X.K CA mr)) : PE X (.BoolOp .Or (a :: b :: rest) pos) (TV X.K CA m) ∧ PW X (.BoolOp .Or (a :: b :: rest) pos) (TB X.K CA m) := by
  refine ⟨peWeak (pe_or ha hr.1) fun σ H Q ⟨F, φ, st, ρ, x, st', r, re, e, q⟩ => ?_, pwWeak (pw_or ht hr.2) fun σ H Q ⟨F, φ, st, ρ, x, st', r, re, e, q⟩ => ?_⟩
  all_goals
    rw [hm] at e
    obtain ⟨⟨v1, st1⟩, e1, e⟩ := Option.bind_eq_some_iff.mp e
    obtain ⟨k, e2, e⟩ := Option.bind_eq_some_iff.mp e
    have hv : v1 = .d (.bool k) := boolOf_eq e2
    subst hv
  · refine ⟨F, φ, st, ρ, _, st1, r, re, e1, fun F1 φ1 H1 u1 n1 rv1 => ?_⟩
    have rv' : Rp X.K F1 u1 (.bool k) := rv1
    cases rv'
    refine ⟨k, rfl, ?_⟩
    cases k with
    | false => exact iteF ⟨F1, φ1, st1, ρ, x, st', n1.r, re.le n1.le n1.gr, e, fun F2 φ2 H2 v n2 rv => q _ _ _ _ (n1.trans n2) rv⟩
    | true => cases e; exact iteT (q _ _ _ _ n1 (.bl _))
  · refine ⟨F, φ, st, ρ, k, st1, r, re, e1, fun F1 φ1 H1 n1 => ?_⟩
    cases k with
    | false => exact iteF ⟨F1, φ1, st1, ρ, x, st', n1.r, re.le n1.le n1.gr, e, fun F2 φ2 H2 n2 => q _ _ _ (n1.trans n2)⟩
    | true => cases e; exact iteT (q _ _ _ n1)
theorem pvNot {m : Mv} (hm : ∀ ρ st, m ρ st = (ma ρ st).bind fun p => (boolOf p.1).map fun k => (.d (.bool (!k)), p.2)) (ha : PE X a (TV X.K CA ma)) (ht : PT X a (TB X.K CA ma)) : PE X (.UnaryOp .Not a pos) (TV X.K CA m) ∧ PT X (.UnaryOp .Not a pos) (TB X.K CA m) := by
  refine ⟨peWeak (pe_not ha) fun σ H Q ⟨F, φ, st, ρ, x, st', r, re, e, q⟩ => ?_, ptWeak (pt_not ht) fun σ H Q ⟨F, φ, st, ρ, x, st', r, re, e, q⟩ => ?_⟩
  all_goals
    rw [hm] at e
    obtain ⟨⟨v1, st1⟩, e1, e⟩ := Option.bind_eq_some_iff.mp e
    obtain ⟨k, e2, e3⟩ := Option.map_eq_some_iff.mp e
    have hv : v1 = .d (.bool k) := boolOf_eq e2
    subst hv
    cases e3
  · refine ⟨F, φ, st, ρ, _, st1, r, re, e1, fun F1 φ1 H1 u1 n1 rv1 => ?_⟩
    have rv' : Rp X.K F1 u1 (.bool k) := rv1
    cases rv'
    exact ⟨k, rfl, q _ _ _ _ n1 (.bl _)⟩
  · exact ⟨F, φ, st, ρ, k, st1, r, re, e1, fun F1 φ1 H1 n1 => q _ _ _ n1⟩
/-! ### methods of lists and texts -/
/-- o.m(e): what holds of the receiver, then the argument -/
theorem tvMt {K : PySem.W.Frag} {m : Mv} {g : Vl → Sto → Bool} {k : Vl → Vl → Sto → Option (Vl × Sto)} (hm : ∀ ρ st, m ρ st = (ma ρ st).bind fun p => if g p.1 p.2 then (mb ρ p.2).bind fun q => k p.1 q.1 q.2 else none) {σ : L2.St} {H : Hp} {Q : VK} (h : TV K CA m σ H Q)
    {B : V → Hp → Prop} {T : V → V → Hp → Prop} (hB : ∀ F φ st H u v, R K CA F φ st H → RV K F φ u v → g v st = true → B u H)
    (ht : ∀ F φ st H u w v v' x st', R K CA F φ st H → RV K F φ u v → RV K F φ w v' → k v v' st = some (x, st') → PostV K CA F φ H x st' Q → T u w H) : TV K CA ma σ H fun u H1 => B u H1 ∧ TV K CA mb σ H1 fun w H2 => T u w H2 := by
  obtain ⟨F, φ, st, ρ, x, st', r, re, e, q⟩ := h
  rw [hm] at e
  obtain ⟨⟨v1, st1⟩, e1, e⟩ := Option.bind_eq_some_iff.mp e
  split at e
  · rename_i hg
    obtain ⟨⟨v2, st2⟩, e2, e⟩ := Option.bind_eq_some_iff.mp e
    refine ⟨F, φ, st, ρ, v1, st1, r, re, e1, fun F1 φ1 H1 u1 n1 rv1 => ⟨hB F1 φ1 st1 H1 u1 v1 n1.r rv1 hg, ?_⟩⟩
    refine ⟨F1, φ1, st1, ρ, v2, st2, n1.r, re.le n1.le n1.gr, e2, fun F2 φ2 H2 u2 n2 rv2 => ?_⟩
    exact ht F2 φ2 st2 H2 u1 u2 v1 v2 x st' n2.r (rv1.le n2.le n2.gr) rv2 e fun F3 φ3 H3 v n3 rv => q _ _ _ _ ((n1.trans n2).trans n3) rv
  · cases e
theorem pvMtL {name : Str} {T id : String} {rr : V → List V → Hp → VK → Prop} {g : Vl → Sto → Bool} {k : Vl → Vl → Sto → Option (Vl × Sto)} {m : Mv} {apos : Pos} (hm : ∀ ρ st, m ρ st = (ma ρ st).bind fun p => if g p.1 p.2 then (mb ρ p.2).bind fun q => k p.1 q.1 q.2 else none)
    (pa : PlainAttrs T) (slot : Slot T name id) (hty : typeOf (.builtin id) = pure (.type "method_descriptor")) (hmt : MtR X id rr) (ha : PE X a (TV X.K CA ma)) (hb : PE X b (TV X.K CA mb))
    (ht : ∀ F φ st H u v, R X.K CA F φ st H → RV X.K F φ u v → g v st = true → tyV X.K T u H)
    (hok : ∀ F φ st H u w v v' z st' Q, R X.K CA F φ st H → RV X.K F φ u v → RV X.K F φ w v' → k v v' st = some (z, st') → PostV X.K CA F φ H z st' Q → rr u [w] H Q)
    (hbase : attributeBase a name X.env (eval a X.env) = eval a X.env) (hs : ∀ es, starEach (b :: es) X.env = (false, eval b X.env) :: starEach es X.env) (hline : (apos.endLine == pos.line) = true) :
    PE X (.Call (.Attribute a name apos) [b] [] pos) (TV X.K CA m) := by
  refine peWeak (pe_bm pa slot hty hmt ha (pa_cons hb pa_nil (hs _)) hbase (by rw [hs]; rfl) hline (hs _) (by rfl)) fun σ H Q h => ?_
  exact tvMt hm h (B := fun u H1 => tyV X.K T u H1) ht fun F φ st H u w v v' x st' r rv rv' e q => hok F φ st H u w v v' x st' Q r rv rv' e q
theorem pvMtS {name : Str} {id : String} {rr : V → List V → Hp → VK → Prop} {g : Vl → Sto → Bool} {k : Vl → Vl → Sto → Option (Vl × Sto)} {m : Mv} {apos : Pos} (hm : ∀ ρ st, m ρ st = (ma ρ st).bind fun p => if g p.1 p.2 then (mb ρ p.2).bind fun q => k p.1 q.1 q.2 else none)
    (slot : Slot "str" name id) (hty : typeOf (.builtin id) = pure (.type "method_descriptor")) (hmt : MtR X id rr) (ha : PE X a (TV X.K CA ma)) (hb : PE X b (TV X.K CA mb))
    (ht : ∀ F φ st H u v, R X.K CA F φ st H → RV X.K F φ u v → g v st = true → ∃ s, u = .str s)
    (hok : ∀ F φ st H u w v v' z st' Q, R X.K CA F φ st H → RV X.K F φ u v → RV X.K F φ w v' → k v v' st = some (z, st') → PostV X.K CA F φ H z st' Q → rr u [w] H Q)
    (hbase : attributeBase a name X.env (eval a X.env) = eval a X.env) (hs : ∀ es, starEach (b :: es) X.env = (false, eval b X.env) :: starEach es X.env) (hline : (apos.endLine == pos.line) = true) :
    PE X (.Call (.Attribute a name apos) [b] [] pos) (TV X.K CA m) := by
  refine peWeak (pe_m1 slot hty hmt ha hb (hs _) hbase hline) fun σ H Q h => ?_
  exact tvMt hm h (B := fun u H1 => ∃ s, u = .str s) ht fun F φ st H u w v v' x st' r rv rv' e q => hok F φ st H u w v v' x st' Q r rv rv' e q
theorem pvMt0 {name : Str} {T id : String} {rr : V → List V → Hp → VK → Prop} {k : Vl → Sto → Option (Vl × Sto)} {m : Mv} {apos : Pos} (hm : ∀ ρ st, m ρ st = (ma ρ st).bind fun p => k p.1 p.2)
    (pa : PlainAttrs T) (slot : Slot T name id) (hty : typeOf (.builtin id) = pure (.type "method_descriptor")) (hmt : MtR X id rr) (ha : PE X a (TV X.K CA ma))
    (hok : ∀ F φ st H u v z st' Q, R X.K CA F φ st H → RV X.K F φ u v → k v st = some (z, st') → PostV X.K CA F φ H z st' Q → tyV X.K T u H ∧ rr u [] H Q)
    (hbase : attributeBase a name X.env (eval a X.env) = eval a X.env) (hline : (apos.endLine == pos.line) = true) :
    PE X (.Call (.Attribute a name apos) [] [] pos) (TV X.K CA m) :=
  peWeak (pe_bm0 pa slot hty hmt ha hbase hline) fun σ H Q h => tvOne hm h fun F φ st H u v z st' r rv e q => hok F φ st H u v z st' Q r rv e q
theorem rcvList {K : PySem.W.Frag} {F H : Hp} {φ : List FP} {st : Sto} {u : V} {v : Vl} {m : M1} (hmm : m = .app ∨ m = .ext) (r : R K CA F φ st H) (rv : RV K F φ u v) (e : rcvOk m v st = true) : tyV K "list" u H := by
  have : ∃ xs, dat st v = some (.list xs) := by
    unfold rcvOk at e
    split at e <;> first | exact ⟨_, by assumption⟩ | exact absurd e Bool.false_ne_true | (rcases hmm with h | h <;> cases h)
  obtain ⟨xs, e1⟩ := this
  obtain ⟨a, vs, rfl, h1, _⟩ := r.reads rv e1
  exact .inl ⟨rfl, vs, SqL.of h1⟩
theorem rcvStr {K : PySem.W.Frag} {F H : Hp} {φ : List FP} {st : Sto} {u : V} {v : Vl} {m : M1} (hmm : m = .join ∨ m = .starts ∨ m = .split) (r : R K CA F φ st H) (rv : RV K F φ u v) (e : rcvOk m v st = true) : ∃ s, u = .str s := by
  have : ∃ s, dat st v = some (.str s) := by
    unfold rcvOk at e
    split at e <;> first | exact ⟨_, by assumption⟩ | exact absurd e Bool.false_ne_true | (rcases hmm with h | h | h <;> cases h)
  obtain ⟨s, e1⟩ := this
  have t : Rp K F u (.str s) := r.reads rv e1
  cases t
  exact ⟨_, rfl⟩
/-- SORTS.index(x): the receiver is a tuple of the module -/
theorem pvIdx {x : Str} {v : V} {u : Value} {d : PyData} {m : Mv} {p1 apos : Pos} (hm : ∀ ρ st, m ρ st = if rcvOk .index (.d d) st then (mb ρ st).bind fun q => mt1S .index (.d d) q.1 q.2 else none) (hg : Gl X x) (hx : X.mg x = some u) (rv : RelV v u) (hr : Rp X.K (fun _ => none) v d) (hd : (x == ("__debug__" : Str)) = false) (hk : KTp X.K v)
    (hb : PE X b (TV X.K CA mb)) (hbase : attributeBase (.Name x p1) "index" X.env (eval (.Name x p1) X.env) = eval (.Name x p1) X.env) (hs : ∀ es, starEach (b :: es) X.env = (false, eval b X.env) :: starEach es X.env) (hline : (apos.endLine == pos.line) = true) :
    PE X (.Call (.Attribute (.Name x p1) "index" apos) [b] [] pos) (TV X.K CA m) := by
  refine peWeak (pe_bm PySem.F.plainAttrs_tuple PySem.F.slot_tuple_index PySem.F.type_tuple_index mt_tup_index (pe_glob hg hx rv hd) (pa_cons hb pa_nil (hs _)) hbase (by rw [hs]; rfl) hline (hs _) (by rfl)) fun σ H Q ⟨F, φ, st, ρ, y, st', r, re, e, q⟩ => ?_
  rw [hm] at e
  split at e
  · rename_i hrc
    have : ∃ ds, d = .tuple ds := by
      cases d <;> first | exact ⟨_, rfl⟩ | exact absurd hrc Bool.false_ne_true
    obtain ⟨ds, rfl⟩ := this
    have : ∃ p, v = .ref p := by cases hr; exact ⟨_, rfl⟩
    obtain ⟨p, rfl⟩ := this
    obtain ⟨⟨v2, st2⟩, e2, e⟩ := Option.bind_eq_some_iff.mp e
    refine ⟨.inr (.inl ⟨rfl, hk p rfl⟩), F, φ, st, ρ, v2, st2, r, re, e2, fun F2 φ2 H2 u2 n2 rv2 => ?_⟩
    obtain ⟨x1, e1, e⟩ := Option.bind_eq_some_iff.mp (show (dat st2 (Vl.d (PyData.tuple ds))).bind (fun x => (dat st2 v2).bind fun y => (mt1D .index x y).map fun z => (Vl.d z, st2)) = some (y, st') from e)
    obtain ⟨y1, e2, e⟩ := Option.bind_eq_some_iff.mp e
    obtain ⟨z1, e3, e4⟩ := Option.map_eq_some_iff.mp e
    cases e4
    cases e1
    have h1 : Rp X.K F2 (.ref p) (.tuple ds) := hr.le fun _ _ z => by cases z
    have h2 : Rt X.K F2 H2 (.ref p) (.tuple ds) := h1
    exact index_ok n2.r h2 (n2.r.reads rv2 e2) e3 fun F3 H3 v n3 rv => q _ _ _ _ (n2.trans n3) rv
  · cases e
/-! ### d.get(k, v) -/
theorem pvGet {m : Mv} {apos : Pos} (hm : ∀ ρ st, m ρ st = (ma ρ st).bind fun p => if isDct (dat p.2 p.1) then (mb ρ p.2).bind fun q => (mc ρ q.2).bind fun s => (dat s.2 p.1).bind fun x => getS x q.1 s.1 s.2 else none)
    (hu : X.A.units + 1 < cLine) (ha : PE X a (TV X.K CA ma)) (hb : PE X b (TV X.K CA mb)) (hc : PE X c (TV X.K CA mc)) (hM : L2.M2 X a "get" apos b c pos) : PE X (.Call (.Attribute a "get" apos) [b, c] [] pos) (TV X.K CA m) := by
  refine peWeak (pe_dget2 hu ha hb hc hM) fun σ H Q ⟨F, φ, st, ρ, x, st', r, re, e, q⟩ => ?_
  rw [hm] at e
  obtain ⟨⟨v1, st1⟩, e1, e⟩ := Option.bind_eq_some_iff.mp e
  split at e
  · rename_i hg
    obtain ⟨⟨v2, st2⟩, e2, e⟩ := Option.bind_eq_some_iff.mp e
    obtain ⟨⟨v3, st3⟩, e3, e⟩ := Option.bind_eq_some_iff.mp e
    obtain ⟨x1, e4, e⟩ := Option.bind_eq_some_iff.mp e
    dsimp only at e hg e4
    refine ⟨F, φ, st, ρ, v1, st1, r, re, e1, fun F1 φ1 H1 u1 n1 rv1 => ?_⟩
    have hd : ∃ kvs, dat st1 v1 = some (.dict kvs) := by
      unfold isDct at hg
      split at hg
      · exact ⟨_, by assumption⟩
      · cases hg
    obtain ⟨kvs0, hd⟩ := hd
    obtain ⟨a1, ks0, rfl, g1, g2⟩ := n1.r.reads rv1 hd
    refine ⟨a1, rfl, .inl ⟨ks0, g1⟩, ?_⟩
    refine ⟨F1, φ1, st1, ρ, v2, st2, n1.r, re.le n1.le n1.gr, e2, fun F2 φ2 H2 u2 n2 rv2 => ?_⟩
    have n12 := n1.trans n2
    refine ⟨F2, φ2, st2, ρ, v3, st3, n2.r, re.le n12.le n12.gr, e3, fun F3 φ3 H3 u3 n3 rv3 => ?_⟩
    have n23 := n2.trans n3
    have t1 := n3.r.reads (rv1.le n23.le n23.gr) e4
    cases x1 with
    | dict kvs =>
      cases v2 with
      | d y2 =>
        cases y2 with
        | str z =>
          cases v3 with
          | d y =>
            obtain ⟨qs, e5, e6⟩ := Option.map_eq_some_iff.mp (show (toKv kvs).map _ = _ from e)
            cases e6
            have rv2' : Rp X.K F2 u2 (.str z) := rv2
            cases rv2'
            obtain ⟨a2, ks, ea, g3, g4, g5⟩ := dget_ok (k := z) t1 e5
            cases ea
            refine ⟨_, g4, ?_⟩
            rcases g5 with ⟨g6, g7⟩ | ⟨w, y', g6, g7, g8⟩
            · rw [g7]
              rw [g6] at q
              exact q _ _ _ _ (n12.trans n3) rv3
            · rw [g7]
              rw [g6] at q
              exact q _ _ _ _ (n12.trans n3) g8
          | r n => cases e
          | f n s => cases e
          | s ns => cases e
        | _ => cases e
      | r n => cases e
      | f n s => cases e
      | s ns => cases e
    | _ => cases e
  · cases e
end
end Tw
set_option Elab.async false
set_option linter.all false
set_option maxRecDepth 100000
set_option maxHeartbeats 4000000
/-! C5: calls, comprehensions, statements. -/
namespace Tw
open PySem L2

/-- a def's promise by a call function -/
def spC (K : PySem.W.Frag) (CA : CAT) (C : CallF) (f : Nat) : Sp := fun vs H Q _ =>
  ∃ F φ st xs x st', R K CA F φ st H ∧ RVs K F φ vs xs ∧ C f xs st = some (x, st') ∧ PostV K CA F φ H (.d x) st' Q
/-- .. a new dict handed out -/
def spN (K : PySem.W.Frag) (CA : CAT) (C : CallF) (f : Nat) : Sp := fun vs H Q _ =>
  ∃ F φ st xs kvs st', R K CA F φ st H ∧ RVs K F φ vs xs ∧ C (f + 1000) xs st = some (kvD kvs, st') ∧ PostV K CA F φ H (.r st'.length) (st' ++ [.dct kvs]) Q
def spF (K : PySem.W.Frag) (CA : CAT) (C : CallF) (f : Nat) : Sp := fun vs H Q E => f < 1000 ∧ (spC K CA C f vs H Q E ∨ spN K CA C f vs H Q E)
theorem toKv_back : ∀ {kvs : List (PyData × PyData)} {q : List (Str × PyData)}, toKv kvs = some q → kvs = q.map fun p => (.str p.1, p.2)
  | [], q, h => by cases h; rfl
  | (.str k, v) :: r, q, h => by
    obtain ⟨q', e1, e2⟩ := Option.map_eq_some_iff.mp (show (toKv r).map _ = some q from h)
    subst e2
    rw [toKv_back e1]; rfl
  | (.none, _) :: _, _, h | (.bool _, _) :: _, _, h | (.int _, _) :: _, _, h | (.list _, _) :: _, _, h | (.tuple _, _) :: _, _, h | (.dict _, _) :: _, _, h => by cases h
def notStar : Expr → Bool
  | .Starred _ _ => false
  | _ => true
theorem starOne {e : Expr} {env : Env} (h : notStar e = true) (es : List Expr) : starEach (e :: es) env = (false, eval e env) :: starEach es env := by
  cases e <;> first | rfl | cases h
theorem starAny {env : Env} {pos : Pos} : ∀ {es : List Expr}, es.all notStar = true → (backTo pos (starEach es env)).any (·.1) = false
  | [], _ => rfl
  | e :: es, h => by
    rw [List.all_cons, Bool.and_eq_true] at h
    rw [starOne h.1]
    have ih := starAny (env := env) (pos := pos) h.2
    unfold backTo at ih ⊢
    rw [List.map_cons, List.any_cons, ih]
    rfl
section
variable {X : Cx} {CA : CAT} {a b c : Expr} {pos : Pos} {ma mb mc mr : Mv}
theorem pvCall {x : Str} {p : Pos} {C : CallF} {f k : Nat} {fa : Addr} {fd : FuncData} {ps : List Str} {es : List Expr} {ml : En → Sto → Option (List Vl × Sto)} {m : Mv} (hm : ∀ ρ st, m ρ st = (ml ρ st).bind fun p => (C f p.1 p.2).map fun q => (.d q.1, q.2))
    (hF : FnOk X.prog X.w X.K X.mg X.base CX0 k fa fd ps (spF X.K CA C f)) (hf : f < 1000) (hr : Room k X.A) (hg : Gl X x) (hx : X.mg x = some (.ref fa)) (hk : PySem.W.keepIn X.K (.ref fa) = true) (hb : Binds X.K fd ps []) (hd : (x == ("__debug__" : Str)) = false)
    (hA : PA X (a :: es) (TL X.K CA ml)) (hs : (a :: es).all notStar = true) : PE X (.Call (.Name x p) (a :: es) [] pos) (TV X.K CA m) := by
  rw [List.all_cons, Bool.and_eq_true] at hs
  refine peWeak (pe_call hF hr hg hx hk hb .nil pass0 hA hd (starOne hs.1 _) (starAny hs.2)) fun σ H Q ⟨F, φ, st, ρ, y, st', r, re, e, q⟩ => ?_
  rw [hm] at e
  obtain ⟨⟨vs, st1⟩, e1, e⟩ := Option.bind_eq_some_iff.mp e
  obtain ⟨⟨z, st2⟩, e2, e3⟩ := Option.map_eq_some_iff.mp e
  cases e3
  refine ⟨F, φ, st, ρ, vs, st1, r, re, e1, fun F1 φ1 H1 us n1 rv1 => ?_⟩
  show spF X.K CA C f (us ++ []) H1 Q E0
  rw [List.append_nil]
  exact ⟨hf, .inl ⟨F1, φ1, st1, vs, z, st2, n1.r, rv1, e2, fun F2 φ2 H2 v n2 rv => q _ _ _ _ (n1.trans n2) rv⟩⟩
theorem pvCalln {x : Str} {p : Pos} {C : CallF} {f k : Nat} {fa : Addr} {fd : FuncData} {ps : List Str} {es : List Expr} {ml : En → Sto → Option (List Vl × Sto)} {m : Mv} (hm : ∀ ρ st, m ρ st = (ml ρ st).bind fun p => (C (f + 1000) p.1 p.2).bind fun q => newD q.1 q.2)
    (hF : FnOk X.prog X.w X.K X.mg X.base CX0 k fa fd ps (spF X.K CA C f)) (hf : f < 1000) (hr : Room k X.A) (hg : Gl X x) (hx : X.mg x = some (.ref fa)) (hk : PySem.W.keepIn X.K (.ref fa) = true) (hb : Binds X.K fd ps []) (hd : (x == ("__debug__" : Str)) = false)
    (hA : PA X (a :: es) (TL X.K CA ml)) (hs : (a :: es).all notStar = true) : PE X (.Call (.Name x p) (a :: es) [] pos) (TV X.K CA m) := by
  rw [List.all_cons, Bool.and_eq_true] at hs
  refine peWeak (pe_call hF hr hg hx hk hb .nil pass0 hA hd (starOne hs.1 _) (starAny hs.2)) fun σ H Q ⟨F, φ, st, ρ, y, st', r, re, e, q⟩ => ?_
  rw [hm] at e
  obtain ⟨⟨vs, st1⟩, e1, e⟩ := Option.bind_eq_some_iff.mp e
  obtain ⟨⟨z, st2⟩, e2, e3⟩ := Option.bind_eq_some_iff.mp e
  refine ⟨F, φ, st, ρ, vs, st1, r, re, e1, fun F1 φ1 H1 us n1 rv1 => ?_⟩
  show spF X.K CA C f (us ++ []) H1 Q E0
  rw [List.append_nil]
  unfold newD at e3
  dsimp only at e3
  split at e3
  · rename_i kvs
    obtain ⟨qs, e4, e5⟩ := Option.map_eq_some_iff.mp e3
    cases e5
    have e6 := toKv_back e4
    subst e6
    exact ⟨hf, .inr ⟨F1, φ1, st1, vs, qs, st2, n1.r, rv1, e2, fun F2 φ2 H2 v n2 rv => q _ _ _ _ (n1.trans n2) rv⟩⟩
  · cases e3

/-! ### targets -/
theorem pgWeak {t : TG} {t' : TG} (h : PG X a t) (w : ∀ v σ H Q, t' v σ H Q → t v σ H Q) : PG X a t' := ⟨fun pins s σ H v u Q I r q => h.run pins s σ H v u Q I r (w v σ H Q q)⟩
theorem pgsWeak {es : List Expr} {t : TGs} {t' : TGs} (h : PGs X es t) (w : ∀ v σ H Q, t' v σ H Q → t v σ H Q) : PGs X es t' := ⟨fun pins s σ H v u Q I r q => h.run pins s σ H v u Q I r (w v σ H Q q)⟩
/-- the slots that are written, the others as they were -/
def Same0 (is : List Nat) (σ σ' : L2.St) : Prop := σ'.length = σ.length ∧ ∀ j, j ∉ is → σ'[j]? = σ[j]?
theorem Same0.rfl {is : List Nat} {σ : L2.St} : Same0 is σ σ := ⟨Eq.refl _, fun _ _ => Eq.refl _⟩
theorem Same0.set {is : List Nat} {σ σ' : L2.St} {i : Nat} {v : Option V} (h : Same0 is (σ.set i v) σ') : Same0 (i :: is) σ σ' :=
  ⟨by rw [h.1, List.length_set], fun j hj => by
    rw [List.mem_cons, not_or] at hj
    rw [h.2 j hj.2, List.getElem?_set_ne (Ne.symm hj.1)]⟩
def TGo (K : PySem.W.Frag) (CA : CAT) (tg : Tg) : TG := fun v σ H Q => ∃ F φ st ρ d ρ', R K CA F φ st H ∧ RE K F φ σ ρ ∧ Rp K F v d ∧ tgS tg d ρ = some ρ' ∧ ∀ σ', RE K F φ σ' ρ' → Same0 (tgIs tg) σ σ' → Q σ' H
def TGa (K : PySem.W.Frag) (CA : CAT) (is : List Nat) : TGs := fun vs σ H Q => ∃ F φ st ρ ds ρ', R K CA F φ st H ∧ RE K F φ σ ρ ∧ RpA K F vs ds ∧ setAll is ds ρ = some ρ' ∧ ∀ σ', RE K F φ σ' ρ' → Same0 is σ σ' → Q σ' H
theorem pgNm {i : Nat} {x : Str} (hN : X.N.Nodup) (hi : X.N[i]? = some x) (hx : Loc X.env.scope x) (hf : X.fn x = true ∨ X.env.scope.names.lookup x = some .local) : PG X (.Name x pos) (TGo X.K CA (.nm i)) :=
  pgWeak (pg_name hN hi hx hf) fun v σ H Q ⟨F, φ, st, ρ, d, ρ', r, re, rp, e, q⟩ => by
    cases e
    exact q _ (re.set (x := .d d) rp) (Same0.set Same0.rfl)
theorem pgaNil : PGs X [] (TGa X.K CA []) :=
  pgsWeak pgs_nil fun vs σ H Q ⟨F, φ, st, ρ, ds, ρ', r, re, rp, e, q⟩ => by
    cases ds with
    | nil => cases rp; cases e; exact ⟨rfl, q _ re Same0.rfl⟩
    | cons d ds => cases e
theorem asgEach {x : Str} {p : Pos} {es : List Expr} {env : Env} : (assignEach (.Name x p :: es) env).map (·.2) = assign (.Name x p) env :: (assignEach es env).map (·.2) := rfl
theorem pgaCons {i : Nat} {is : List Nat} {x : Str} {es : List Expr} (hN : X.N.Nodup) (hi : X.N[i]? = some x) (hx : Loc X.env.scope x) (hf : X.fn x = true ∨ X.env.scope.names.lookup x = some .local) (hr : PGs X es (TGa X.K CA is)) : PGs X (.Name x pos :: es) (TGa X.K CA (i :: is)) :=
  pgsWeak (pgs_cons (pg_name hN hi hx hf) hr asgEach) fun vs σ H Q ⟨F, φ, st, ρ, ds, ρ', r, re, rp, e, q⟩ => by
    cases ds with
    | nil => cases e
    | cons d ds =>
      cases rp with
      | cons h1 h2 =>
        refine ⟨_, _, rfl, F, φ, st, _, ds, ρ', r, re.set (x := .d d) h1, h2, e, fun σ' re' s => q _ re' (Same0.set s)⟩
def allNm : List Expr → Bool
  | [] => true
  | .Name _ _ :: es => allNm es
  | _ :: _ => false
theorem asgLen {env : Env} : ∀ {es : List Expr}, allNm es = true → (assignEach es env).length = es.length ∧ (assignEach es env).findIdx? (·.1) = none
  | [], _ => ⟨rfl, rfl⟩
  | .Name x p :: es, h => by
    obtain ⟨h1, h2⟩ := asgLen (env := env) (es := es) h
    refine ⟨?_, ?_⟩
    · show (assignEach es env).length + 1 = es.length + 1
      rw [h1]
    · show List.findIdx? (·.1) ((false, _) :: assignEach es env) = none
      rw [List.findIdx?_cons]
      simp [h2]
  | .BoolOp .. :: _, h | .NamedExpr .. :: _, h | .BinOp .. :: _, h | .UnaryOp .. :: _, h | .Lambda .. :: _, h | .IfExp .. :: _, h | .Dict .. :: _, h | .Set .. :: _, h | .ListComp .. :: _, h | .SetComp .. :: _, h | .DictComp .. :: _, h | .GeneratorExp .. :: _, h
  | .Await .. :: _, h | .Yield .. :: _, h | .YieldFrom .. :: _, h | .Compare .. :: _, h | .Call .. :: _, h | .FormattedValue .. :: _, h | .JoinedStr .. :: _, h | .Constant .. :: _, h | .Attribute .. :: _, h | .Subscript .. :: _, h | .Starred .. :: _, h
  | .List .. :: _, h | .Tuple .. :: _, h | .Slice .. :: _, h => by cases h
theorem pgTp {es : List Expr} {k : Nat} {is : List Nat} (hc : X.calm = true) (hr : PGs X es (TGa X.K CA is)) (hn : allNm es = true) (hl : es.length = is.length) : PG X (.Tuple es k pos) (TGo X.K CA (.tp is)) := by
  have hz := asgLen (env := X.env) hn
  refine pgWeak (pg_tup hc hr (n := es.length) hz.1 hz.2) fun v σ H Q ⟨F, φ, st, ρ, d, ρ', r, re, rp, e, q⟩ => ?_
  cases d with
  | tuple ds =>
    cases rp with
    | @tup a xs ds s z h =>
      have e' : setAll is ds ρ = some ρ' := e
      have hlen : ∀ (is : List Nat) (ds : List PyData) (ρ ρ' : En), setAll is ds ρ = some ρ' → ds.length = is.length := by
        intro is
        induction is with
        | nil => intro ds ρ ρ' h; cases ds with
          | nil => rfl
          | cons => cases h
        | cons i is ih => intro ds ρ ρ' h; cases ds with
          | nil => cases h
          | cons d ds => rw [List.length_cons, List.length_cons, ih ds _ _ h]
      refine ⟨a, xs, rfl, SqT.le r.sub s, ?_, F, φ, st, ρ, ds, ρ', r, re, h, e', fun σ' re' s' => q _ re' s'⟩
      rw [h.length, hlen _ _ _ _ e', hl]
  | _ => cases e

/-! ### what is walked -/
/-- ready to be walked: the items, as long as they may be asked for -/
def TIv (K : PySem.W.Frag) (CA : CAT) (m : En → Sto → Option ((List PyData × Bool) × Sto)) : TI := fun σ H Rr => ∃ F φ st ρ ds b st', R K CA F φ st H ∧ RE K F φ σ ρ ∧ m ρ st = some ((ds, b), st') ∧
  ∀ J F' φ' H', Nx K CA F φ H F' φ' st' H' → ItOk K CA (fun F2 φ2 st2 => Le F' F2 ∧ Gr φ' φ2 ∧ (b = true ∨ st2 = st')) J ds → ds.length ≤ sizeL → Rr J H'
theorem piWeak {tg iter : Expr} {w w' : TI} (h : PI X tg iter w) (q : ∀ σ H Rr, w' σ H Rr → w σ H Rr) : PI X tg iter w' := ⟨fun pins s σ H Rr I z => h.run pins s σ H Rr I (q σ H Rr z)⟩
theorem piOr {tg iter : Expr} {w w' : TI} (h : PI X tg iter w) (h' : PI X tg iter w') : PI X tg iter (fun σ H Rr => w σ H Rr ∨ w' σ H Rr) := ⟨fun pins s σ H Rr I z => z.elim (h.run pins s σ H Rr I) (h'.run pins s σ H Rr I)⟩
theorem chrs_len (z : Str) : (chrs z).length = z.length := by
  rw [chrs, List.length_map, Array.length_toList]; rfl
theorem itStr {K : PySem.W.Frag} {ok : Hp → List FP → Sto → Prop} (z : Str) : ItOk K CA ok (Its z) (chrs z) := by
  refine ⟨fun _ => True, fun i H v H' => H' = H ∧ ∃ c, z.cps[i]? = some c ∧ v = .str ⟨#[c]⟩, ?_, fun _ _ _ _ _ _ => trivial, fun i x H H' F φ st hi _ r y => ?_⟩
  · rw [chrs_len]; exact walk_str
  · obtain ⟨rfl, c, e1, rfl⟩ := y
    refine ⟨F, _, ?_, r.nx, .str ⟨#[c]⟩⟩
    rw [chrs, List.getElem?_map, Array.getElem?_toList, e1]; rfl
theorem rpInts {K : PySem.W.Frag} {F : Hp} : ∀ ns : List Int, RpA K F (ns.map V.int) (ns.map PyData.int)
  | [] => .nil
  | n :: ns => .cons (.int n) (rpInts ns)
theorem piSeq {tg : Expr} {m : En → Sto → Option ((List PyData × Bool) × Sto)} (hm : ∀ ρ st, m ρ st = (ma ρ st).bind fun p => seqT p.1 p.2) (ha : PE X a (TV X.K CA ma)) : PI X tg a (TIv X.K CA m) := by
  refine piWeak (piOr (pi_list ha) (piOr (pi_tup ha) (pi_str ha))) fun σ H Rr ⟨F, φ, st, ρ, ds, b, st', r, re, e, q⟩ => ?_
  rw [hm] at e
  obtain ⟨⟨v1, st1⟩, e1, e⟩ := Option.bind_eq_some_iff.mp e
  dsimp only at e
  cases v1 with
  | d x =>
    cases x with
    | list xs =>
      cases e
      refine .inl ⟨F, φ, st, ρ, _, _, r, re, e1, fun F1 φ1 H1 u1 n1 rv1 => ?_⟩
      have rv' : Rp X.K F1 u1 (.list xs) := rv1
      cases rv' with
      | lst h0 hz h => exact ⟨_, rfl, ⟨_, SqL.of (n1.r.sub _ _ h0)⟩, q _ _ _ _ n1 (itList (fun _ _ _ o => o.1) h0 h) hz⟩
    | tuple xs =>
      cases e
      refine .inr (.inl ⟨F, φ, st, ρ, _, _, r, re, e1, fun F1 φ1 H1 u1 n1 rv1 => ?_⟩)
      have rv' : Rp X.K F1 u1 (.tuple xs) := rv1
      cases rv' with
      | tup h0 hz h => exact ⟨_, rfl, ⟨_, SqT.le n1.r.sub h0⟩, q _ _ _ _ n1 (itTup (fun _ _ _ o => o.1) h0 h) hz⟩
    | str z =>
      simp only [seqT] at e
      split at e
      · rename_i hz
        cases e
        refine .inr (.inr ⟨F, φ, st, ρ, _, _, r, re, e1, fun F1 φ1 H1 u1 n1 rv1 => ?_⟩)
        have rv' : Rp X.K F1 u1 (.str z) := rv1
        cases rv'
        exact ⟨_, rfl, q _ _ _ _ n1 (itStr z) (by rw [chrs_len]; exact hz)⟩
      · cases e
    | _ => cases e
  | r n =>
    cases hd : dat st1 (.r n) with
    | none => simp only [seqT, seqI, hd] at e; cases e
    | some y =>
      cases y with
      | list xs =>
        simp only [seqT, seqI, hd] at e
        cases e
        refine .inl ⟨F, φ, st, ρ, _, _, r, re, e1, fun F1 φ1 H1 u1 n1 rv1 => ?_⟩
        obtain ⟨a1, ws, rfl, h1, h2, h3⟩ := n1.r.reads rv1 hd
        exact ⟨a1, rfl, ⟨_, SqL.of h1⟩, q _ _ _ _ n1 (itRef (fun _ _ _ o => ⟨o.1, o.2.1, o.2.2.resolve_left (by decide)⟩) rv1 hd) h2⟩
      | _ => simp only [seqT, seqI, hd] at e; cases e
  | f n s =>
    cases hd : dat st1 (.f n s) with
    | none => simp only [seqT, seqI, hd] at e; cases e
    | some y =>
      cases y with
      | list xs =>
        simp only [seqT, seqI, hd] at e
        cases e
        refine .inl ⟨F, φ, st, ρ, _, _, r, re, e1, fun F1 φ1 H1 u1 n1 rv1 => ?_⟩
        obtain ⟨a1, ws, rfl, h1, h2, h3⟩ := n1.r.reads rv1 hd
        exact ⟨a1, rfl, ⟨_, SqL.of h1⟩, q _ _ _ _ n1 (itRef (fun _ _ _ o => ⟨o.1, o.2.1, o.2.2.resolve_left (by decide)⟩) rv1 hd) h2⟩
      | _ => simp only [seqT, seqI, hd] at e; cases e
  | s ns =>
    simp only [seqT] at e
    split at e
    · rename_i hz
      cases e
      refine .inl ⟨F, φ, st, ρ, _, _, r, re, e1, fun F1 φ1 H1 u1 n1 rv1 => ?_⟩
      obtain ⟨a1, rfl, h0⟩ := rv1
      exact ⟨a1, rfl, ⟨_, SqL.le n1.r.sub h0⟩, q _ _ _ _ n1 (itScr (fun _ _ _ o => o.1) h0 (rpInts ns)) (by rw [List.length_map]; exact hz)⟩
    · cases e
theorem paOne {m : En → Sto → Option (Vl × Sto)} (ha : PE X a (TV X.K CA m)) (hs : notStar a = true) : PA X [a] (fun σ H Q => TV X.K CA m σ H fun v H1 => Q [v] H1) :=
  paWeak (pa_cons ha pa_nil (starOne hs _)) fun _ _ _ h => h
theorem piEnm {tp : Pos} {es : List Expr} {kk : Nat} {p : Pos} {m : En → Sto → Option ((List PyData × Bool) × Sto)} (hm : ∀ ρ st, m ρ st = (ma ρ st).bind fun p => seqI (enmL 0) p.1 p.2) (ha : PE X a (TV X.K CA ma)) (hs : notStar a = true)
    (hg : Gl X "enumerate") (hn : X.mg "enumerate" = none) : PI X (.Tuple es kk tp) (.Call (.Name "enumerate" p) [a] [] pos) (TIv X.K CA m) := by
  have hA := paOne ha hs
  refine piWeak (piOr (pi_enum hg hn hA (starOne hs _)) (piEnumT hg hn hA (starOne hs _))) fun σ H Rr ⟨F, φ, st, ρ, ds, b, st', r, re, e, q⟩ => ?_
  rw [hm] at e
  obtain ⟨⟨v1, st1⟩, e1, e⟩ := Option.bind_eq_some_iff.mp e
  dsimp only at e
  cases v1 with
  | d x =>
    cases x with
    | list xs =>
      cases e
      refine .inl ⟨F, φ, st, ρ, _, _, r, re, e1, fun F1 φ1 H1 u1 n1 rv1 => ?_⟩
      have rv' : Rp X.K F1 u1 (.list xs) := rv1
      cases rv' with
      | lst h0 hz h => exact ⟨_, _, rfl, SqL.of (n1.r.sub _ _ h0), q _ _ _ _ n1 (itEnm (fun _ _ _ o => o.1) h0 h) (by rw [enmL_len]; exact hz)⟩
    | tuple xs =>
      cases e
      refine .inr ⟨F, φ, st, ρ, _, _, r, re, e1, fun F1 φ1 H1 u1 n1 rv1 => ?_⟩
      have rv' : Rp X.K F1 u1 (.tuple xs) := rv1
      cases rv' with
      | tup h0 hz h => exact ⟨_, _, rfl, SqT.le n1.r.sub h0, q _ _ _ _ n1 (itEnmT (fun _ _ _ o => o.1) h0 h) (by rw [enmL_len]; exact hz)⟩
    | _ => cases e
  | r n =>
    cases hd : dat st1 (.r n) with
    | none => simp only [seqI, hd] at e; cases e
    | some y =>
      cases y with
      | list xs =>
        simp only [seqI, hd] at e
        cases e
        refine .inl ⟨F, φ, st, ρ, _, _, r, re, e1, fun F1 φ1 H1 u1 n1 rv1 => ?_⟩
        obtain ⟨a1, ws, rfl, h1, h2, h3⟩ := n1.r.reads rv1 hd
        exact ⟨a1, _, rfl, SqL.of h1, q _ _ _ _ n1 (itRefE (fun _ _ _ o => ⟨o.1, o.2.1, o.2.2.resolve_left (by decide)⟩) rv1 hd) (by rw [enmL_len]; exact h2)⟩
      | _ => simp only [seqI, hd] at e; cases e
  | f n s =>
    cases hd : dat st1 (.f n s) with
    | none => simp only [seqI, hd] at e; cases e
    | some y =>
      cases y with
      | list xs =>
        simp only [seqI, hd] at e
        cases e
        refine .inl ⟨F, φ, st, ρ, _, _, r, re, e1, fun F1 φ1 H1 u1 n1 rv1 => ?_⟩
        obtain ⟨a1, ws, rfl, h1, h2, h3⟩ := n1.r.reads rv1 hd
        exact ⟨a1, _, rfl, SqL.of h1, q _ _ _ _ n1 (itRefE (fun _ _ _ o => ⟨o.1, o.2.1, o.2.2.resolve_left (by decide)⟩) rv1 hd) (by rw [enmL_len]; exact h2)⟩
      | _ => simp only [seqI, hd] at e; cases e
  | s ns => cases e
theorem piRng {tg : Expr} {p : Pos} {m : En → Sto → Option ((List PyData × Bool) × Sto)} (hm : ∀ ρ st, m ρ st = (ma ρ st).bind fun p => (intOf p.1).bind fun n => if -(2 ^ 62) ≤ n ∧ n < 2 ^ 24 then some ((rngL 0 n.toNat, true), p.2) else none) (ha : PE X a (TV X.K CA ma)) (hs : notStar a = true)
    (hg : Gl X "range") (hn : X.mg "range" = none) : PI X tg (.Call (.Name "range" p) [a] [] pos) (TIv X.K CA m) := by
  refine piWeak (pi_range1 hg hn (paOne ha hs) (starOne hs _)) fun σ H Rr ⟨F, φ, st, ρ, ds, b, st', r, re, e, q⟩ => ?_
  rw [hm] at e
  obtain ⟨⟨v1, st1⟩, e1, e⟩ := Option.bind_eq_some_iff.mp e
  obtain ⟨n, e2, e⟩ := Option.bind_eq_some_iff.mp e
  have hv : v1 = .d (.int n) := intOf_eq e2
  subst hv
  split at e
  · rename_i hn
    cases e
    refine ⟨F, φ, st, ρ, _, _, r, re, e1, fun F1 φ1 H1 u1 n1 rv1 => ?_⟩
    have rv' : Rp X.K F1 u1 (.int n) := rv1
    cases rv'
    have h1 : n < 2 ^ 62 := by
      have : (2 : Int) ^ 24 < 2 ^ 62 := by decide
      omega
    refine ⟨n, rfl, hn.1, h1, q _ _ _ _ n1 (itRng 0 n.toNat) ?_⟩
    rw [rngL_len]
    have h2 : (n.toNat : Int) ≤ 2 ^ 24 := by omega
    show n.toNat ≤ 16777216
    omega
  · cases e
theorem paTwo {m m' : Mv} (ha : PE X a (TV X.K CA m)) (hb : PE X b (TV X.K CA m')) (sa : notStar a = true) (sb : notStar b = true) : PA X [a, b] (fun σ H Q => TV X.K CA m σ H fun v H1 => TV X.K CA m' σ H1 fun w H2 => Q [v, w] H2) :=
  paWeak (pa_cons ha (pa_cons hb pa_nil (starOne sb _)) (starOne sa _)) fun _ _ _ h => h
theorem piRng2 {tg : Expr} {p : Pos} {m : En → Sto → Option ((List PyData × Bool) × Sto)} (hm : ∀ ρ st, m ρ st = (ma ρ st).bind fun p => (mb ρ p.2).bind fun q => (intOf p.1).bind fun lo => (intOf q.1).bind fun n => if (0 ≤ lo ∧ lo < 2 ^ 24) ∧ 0 ≤ n ∧ n < 2 ^ 24 then some ((rngL lo (n - lo).toNat, true), q.2) else none)
    (ha : PE X a (TV X.K CA ma)) (hb : PE X b (TV X.K CA mb)) (hsa : notStar a = true) (hsb : notStar b = true) (hg : Gl X "range") (hn : X.mg "range" = none) : PI X tg (.Call (.Name "range" p) [a, b] [] pos) (TIv X.K CA m) := by
  refine piWeak (pi_range2 hg hn (paTwo ha hb hsa hsb) (by rw [starOne hsa, starOne hsb]; rfl) (by rw [starOne hsb]; rfl)) fun σ H Rr ⟨F, φ, st, ρ, ds, bb, st', r, re, e, q⟩ => ?_
  rw [hm] at e
  obtain ⟨⟨v1, st1⟩, e1, f1⟩ := Option.bind_eq_some_iff.mp e
  obtain ⟨⟨v2, st2⟩, e2, f2⟩ := Option.bind_eq_some_iff.mp f1
  obtain ⟨lo, e3, f3⟩ := Option.bind_eq_some_iff.mp f2
  obtain ⟨n, e4, f4⟩ := Option.bind_eq_some_iff.mp f3
  have hv1 : v1 = .d (.int lo) := intOf_eq e3
  have hv2 : v2 = .d (.int n) := intOf_eq e4
  clear f1 f2 f3 e
  subst hv1 hv2
  split at f4
  · rename_i hn
    cases f4
    refine ⟨F, φ, st, ρ, _, st1, r, re, e1, fun F1 φ1 H1 u1 n1 rv1 => ?_⟩
    refine ⟨F1, φ1, st1, ρ, _, st2, n1.r, re.le n1.le n1.gr, e2, fun F2 φ2 H2 u2 n2 rv2 => ?_⟩
    have r1 : Rp X.K F1 u1 (.int lo) := rv1
    have r2 : Rp X.K F2 u2 (.int n) := rv2
    cases r1
    cases r2
    have h1 : (2 : Int) ^ 24 < 2 ^ 62 := by decide
    have h2 : -(2 ^ 62) ≤ (0 : Int) := by decide
    refine ⟨lo, n, rfl, ⟨by omega, by omega, by omega, by omega⟩, q _ _ _ _ (n1.trans n2) (itRng lo (n - lo).toNat) ?_⟩
    rw [rngL_len]
    have h3 : ((n - lo).toNat : Int) ≤ 2 ^ 24 := by omega
    show (n - lo).toNat ≤ 16777216
    omega
  · cases f4
theorem zipL_get : ∀ (xs ys : List PyData) (i : Nat) (x y : PyData), xs[i]? = some x → ys[i]? = some y → (zipL xs ys)[i]? = some (.tuple [x, y])
  | [], _, i, x, y, h, _ => by simp at h
  | _ :: _, [], i, x, y, _, h => by simp at h
  | a :: xs, b :: ys, i, x, y, h1, h2 => by
    unfold zipL
    cases i with
    | zero => simp at h1 h2; subst h1; subst h2; simp
    | succ i => simp at h1 h2; simpa using zipL_get xs ys i x y h1 h2
theorem zipL_len : ∀ (xs ys : List PyData), (zipL xs ys).length = min xs.length ys.length
  | [], _ => by simp [zipL]
  | _ :: _, [] => by simp [zipL]
  | _ :: xs, _ :: ys => by unfold zipL; rw [List.length_cons, List.length_cons, List.length_cons, zipL_len xs ys]; omega
theorem walkZipT {K : PySem.W.Frag} {xs ys : List V} {a b : Addr} {n : Nat} (hn : n = min xs.length ys.length) : Walk (RZ.ItzT K a b) n (fun H => SqT K H a xs ∧ SqT K H b ys) (YPair (fun i => xs[i]?) (fun i => ys[i]?)) := by
  subst hn
  refine ⟨fun i _ hi q => ?_, fun _ q => ⟨xs, ys, q.1, q.2, by omega⟩, fun i H v H' _ q y => ?_⟩
  · have h1 : i < xs.length := by omega
    have h2 : i < ys.length := by omega
    exact ⟨xs, ys, xs[i], ys[i], q.1, q.2, by simp [h1], by simp [h2]⟩
  · obtain ⟨T, x, z, h1, h2, h3, h4, h5⟩ := y
    exact ⟨T, x, z, h1, h2, h3, h4 xs q.1, h5 ys q.2⟩
theorem itZipT {K : PySem.W.Frag} {CA : CAT} {F0 : Hp} {a b : Addr} {vs ws : List V} {ds es : List PyData} {ok : Hp → List FP → Sto → Prop} (hok : ∀ F φ st, ok F φ st → Le F0 F) (h1 : SqT K F0 a vs) (h2 : SqT K F0 b ws) (r1 : RpA K F0 vs ds) (r2 : RpA K F0 ws es) : ItOk K CA ok (RZ.ItzT K a b) (zipL ds es) := by
  refine ⟨fun H => SqT K H a vs ∧ SqT K H b ws, _, walkZipT (by rw [zipL_len, r1.length, r2.length]), fun F φ st H o r => ⟨SqT.le r.sub (SqT.le (hok _ _ _ o) h1), SqT.le r.sub (SqT.le (hok _ _ _ o) h2)⟩, fun i x H H' F φ st _ o r y => ?_⟩
  obtain ⟨T, x1, x2, rfl, hT, rfl, e1, e2⟩ := y
  obtain ⟨d1, g1, p1⟩ := r1.getV e1
  obtain ⟨d2, g2, p2⟩ := r2.getV e2
  have l := hok _ _ _ o
  have n := r.nxData hT (.tup [x1, x2])
  exact ⟨_, _, zipL_get ds es i d1 d2 g1 g2, n, .tup (SqT.of upd_same) (by show 2 ≤ sizeL; decide) (.cons (p1.le (l.trans n.le)) (.cons (p2.le (l.trans n.le)) .nil))⟩
theorem zipT_eq {v w : Vl} {z : List PyData} (h : zipT v w = some z) : ∃ xs ys, v = .d (.tuple xs) ∧ w = .d (.tuple ys) ∧ z = zipL xs ys := by
  unfold zipT at h
  split at h
  · exact ⟨_, _, rfl, rfl, (Option.some.inj h).symm⟩
  · cases h
theorem piZip {tp : Pos} {es : List Expr} {kk : Nat} {p : Pos} {m : En → Sto → Option ((List PyData × Bool) × Sto)} (hm : ∀ ρ st, m ρ st = (ma ρ st).bind fun p => (mb ρ p.2).bind fun q => (zipT p.1 q.1).map fun z => ((z, true), q.2))
    (ha : PE X a (TV X.K CA ma)) (hb : PE X b (TV X.K CA mb)) (hsa : notStar a = true) (hsb : notStar b = true) (hg : Gl X "zip") (hn : X.mg "zip" = none) : PI X (.Tuple es kk tp) (.Call (.Name "zip" p) [a, b] [] pos) (TIv X.K CA m) := by
  refine piWeak (RZ.pi_zipA hg hn (paTwo ha hb hsa hsb) (starOne hsa _) (starAny (by simp [hsb]))) fun σ H Rr ⟨F, φ, st, ρ, ds, bb, st', r, re, e, q⟩ => ?_
  rw [hm] at e
  obtain ⟨⟨v1, st1⟩, e1, e⟩ := Option.bind_eq_some_iff.mp e
  obtain ⟨⟨v2, st2⟩, e2, e⟩ := Option.bind_eq_some_iff.mp e
  obtain ⟨z, e3, e4⟩ := Option.map_eq_some_iff.mp e
  cases e4
  dsimp only at e3
  obtain ⟨xs, ys, rfl, rfl, rfl⟩ := zipT_eq e3
  · refine ⟨F, φ, st, ρ, _, st1, r, re, e1, fun F1 φ1 H1 u1 n1 rv1 => ?_⟩
    refine ⟨F1, φ1, st1, ρ, _, _, n1.r, re.le n1.le n1.gr, e2, fun F2 φ2 H2 u2 n2 rv2 => ?_⟩
    have r1 : Rp X.K F2 u1 (.tuple xs) := (RV.le n2.le n2.gr rv1 : RV X.K F2 φ2 u1 (.d (.tuple xs)))
    have r2 : Rp X.K F2 u2 (.tuple ys) := rv2
    cases r1 with
    | tup s1 z1 q1 =>
      cases r2 with
      | tup s2 z2 q2 =>
        refine ⟨_, _, _, _, rfl, .inr ⟨SqT.le n2.r.sub s1, SqT.le n2.r.sub s2, q _ _ _ _ (n1.trans n2) (itZipT (fun _ _ _ o => o.1) s1 s2 q1 q2) ?_⟩⟩
        rw [zipL_len]
        omega
end
end Tw
set_option Elab.async false
set_option linter.all false
set_option maxRecDepth 100000
set_option maxHeartbeats 4000000
/-! C6: comprehensions, statements. -/
namespace Tw
open PySem L2

theorem wipe_get {σ : L2.St} {i : Nat} : ∀ {vs : List Nat}, i ∈ vs → i < σ.length → (L2.wipe σ vs)[i]? = some none
  | [], h, _ => by simp at h
  | v :: vs, h, hl => by
    unfold L2.wipe
    by_cases e : v = i
    · subst e
      rw [List.getElem?_set_self (by rw [wipe_length]; exact hl)]
    · rw [List.getElem?_set_ne e]
      exact wipe_get ((List.mem_cons.mp h).resolve_left fun z => e z.symm) hl
theorem wipe_same {vs : List Nat} {σ τ : L2.St} (h : Same0 vs (L2.wipe σ vs) τ) : L2.wipe τ vs = L2.wipe σ vs := by
  apply List.ext_getElem?
  intro i
  have hl : τ.length = σ.length := by rw [h.1, wipe_length]
  by_cases hi : i < σ.length
  · by_cases hv : i ∈ vs
    · rw [wipe_get hv hi, wipe_get hv (by rw [hl]; exact hi)]
    · rw [wipe_out hv, h.2 i hv]
  · rw [List.getElem?_eq_none (by rw [wipe_length, hl]; omega), List.getElem?_eq_none (by rw [wipe_length]; omega)]
section
variable {K : PySem.W.Frag} {CA : CAT} {F H : Hp} {φ : List FP} {st : Sto}
/-- a list of nobody becomes data -/
theorem R.adopt (r : R K CA F φ st H) {p : Addr} {o : HO} (h : H p = some o) (h1 : F p = none) (h2 : p ∉ fps φ) : R K CA (upd F p o) φ st H := by
  refine ⟨fun a u e => ?_, fun a ha => ?_, r.nd, r.len, fun n m q e1 e2 => (r.obj n m q e1 e2).keep (Le.upd h1) fun _ _ => rfl⟩
  · by_cases e' : a = p
    · subst e'; rw [upd_same] at e; cases e; exact h
    · rw [upd_ne e'] at e; exact r.sub _ _ e
  · rw [upd_ne (fun z : a = p => h2 (z ▸ ha))]; exact r.dis a ha
end
section
variable {X : Cx} {CA : CAT} {a b c : Expr} {pos : Pos} {ma mb mc mr : Mv}
/-- a comprehension's test -/
def TCt (K : PySem.W.Frag) (CA : CAT) (m : En → Sto → Option (Bool × Sto)) : TT := fun σ H Q => ∃ F φ st ρ b st', R K CA F φ st H ∧ RE K F φ σ ρ ∧ m ρ st = some (b, st') ∧ ∀ F' φ' H', Nx K CA F φ H F' φ' st' H' → Q b H'
theorem ptsWeak {es : List Expr} {t t' : TT} (h : PTs X es t) (w : ∀ σ H Q, t' σ H Q → t σ H Q) : PTs X es t' := ⟨fun pins s σ H Q I q => h.run pins s σ H Q I (w σ H Q q)⟩
theorem ptsNil {m : En → Sto → Option (Bool × Sto)} (hm : ∀ ρ st, m ρ st = some (true, st)) : PTs X [] (TCt X.K CA m) :=
  ptsWeak pts_nil fun σ H Q ⟨F, φ, st, ρ, b, st', r, re, e, q⟩ => by
    rw [hm] at e; cases e
    exact q _ _ _ r.nx
theorem ptsOne {m : En → Sto → Option (Bool × Sto)} (hm : ∀ ρ st, m ρ st = (ma ρ st).bind fun p => (boolOf p.1).map fun k => (k, p.2)) (h : PT X a (TB X.K CA ma)) : PTs X [a] (TCt X.K CA m) :=
  ptsWeak (pts_one h) fun σ H Q ⟨F, φ, st, ρ, b, st', r, re, e, q⟩ => by
    rw [hm] at e
    obtain ⟨⟨v1, st1⟩, e1, e⟩ := Option.bind_eq_some_iff.mp e
    obtain ⟨k, e2, e3⟩ := Option.map_eq_some_iff.mp e
    have hv : v1 = .d (.bool k) := boolOf_eq e2
    subst hv
    cases e3
    exact ⟨F, φ, st, ρ, _, st1, r, re, e1, q⟩
theorem comp_loop {K : PySem.W.Frag} {tg : Tg} {mt : En → Sto → Option (Bool × Sto)} {me : Mv} {pure? b : Bool} {ds ys : List PyData} {st1 st2 : Sto} {J : L2.It} {F1 H1 : Hp} {φ1 : List FP} {σ : L2.St} {ρ : En} {Q : VK}
    (hp : pure? = true → ∀ ρ x st y st', compF tg mt me ρ x st = some (y, st') → st' = st) (r1 : R K CA F1 φ1 st1 H1) (re : RE K F1 φ1 σ ρ)
    (ok : ItOk K CA (fun F2 φ2 st2 => Le F1 F2 ∧ Gr φ1 φ2 ∧ (b = true ∨ st2 = st1)) J ds) (hz : ds.length ≤ sizeL) (hb : (b || pure?) = true)
    (e2 : compS (compF tg mt me ρ) ds st1 = some (ys, st2)) (q : PostV K CA F1 φ1 H1 (.d (.list ys)) st2 Q) : tLc (fun _ H R => R J H) (TGo K CA tg) (TCt K CA mt) (TV K CA me) (tgIs tg) σ H1 Q := by
  intro D hD
  have n1 := r1.nx
  obtain ⟨gd, Y, W, g1, conv⟩ := ok
  have hD1 := n1.r.fresh hD
  refine lc_it W (Qd := fun H => Q (.ref D) H) (fun i H' => ∃ F' φ' s' acc vs rest, Nx K CA F1 φ1 H1 F' φ' s' H' ∧ Le F1 F' ∧ Gr φ1 φ' ∧ (b = true ∨ s' = st1) ∧ H' D = some (.lst vs) ∧ F' D = none ∧ D ∉ fps φ' ∧ RpA K F' vs acc ∧
    compS (compF tg mt me ρ) (ds.drop i) s' = some (rest, st2) ∧ acc ++ rest = ys ∧ acc.length ≤ i) ?_ ?_ ?_ ?_
  · refine ⟨F1, φ1, st1, [], [], ys, ⟨n1.le, n1.gr, fun p o h1 h2 h3 => ?_, n1.r.extra hD1.2 hD1.1⟩, Le.rfl, Gr.rfl, .inr rfl, upd_same, hD1.2, hD1.1, .nil, by rw [List.drop_zero]; exact e2, rfl, Nat.le_refl _⟩
    obtain ⟨f1, f2, f3⟩ := n1.off p o h1 h2 h3
    exact ⟨by rw [upd_ne (ne_of_none f1 hD)]; exact f1, f2, f3⟩
  · rintro i H' hi ⟨F', φ', s', acc, vs, rest, n, l, g, hs, _⟩
    exact g1 F' φ' s' H' ⟨l, g, hs⟩ n.r
  · rintro i x H2 H3 hi ⟨F', φ', s', acc, vs, rest, n, l, g, hs, d1, d2, d3, ra, e4, e5, e6⟩ y
    obtain ⟨F3, d, e7, n3, rp⟩ := conv i x H2 H3 F' φ' s' hi ⟨l, g, hs⟩ n.r y
    have hdrop : ds.drop i = d :: ds.drop (i + 1) := by
      rw [List.drop_eq_getElem_cons hi]
      have := (List.getElem?_eq_some_iff.mp e7).2
      rw [this]
    rw [hdrop] at e4
    unfold compS at e4
    obtain ⟨⟨o, s4⟩, e8, e4⟩ := Option.bind_eq_some_iff.mp e4
    have e8' := e8
    obtain ⟨ρ', e9, e8⟩ := Option.bind_eq_some_iff.mp (show (tgS tg d (wipeE ρ (tgIs tg))).bind _ = _ from e8)
    obtain ⟨⟨bk, s5⟩, e10, e8⟩ := Option.bind_eq_some_iff.mp e8
    dsimp only at e8
    have nn := n.trans n3
    have hst : b = true ∨ s4 = st1 := by
      rcases hs with hs | hs
      · exact .inl hs
      · cases b with
        | true => exact .inl rfl
        | false =>
          have hpp : pure? = true := by simpa using hb
          right
          rw [hp hpp _ _ _ _ _ e8', hs]
    refine ⟨F3, φ', s', wipeE ρ (tgIs tg), d, ρ', n3.r, (re.le nn.le nn.gr).wipe _, rp, e9, fun σ2 re2 sm => ⟨wipe_same sm, ?_⟩⟩
    refine ⟨F3, φ', s', ρ', bk, s5, n3.r, re2, e10, fun F4 φ4 H4 n4 => ?_⟩
    have nD := (n3.trans n4)
    obtain ⟨f1, f2, f3⟩ := nD.off D _ d1 d2 d3
    cases bk with
    | false =>
      refine iteF ?_
      cases e8
      obtain ⟨⟨r1, s6⟩, e11, e12⟩ := Option.map_eq_some_iff.mp e4
      cases e12
      exact ⟨F4, φ4, _, acc, vs, _, n.trans nD, l.trans nD.le, g.trans nD.gr, hst, f1, f2, f3, ra.le nD.le, e11, e5, by omega⟩
    | true =>
      refine iteT ?_
      obtain ⟨⟨v6, s6⟩, e11, e8⟩ := Option.bind_eq_some_iff.mp (show (me ρ' s5).bind _ = _ from e8)
      obtain ⟨y6, e12, e13⟩ := Option.map_eq_some_iff.mp e8
      cases e13
      have hv : v6 = .d y6 := dOf_eq e12
      subst hv
      obtain ⟨⟨r1, s7⟩, e14, e15⟩ := Option.map_eq_some_iff.mp e4
      cases e15
      refine ⟨F4, φ4, s5, ρ', _, s6, n4.r, re2.le n4.le n4.gr, e11, fun F5 φ5 H5 u5 n5 rv5 => ?_⟩
      obtain ⟨g1, g2, g3⟩ := n5.off D _ f1 f2 f3
      have nE := nD.trans n5
      have nT := n.trans nE
      have rp5 : Rp K F5 u5 y6 := rv5
      have hlen : vs.length < sizeLine := by
        rw [ra.length, ← sizeL_eq]; omega
      refine ⟨vs, g1, hlen, F5, φ5, s6, acc ++ [y6], vs ++ [u5], r1, ⟨nT.le, nT.gr, fun p o h1 h2 h3 => ?_, n5.r.extra g2 g3⟩, l.trans nE.le, g.trans nE.gr, hst, upd_same, g2, g3, (ra.le nE.le).append (.cons rp5 .nil), e14, ?_, ?_⟩
      · obtain ⟨k1, k2, k3⟩ := n1.off p o h1 h2 h3
        obtain ⟨j1, j2, j3⟩ := nT.off p o h1 h2 h3
        exact ⟨by rw [upd_ne (ne_of_none k1 hD)]; exact j1, j2, j3⟩
      · rw [List.append_assoc]; exact e5
      · rw [List.length_append]; show acc.length + 1 ≤ i + 1; omega
  · rintro H' ⟨F', φ', s', acc, vs, rest, n, l, g, hs, d1, d2, d3, ra, e4, e5, e6⟩
    rw [List.drop_length] at e4
    cases e4
    rw [List.append_nil] at e5
    subst e5
    have r' := n.r.adopt d1 d2 d3
    refine q _ _ _ _ ⟨n.le.trans (Le.upd d2), n.gr, fun p o h1 h2 h3 => ?_, r'⟩ (Rp.lst upd_same (by omega) (ra.le (Le.upd d2)))
    obtain ⟨k1, k2, k3⟩ := n1.off p o h1 h2 h3
    obtain ⟨j1, j2, j3⟩ := n.off p o h1 h2 h3
    exact ⟨j1, by rw [upd_ne (ne_of_none k1 hD)]; exact j2, j3⟩
theorem comp_core {K : PySem.W.Frag} {tg : Tg} {mi : En → Sto → Option ((List PyData × Bool) × Sto)} {mt : En → Sto → Option (Bool × Sto)} {me : Mv} {m : Mv} {pure? : Bool}
    (hm : ∀ ρ st, m ρ st = (mi ρ st).bind fun p => if p.1.2 || pure? then (compS (compF tg mt me ρ) p.1.1 p.2).map fun q => (.d (.list q.1), q.2) else none)
    (hp : pure? = true → ∀ ρ x st y st', compF tg mt me ρ x st = some (y, st') → st' = st)
    {σ : L2.St} {H : Hp} {Q : VK} (h : TV K CA m σ H Q) : tLc (TIv K CA mi) (TGo K CA tg) (TCt K CA mt) (TV K CA me) (tgIs tg) σ H Q := by
  obtain ⟨F, φ, st, ρ, x, st', r, re, e, q⟩ := h
  rw [hm] at e
  obtain ⟨⟨⟨ds, b⟩, st1⟩, e1, e⟩ := Option.bind_eq_some_iff.mp e
  by_cases hb : (b || pure?) = true
  case neg => rw [if_neg hb] at e; cases e
  rw [if_pos hb] at e
  obtain ⟨⟨ys, st2⟩, e2, e3⟩ := Option.map_eq_some_iff.mp e
  cases e3
  dsimp only at e2 hb q
  exact ⟨F, φ, st, ρ, ds, b, st1, r, re, e1, fun J F1 φ1 H1 n1 ok hz => comp_loop hp n1.r (re.le n1.le n1.gr) ok hz hb e2 fun F3 φ3 H3 v n3 rv => q _ _ _ _ (n1.trans n3) rv⟩
theorem pvComp {elt tg iter : Expr} {ifs : List Expr} {scope : Scope} {own : List (Str × Nat)} {tgt : Tg} {mi : En → Sto → Option ((List PyData × Bool) × Sto)} {mt : En → Sto → Option (Bool × Sto)} {me : Mv} {m : Mv} {pure? : Bool}
    (hm : ∀ ρ st, m ρ st = (mi ρ st).bind fun p => if p.1.2 || pure? then (compS (compF tgt mt me ρ) p.1.1 p.2).map fun q => (.d (.list q.1), q.2) else none)
    (hp : pure? = true → ∀ ρ x st y st', compF tgt mt me ρ x st = some (y, st') → st' = st) (hc : X.calm = true) (hN : X.N.Nodup) (hi : PI X tg iter (TIv X.K CA mi)) (ok : BlkOk X.N X.env.scope scope own) (ho : own.map (·.2) = tgIs tgt)
    (hg : ∀ s H C cl fp, PG (X.blk s H scope (compEnvC scope cl C X.env) fp) tg (TGo X.K CA tgt)) (ht : ∀ s H C cl fp, PTs (X.blk s H scope (compEnvC scope cl C X.env) fp) ifs (TCt X.K CA mt))
    (he : ∀ s H C cl fp, PE (X.blk s H scope (compEnvC scope cl C X.env) fp) elt (TV X.K CA me)) (hs : ∀ x, foldedSetIterable iter X.env x = pure x) : PE X (.ListComp elt [⟨tg, iter, ifs, 0⟩] scope pos) (TV X.K CA m) :=
  peWeak (pe_lc hc hN hi ok hg ht he hs) fun σ H Q h => by
    rw [ho]
    exact comp_core hm hp h
end
end Tw
set_option Elab.async false
set_option linter.all false
set_option maxRecDepth 100000
set_option maxHeartbeats 4000000
/-! C7: statements. -/
namespace Tw
open PySem L2
section
variable {K : PySem.W.Frag} {F : Hp}
theorem RpK.length : ∀ {ks : List (Key × V)} {ds : List (PyData × PyData)}, RpK K F ks ds → ks.length = ds.length
  | _, _, .nil => rfl
  | _, _, .cons _ r => by rw [List.length_cons, List.length_cons, RpK.length r]
theorem RpK.app : ∀ {ks ls : List (Key × V)} {ds es : List (PyData × PyData)}, RpK K F ks ds → RpK K F ls es → RpK K F (ks ++ ls) (ds ++ es)
  | _, _, _, _, .nil, h => h
  | _, _, _, _, .cons h r, q => .cons h (RpK.app r q)
theorem RpK.any (z : Str) : ∀ {kvs : List (Str × PyData)} {ks : List (Key × V)}, RpK K F ks (kvs.map fun q => (.str q.1, q.2)) → (ks.any fun kv => decide (kv.1 = Sum.inr z)) = kvs.any fun p => decide (p.1 = z)
  | [], _, h => by cases h; rfl
  | (k, x) :: kvs, _, h => by
    cases h with
    | cons h1 h2 =>
      rw [List.any_cons, List.any_cons, RpK.any z h2]
      congr 1
      by_cases e : k = z
      · subst e; simp
      · have e' : ¬ (Sum.inr k : Key) = Sum.inr z := fun q => e (Sum.inr.inj q)
        simp [e]
theorem RpK.repl (z : Str) {v : V} {x : PyData} (hv : Rp K F v x) : ∀ {kvs : List (Str × PyData)} {ks : List (Key × V)}, RpK K F ks (kvs.map fun q => (.str q.1, q.2)) →
    RpK K F (ks.map fun kv => if kv.1 = Sum.inr z then (kv.1, v) else kv) ((kvs.map fun p => if p.1 = z then (p.1, x) else p).map fun q => (.str q.1, q.2))
  | [], _, h => by cases h; exact .nil
  | (k, y) :: kvs, _, h => by
    cases h with
    | cons h1 h2 =>
      rw [List.map_cons, List.map_cons, List.map_cons]
      by_cases e : k = z
      · subst e
        rw [if_pos rfl, if_pos rfl]
        exact .cons hv (RpK.repl k hv h2)
      · have e' : ¬ (Sum.inr k : Key) = Sum.inr z := fun q => e (Sum.inr.inj q)
        rw [if_neg e', if_neg e]
        exact .cons h1 (RpK.repl z hv h2)
theorem RpK.put (z : Str) {v : V} {x : PyData} {kvs : List (Str × PyData)} {ks : List (Key × V)} (h : RpK K F ks (kvs.map fun q => (.str q.1, q.2))) (hv : Rp K F v x) : RpK K F (L2.putK ks (Sum.inr z) v) ((putD kvs z x).map fun q => (.str q.1, q.2)) := by
  unfold L2.putK putD
  rw [RpK.any z h]
  split
  · exact h.repl z hv
  · rw [List.map_append]
    exact h.app (.cons hv .nil)
end
abbrev Ms := En → Sto → Option (Out × En × Sto)
def EndsAt (K : PySem.W.Frag) (F : Hp) (φ : List FP) (D : Ends) (o : Out) (σ : L2.St) (H : Hp) : Prop := match o with
  | .nx => D.nx σ H
  | .brk => D.bk σ H
  | .cnt => D.ct σ H
  | .ret x => ∀ v, RV K F φ v x → D.rt v H
abbrev PostS (K : PySem.W.Frag) (CA : CAT) (F : Hp) (φ : List FP) (H : Hp) (o : Out) (ρ' : En) (st' : Sto) (D : Ends) : Prop :=
  ∀ F' φ' H' σ', Nx K CA F φ H F' φ' st' H' → RE K F' φ' σ' ρ' → EndsAt K F' φ' D o σ' H'
def TSv (K : PySem.W.Frag) (CA : CAT) (m : Ms) : TS := fun D σ H => ∃ F φ st ρ o ρ' st', R K CA F φ st H ∧ RE K F φ σ ρ ∧ m ρ st = some (o, ρ', st') ∧ PostS K CA F φ H o ρ' st' D
section
variable {X : Cx} {CA : CAT} {a b c : Expr} {pos : Pos} {ma mb mc mr : Mv} {m : Ms}
theorem psAsg {i : Nat} {x : Str} {pos' : Pos} (hm : ∀ ρ st, m ρ st = (ma ρ st).map fun p => (.nx, ρ.set i (some p.1), p.2)) (hN : X.N.Nodup) (hi : X.N[i]? = some x) (hx : Loc X.env.scope x) (ha : PE X a (TV X.K CA ma))
    (hs : swapsWith a (some (.Name x pos')) pos.line X.env = pure false) (hf : X.fn x = true ∨ X.env.scope.names.lookup x = some .local) : PS X (.Assign [.Name x pos'] a pos) (TSv X.K CA m) :=
  psWeak (ps_set hN hi hx ha hs hf) fun D σ H ⟨F, φ, st, ρ, o, ρ', st', r, re, e, q⟩ => by
    rw [hm] at e
    obtain ⟨⟨v1, st1⟩, e1, e2⟩ := Option.map_eq_some_iff.mp e
    cases e2
    exact ⟨F, φ, st, ρ, v1, st1, r, re, e1, fun F1 φ1 H1 u1 n1 rv1 => q _ _ _ _ n1 ((re.le n1.le n1.gr).set rv1)⟩
theorem psAsgLc {i : Nat} {y : Str} {py spos : Pos} {elt tg iter : Expr} {ifs : List Expr} {scope : Scope} {own : List (Str × Nat)} {tgt : Tg} {mi : En → Sto → Option ((List PyData × Bool) × Sto)} {mt : En → Sto → Option (Bool × Sto)} {me : Mv} {pure? : Bool}
    (hm : ∀ ρ st, m ρ st = (ma ρ st).map fun p => (.nx, ρ.set i (some p.1), p.2))
    (hma : ∀ ρ st, ma ρ st = (mi ρ st).bind fun p => if p.1.2 || pure? then (compS (compF tgt mt me ρ) p.1.1 p.2).map fun q => (.d (.list q.1), q.2) else none)
    (hp : pure? = true → ∀ ρ x st y st', compF tgt mt me ρ x st = some (y, st') → st' = st) (hc : X.calm = true) (hN : X.N.Nodup) (hy : X.N[i]? = some y) (hyl : X.env.scope.names.lookup y = some .local)
    (hsw : swapsWith (.ListComp elt [⟨tg, iter, ifs, 0⟩] scope pos) (some (.Name y py)) spos.line X.env = pure true) (hi : PI X tg iter (TIv X.K CA mi)) (ok : BlkOk X.N X.env.scope scope own) (ho : own.map (·.2) = tgIs tgt)
    (hg : ∀ s H C cl fp, PG (X.blk s H scope (compEnvC scope cl C X.env) fp) tg (TGo X.K CA tgt)) (ht : ∀ s H C cl fp, PTs (X.blk s H scope (compEnvC scope cl C X.env) fp) ifs (TCt X.K CA mt))
    (he : ∀ s H C cl fp, PE (X.blk s H scope (compEnvC scope cl C X.env) fp) elt (TV X.K CA me)) (hs : ∀ x, foldedSetIterable iter X.env x = pure x) : PS X (.Assign [.Name y py] (.ListComp elt [⟨tg, iter, ifs, 0⟩] scope pos) spos) (TSv X.K CA m) :=
  psWeak (ps_setLc hc hN hy hyl hsw hi ok hg ht he hs) fun D σ H ⟨F, φ, st, ρ, o, ρ', st', r, re, e, q⟩ => by
    rw [hm] at e
    obtain ⟨⟨v1, st1⟩, e1, e2⟩ := Option.map_eq_some_iff.mp e
    cases e2
    show tLc _ _ _ _ (own.map (·.2)) σ H _
    rw [ho]
    exact comp_core hma hp ⟨F, φ, st, ρ, v1, st1, r, re, e1, fun F1 φ1 H1 u1 n1 rv1 => q _ _ _ _ n1 ((re.le n1.le n1.gr).set rv1)⟩
theorem psUnp {is : List Nat} {es : List Expr} {k : Nat} {tp : Pos} (hm : ∀ ρ st, m ρ st = (ma ρ st).bind fun p => (dOf p.1).bind fun x => (tgS (.tp is) x ρ).map fun ρ' => (.nx, ρ', p.2)) (ha : PE X a (TV X.K CA ma)) (hg : PG X (.Tuple es k tp) (TGo X.K CA (.tp is)))
    (hs : swapsWithSole [.Tuple es k tp] a pos.line X.env = pure false) (hw : swappedStores [.Tuple es k tp] a X.env = pure none) : PS X (.Assign [.Tuple es k tp] a pos) (TSv X.K CA m) :=
  psWeak (ps_asg ha hg hs hw (by rfl)) fun D σ H ⟨F, φ, st, ρ, o, ρ', st', r, re, e, q⟩ => by
    rw [hm] at e
    obtain ⟨⟨v1, st1⟩, e1, e⟩ := Option.bind_eq_some_iff.mp e
    obtain ⟨x, e2, e⟩ := Option.bind_eq_some_iff.mp e
    obtain ⟨ρ2, e3, e4⟩ := Option.map_eq_some_iff.mp e
    cases e4
    have hv : v1 = .d x := dOf_eq e2
    subst hv
    refine ⟨F, φ, st, ρ, _, st1, r, re, e1, fun F1 φ1 H1 u1 n1 rv1 => ?_⟩
    exact ⟨F1, φ1, st1, ρ, x, _, n1.r, re.le n1.le n1.gr, rv1, e3, fun σ' re' _ => q _ _ _ _ n1 re'⟩
theorem psExp (hm : ∀ ρ st, m ρ st = (ma ρ st).map fun p => (.nx, ρ, p.2)) (ha : PE X a (TV X.K CA ma)) (hs : swapsWith a none pos.line X.env = pure false) : PS X (.Expr a pos) (TSv X.K CA m) :=
  psWeak (ps_expr ha hs) fun D σ H ⟨F, φ, st, ρ, o, ρ', st', r, re, e, q⟩ => by
    rw [hm] at e
    obtain ⟨⟨v1, st1⟩, e1, e2⟩ := Option.map_eq_some_iff.mp e
    cases e2
    exact ⟨F, φ, st, ρ, v1, st1, r, re, e1, fun F1 φ1 H1 u1 n1 rv1 => q _ _ _ _ n1 (re.le n1.le n1.gr)⟩
theorem psRet (hm : ∀ ρ st, m ρ st = (ma ρ st).map fun p => (.ret p.1, ρ, p.2)) (ha : PE X a (TV X.K CA ma)) : PS X (.Return (some a) pos) (TSv X.K CA m) :=
  psWeak (ps_ret ha) fun D σ H ⟨F, φ, st, ρ, o, ρ', st', r, re, e, q⟩ => by
    rw [hm] at e
    obtain ⟨⟨v1, st1⟩, e1, e2⟩ := Option.map_eq_some_iff.mp e
    cases e2
    exact ⟨F, φ, st, ρ, v1, st1, r, re, e1, fun F1 φ1 H1 u1 n1 rv1 => q _ _ _ _ n1 (re.le n1.le n1.gr) u1 rv1⟩
theorem psRetN (hm : ∀ ρ st, m ρ st = some (.ret (.d .none), ρ, st)) : PS X (.Return none pos) (TSv X.K CA m) :=
  psWeak ps_retN fun D σ H ⟨F, φ, st, ρ, o, ρ', st', r, re, e, q⟩ => by
    rw [hm] at e
    cases e
    exact q _ _ _ _ r.nx re .non Rp.non
theorem psSimple {s : Stmt} {o : Out} (hm : ∀ ρ st, m ρ st = some (o, ρ, st)) (hs : (s = .Pass pos ∧ o = .nx) ∨ (s = .Break pos ∧ o = .brk) ∨ (s = .Continue pos ∧ o = .cnt)) : PS X s (TSv X.K CA m) := by
  rcases hs with ⟨rfl, rfl⟩ | ⟨rfl, rfl⟩ | ⟨rfl, rfl⟩
  · exact psWeak ps_pass fun D σ H ⟨F, φ, st, ρ, o, ρ', st', r, re, e, q⟩ => by
      rw [hm] at e; cases e; exact q _ _ _ _ r.nx re
  · exact psWeak ps_break fun D σ H ⟨F, φ, st, ρ, o, ρ', st', r, re, e, q⟩ => by
      rw [hm] at e; cases e; exact q _ _ _ _ r.nx re
  · exact psWeak ps_continue fun D σ H ⟨F, φ, st, ρ, o, ρ', st', r, re, e, q⟩ => by
      rw [hm] at e; cases e; exact q _ _ _ _ r.nx re
theorem psIte {xs ys : List Stmt} {m1 m2 : Ms} (hm : ∀ ρ st, m ρ st = (ma ρ st).bind fun p => (boolOf p.1).bind fun k => if k then m1 ρ p.2 else m2 ρ p.2) (ht : PT X a (TB X.K CA ma)) (h1 : PSs X xs (TSv X.K CA m1)) (h2 : PSs X ys (TSv X.K CA m2)) :
    PS X (.If a xs ys pos) (TSv X.K CA m) :=
  psWeak (ps_if ht h1 h2) fun D σ H ⟨F, φ, st, ρ, o, ρ', st', r, re, e, q⟩ => by
    rw [hm] at e
    obtain ⟨⟨v1, st1⟩, e1, e⟩ := Option.bind_eq_some_iff.mp e
    obtain ⟨k, e2, e⟩ := Option.bind_eq_some_iff.mp e
    have hv : v1 = .d (.bool k) := boolOf_eq e2
    subst hv
    refine ⟨F, φ, st, ρ, k, st1, r, re, e1, fun F1 φ1 H1 n1 => ?_⟩
    cases k with
    | true => exact iteT ⟨F1, φ1, st1, ρ, o, ρ', st', n1.r, re.le n1.le n1.gr, e, fun F2 φ2 H2 σ2 n2 re2 => q _ _ _ _ (n1.trans n2) re2⟩
    | false => exact iteF ⟨F1, φ1, st1, ρ, o, ρ', st', n1.r, re.le n1.le n1.gr, e, fun F2 φ2 H2 σ2 n2 re2 => q _ _ _ _ (n1.trans n2) re2⟩
theorem pssNil (hm : ∀ ρ st, m ρ st = some (.nx, ρ, st)) : PSs X [] (TSv X.K CA m) :=
  pssWeak pss_nil fun D σ H ⟨F, φ, st, ρ, o, ρ', st', r, re, e, q⟩ => by
    rw [hm] at e; cases e; exact q _ _ _ _ r.nx re
theorem pssCons {s : Stmt} {ss : List Stmt} {m1 m2 : Ms} (hm : ∀ ρ st, m ρ st = (m1 ρ st).bind fun p => match p.1 with | .nx => m2 p.2.1 p.2.2 | o => some (o, p.2.1, p.2.2)) (h1 : PS X s (TSv X.K CA m1)) (h2 : PSs X ss (TSv X.K CA m2)) : PSs X (s :: ss) (TSv X.K CA m) :=
  pssWeak (pss_cons h1 h2) fun D σ H ⟨F, φ, st, ρ, o, ρ', st', r, re, e, q⟩ => by
    rw [hm] at e
    obtain ⟨⟨o1, ρ1, st1⟩, e1, e⟩ := Option.bind_eq_some_iff.mp e
    refine ⟨F, φ, st, ρ, o1, ρ1, st1, r, re, e1, fun F1 φ1 H1 σ1 n1 re1 => ?_⟩
    cases o1 with
    | nx => exact ⟨F1, φ1, st1, ρ1, o, ρ', st', n1.r, re1, e, fun F2 φ2 H2 σ2 n2 re2 => q _ _ _ _ (n1.trans n2) re2⟩
    | brk => cases e; exact q _ _ _ _ n1 re1
    | cnt => cases e; exact q _ _ _ _ n1 re1
    | ret v => cases e; exact q _ _ _ _ n1 re1
theorem psSeti {p' : Pos} (hm : ∀ ρ st, m ρ st = (ma ρ st).bind fun p => (mb ρ p.2).bind fun q => (mc ρ q.2).bind fun s => match p.1, q.1, s.1 with
    | .d x, .r n, .d (.str z) => match s.2[n]? with
      | some (.dct kvs) => if kvs.length < sizeL then some (.nx, ρ, s.2.set n (.dct (putD kvs z x))) else none
      | _ => none
    | _, _, _ => none) (hu : X.A.units + 1 < cLine) (hv : PE X a (TV X.K CA ma)) (ho : PE X b (TV X.K CA mb)) (hk : PE X c (TV X.K CA mc)) (hs : swapsWith a (some (.Subscript b c p')) pos.line X.env = pure false) :
    PS X (.Assign [.Subscript b c p'] a pos) (TSv X.K CA m) :=
  psWeak (ps_dput hu ho hk hv hs) fun D σ H ⟨F, φ, st, ρ, o, ρ', st', r, re, e, q⟩ => by
    rw [hm] at e
    obtain ⟨⟨v1, st1⟩, e1, e⟩ := Option.bind_eq_some_iff.mp e
    obtain ⟨⟨v2, st2⟩, e2, e⟩ := Option.bind_eq_some_iff.mp e
    obtain ⟨⟨v3, st3⟩, e3, e⟩ := Option.bind_eq_some_iff.mp e
    dsimp only at e
    refine ⟨F, φ, st, ρ, v1, st1, r, re, e1, fun F1 φ1 H1 u1 n1 rv1 => ?_⟩
    refine ⟨F1, φ1, st1, ρ, v2, st2, n1.r, re.le n1.le n1.gr, e2, fun F2 φ2 H2 u2 n2 rv2 => ?_⟩
    have n12 := n1.trans n2
    refine ⟨F2, φ2, st2, ρ, v3, st3, n2.r, re.le n12.le n12.gr, e3, fun F3 φ3 H3 u3 n3 rv3 => ?_⟩
    have n123 := n12.trans n3
    have n23 := n2.trans n3
    cases v1 with
    | d x =>
      cases v2 with
      | r n =>
        cases v3 with
        | d y =>
          cases y with
          | str z =>
            dsimp only at e
            obtain ⟨p, hp, rfl⟩ := rv2.le n3.le n3.gr
            obtain ⟨mm, hmm, om⟩ := n3.r.at hp
            rw [hmm] at e
            cases mm with
            | dct kvs =>
              dsimp only at e
              split at e
              · rename_i hl
                cases e
                obtain ⟨ks, g1, g2, g3⟩ := om
                have rv3' : Rp X.K F3 u3 (.str z) := rv3
                cases rv3'
                have rx : Rp X.K F3 u1 x := (show RV X.K F1 φ1 u1 (.d x) from rv1).le n23.le n23.gr
                have hl' : ks.length < sizeLine := by
                  rw [g2.length, List.length_map, ← sizeL_eq]; exact hl
                refine ⟨p.1, _, rfl, DPut.k (k := Sum.inr z) g1 hl', q _ _ _ _ (n123.trans (n3.r.nxChange hp (by rw [fpA_nil g3]; simp) ⟨_, upd_same, ?_, g3⟩)) (re.le n123.le n123.gr)⟩
                exact g2.put z rx
              · cases e
            | lst xs => cases e
            | ins cc fs => cases e
            | dead => cases e
            | tab _ => cases e
            | ptup _ => cases e
            | clo _ _ => cases e
          | _ => cases e
        | r _ => cases e
        | f _ _ => cases e
        | s _ => cases e
      | d _ => cases e
      | f _ _ => cases e
      | s _ => cases e
    | r _ => cases e
    | f _ _ => cases e
    | s _ => cases e
/-! ### loops -/
theorem psFor {tg : Tg} {ptg iter : Expr} {body : List Stmt} {mi : En → Sto → Option ((List PyData × Bool) × Sto)} {mbd : Ms} (hm : ∀ ρ st, m ρ st = (mi ρ st).bind fun p => if p.1.2 then forS (fun x ρ st => (tgS tg x ρ).bind fun ρ' => mbd ρ' st) p.1.1 ρ p.2 else none)
    (hp : PassesOwn (model X.prog X.w) X.A X.env X.xe) (hc : X.calm = true) (hi : PI X ptg iter (TIv X.K CA mi)) (hg : PG X ptg (TGo X.K CA tg)) (hb : PSs X body (TSv X.K CA mbd)) (hs : ∀ x, foldedSetIterable iter X.env x = pure x) :
    PS X (.For ptg iter body [] pos) (TSv X.K CA m) := by
  refine psWeak (ps_for hp hc hi hg hb hs) fun D σ H ⟨F, φ, st, ρ, o, ρ', st', r, re, e, q⟩ => ?_
  rw [hm] at e
  obtain ⟨⟨⟨ds, b⟩, st1⟩, e1, e⟩ := Option.bind_eq_some_iff.mp e
  by_cases hbt : b = true
  case neg => rw [if_neg hbt] at e; cases e
  rw [if_pos hbt] at e
  subst hbt
  dsimp only at e
  refine ⟨F, φ, st, ρ, ds, true, st1, r, re, e1, fun J F1 φ1 H1 n1 ok hz => ?_⟩
  obtain ⟨gd, Y, W, g1, conv⟩ := ok
  refine for_it W (fun i σ' H' => ∃ F' φ' s' ρ1, Nx X.K CA F φ H F' φ' s' H' ∧ Le F1 F' ∧ Gr φ1 φ' ∧ RE X.K F' φ' σ' ρ1 ∧ forS (fun x ρ st => (tgS tg x ρ).bind fun ρ' => mbd ρ' st) (ds.drop i) ρ1 s' = some (o, ρ', st')) ?_ ?_ ?_ ?_
  · exact ⟨F1, φ1, st1, ρ, n1, Le.rfl, Gr.rfl, re.le n1.le n1.gr, by rw [List.drop_zero]; exact e⟩
  · rintro i σ' H' hi ⟨F', φ', s', ρ1, n, l, g, _⟩
    exact g1 F' φ' s' H' ⟨l, g, .inl rfl⟩ n.r
  · rintro i x σ' H2 H3 hi ⟨F', φ', s', ρ1, n, l, g, re1, e4⟩ y
    obtain ⟨F3, d, e7, n3, rp⟩ := conv i x H2 H3 F' φ' s' hi ⟨l, g, .inl rfl⟩ n.r y
    have hdrop : ds.drop i = d :: ds.drop (i + 1) := by
      rw [List.drop_eq_getElem_cons hi]
      have := (List.getElem?_eq_some_iff.mp e7).2
      rw [this]
    rw [hdrop] at e4
    unfold forS at e4
    obtain ⟨⟨o1, ρ2, s2⟩, e5, e4⟩ := Option.bind_eq_some_iff.mp e4
    obtain ⟨ρ3, e6, e5⟩ := Option.bind_eq_some_iff.mp e5
    have nn := n.trans n3
    refine ⟨F3, φ', s', ρ1, d, ρ3, n3.r, re1.le n3.le n3.gr, rp, e6, fun σ2 re2 _ => ?_⟩
    refine ⟨F3, φ', s', ρ3, o1, ρ2, s2, n3.r, re2, e5, fun F4 φ4 H4 σ4 n4 re4 => ?_⟩
    have n34 := n3.trans n4
    cases o1 with
    | nx => exact ⟨F4, φ4, s2, ρ2, nn.trans n4, l.trans n34.le, g.trans n34.gr, re4, e4⟩
    | cnt => exact ⟨F4, φ4, s2, ρ2, nn.trans n4, l.trans n34.le, g.trans n34.gr, re4, e4⟩
    | brk =>
      cases e4
      exact q _ _ _ _ (nn.trans n4) re4
    | ret v =>
      cases e4
      exact q _ _ _ _ (nn.trans n4) re4
  · rintro σ' H' ⟨F', φ', s', ρ1, n, l, g, re1, e4⟩
    rw [List.drop_length] at e4
    cases e4
    exact q _ _ _ _ n re1
theorem psWhl {k : Nat} {body : List Stmt} {mbd : Ms} (hm : ∀ ρ st, m ρ st = whlS (fun ρ st => (ma ρ st).bind fun p => (boolOf p.1).map fun k => (k, p.2)) (fun ρ st => mbd ρ st) k ρ st)
    (hp : PassesOwn (model X.prog X.w) X.A X.env X.xe) (ht : PT X a (TB X.K CA ma)) (hb : PSs X body (TSv X.K CA mbd)) : PS X (.While a body [] pos) (TSv X.K CA m) := by
  refine psWeak (ps_while hp ht hb) fun D σ H ⟨F, φ, st, ρ, o, ρ', st', r, re, e, q⟩ => ?_
  rw [hm] at e
  refine ⟨fun k' σ' H' => ∃ F' φ' s' ρ1, Nx X.K CA F φ H F' φ' s' H' ∧ RE X.K F' φ' σ' ρ1 ∧ whlS (fun ρ st => (ma ρ st).bind fun p => (boolOf p.1).map fun k => (k, p.2)) (fun ρ st => mbd ρ st) k' ρ1 s' = some (o, ρ', st'), ⟨k, F, φ, st, ρ, r.nx, re, e⟩, ?_⟩
  rintro k' σ' H' ⟨F', φ', s', ρ1, n, re1, e1⟩
  cases k' with
  | zero => cases e1
  | succ k' =>
    unfold whlS at e1
    obtain ⟨⟨bk, s2⟩, e2, e1⟩ := Option.bind_eq_some_iff.mp e1
    obtain ⟨⟨v3, s3⟩, e3, e2⟩ := Option.bind_eq_some_iff.mp e2
    obtain ⟨bk', e4, e5⟩ := Option.map_eq_some_iff.mp e2
    obtain ⟨h1, h2⟩ := Prod.mk.inj e5
    dsimp only at h2
    subst h1
    subst h2
    have hv : v3 = .d (.bool bk') := boolOf_eq e4
    subst hv
    refine ⟨F', φ', s', ρ1, bk', s3, n.r, re1, e3, fun F2 φ2 H2 n2 => ?_⟩
    have nn := n.trans n2
    cases bk' with
    | false =>
      cases e1
      exact iteF (q _ _ _ _ nn (re1.le n2.le n2.gr))
    | true =>
      refine iteT ⟨fun σ4 H4 => ∃ F' φ' s' ρ1, Nx X.K CA F φ H F' φ' s' H4 ∧ RE X.K F' φ' σ4 ρ1 ∧ whlS (fun ρ st => (ma ρ st).bind fun p => (boolOf p.1).map fun k => (k, p.2)) (fun ρ st => mbd ρ st) k' ρ1 s' = some (o, ρ', st'), fun σ4 H4 h4 => ⟨k', Nat.lt_succ_self _, h4⟩, ?_⟩
      obtain ⟨⟨o1, ρ4, s4⟩, e6, e1⟩ := Option.bind_eq_some_iff.mp (show (mbd ρ1 s3).bind _ = _ from e1)
      refine ⟨F2, φ2, s3, ρ1, o1, ρ4, s4, n2.r, re1.le n2.le n2.gr, e6, fun F5 φ5 H5 σ5 n5 re5 => ?_⟩
      have n6 := nn.trans n5
      cases o1 with
      | nx => exact ⟨F5, φ5, s4, ρ4, n6, re5, e1⟩
      | cnt => exact ⟨F5, φ5, s4, ρ4, n6, re5, e1⟩
      | brk => cases e1; exact q _ _ _ _ n6 re5
      | ret v => cases e1; exact q _ _ _ _ n6 re5
end
/-! ### a store's entry becomes data -/
section
variable {K : PySem.W.Frag} {CA : CAT} {F H : Hp} {φ : List FP} {st : Sto} {σ : St} {ρ : En}
theorem fps_set {n : Nat} {p : FP} (hp : φ[n]? = some p) : ∀ a, a ∈ fps (φ.set n (p.1, deadM)) → a ∈ fps φ ∧ ∃ (m : Nat) (q : FP), m ≠ n ∧ φ[m]? = some q ∧ a ∈ fpA q := by
  intro a ha
  obtain ⟨m, q, hq, hz⟩ := mem_fps ha
  by_cases hm : n = m
  · subst hm
    rw [List.getElem?_set_self (List.getElem?_eq_some_iff.mp hp).1] at hq
    cases hq
    rw [fpA_dead rfl] at hz
    exact absurd hz (by simp)
  · rw [List.getElem?_set_ne hm] at hq
    exact ⟨mem_fps_of hq hz, m, q, fun z => hm z.symm, hq, hz⟩
theorem fps_set_nd : ∀ {φ : List FP} (n : Nat) (b : Addr), (fps φ).Nodup → (fps (φ.set n (b, deadM))).Nodup
  | [], _, _, h => h
  | p :: φ, 0, b, h => by
    have e : fps (p :: φ) = fpA p ++ fps φ := by simp [fps]
    have e2 : fps ((b, deadM) :: φ) = fpA (b, deadM) ++ fps φ := by simp [fps]
    rw [e] at h
    rw [List.set_cons_zero, e2, fpA_dead rfl]
    exact (List.nodup_append.mp h).2.1
  | p :: φ, n + 1, b, h => by
    have e : fps (p :: φ) = fpA p ++ fps φ := by simp [fps]
    have e2 : fps (p :: φ.set n (b, deadM)) = fpA p ++ fps (φ.set n (b, deadM)) := by simp [fps]
    rw [e] at h
    obtain ⟨h1, h2, h3⟩ := List.nodup_append.mp h
    rw [List.set_cons_succ, e2]
    refine List.nodup_append.mpr ⟨h1, fps_set_nd n b h2, fun a ha c hc => ?_⟩
    refine h3 a ha c ?_
    obtain ⟨q, hq, hz⟩ := List.mem_flatMap.mp hc
    rcases List.mem_or_eq_of_mem_set hq with hq | hq
    · exact List.mem_flatMap.mpr ⟨q, hq, hz⟩
    · subst hq; rw [fpA_dead rfl] at hz; exact absurd hz (by simp)
theorem R.nxFrz (r : R K CA F φ st H) {n : Nat} {p : FP} {o : HO} (hp : φ[n]? = some p) (hd : p.2 = []) (h : H p.1 = some o) : Nx K CA F φ H (upd F p.1 o) (φ.set n (p.1, deadM)) (st.set n .dead) H := by
  have hm : p.1 ∈ fps φ := mem_fps_of hp (by rw [fpA_nil hd]; simp)
  have hf : F p.1 = none := r.dis _ hm
  have no : p.1 ∉ fps (φ.set n (p.1, deadM)) := fun z => by
    obtain ⟨_, m, q, ne, hq, hz⟩ := fps_set hp _ z
    exact fps_two r.nd hp hq (fun z => ne z.symm) (by rw [fpA_nil hd]; simp) hz
  have hlt : n < φ.length := (List.getElem?_eq_some_iff.mp hp).1
  refine ⟨Le.upd hf, fun m q e => ?_, fun a u e1 e2 e3 => ?_, ?_, ?_, ?_, ?_, ?_⟩
  · by_cases hm : n = m
    · subst hm
      rw [hp] at e; cases e
      exact ⟨_, List.getElem?_set_self hlt, rfl, fun a b z => by rw [hd] at z; cases z⟩
    · exact ⟨q, by rw [List.getElem?_set_ne hm]; exact e, rfl, fun _ _ z => z⟩
  · have ne : a ≠ p.1 := fun z => e3 (z ▸ hm)
    exact ⟨e1, by rw [upd_ne ne]; exact e2, fun z => e3 (fps_set hp a z).1⟩
  · intro a u e
    by_cases e' : a = p.1
    · subst e'; rw [upd_same] at e; cases e; exact h
    · rw [upd_ne e'] at e; exact r.sub _ _ e
  · intro a ha
    rw [upd_ne (fun z : a = p.1 => no (z ▸ ha))]
    exact r.dis a (fps_set hp a ha).1
  · exact fps_set_nd n p.1 r.nd
  · rw [List.length_set, List.length_set]; exact r.len
  · intro m mm q e1 e2
    by_cases hm : n = m
    · subst hm
      rw [List.getElem?_set_self (by rw [r.len]; exact hlt)] at e1
      rw [List.getElem?_set_self hlt] at e2
      cases e1; cases e2
      exact rfl
    · rw [List.getElem?_set_ne hm] at e1 e2
      exact (r.obj m mm q e1 e2).keep (Le.upd hf) fun _ _ => rfl
theorem RE.frz {F' : Hp} {φ' : List FP} {n : Nat} {x : PyData} {a : Addr} {p : FP} (h : RE K F φ σ ρ) (l : Le F F') (g : Gr φ φ') (hp : φ[n]? = some p) (hx : Rp K F' (.ref p.1) x) : RE K F' φ' σ (frzE n x ρ) := by
  refine ⟨by rw [frzE, List.length_map]; exact h.len, fun i y e => ?_⟩
  rw [frzE, List.getElem?_map, Option.map_eq_some_iff] at e
  obtain ⟨o, e1, e2⟩ := e
  cases o with
  | none => cases e2
  | some v =>
    obtain ⟨u, e3, rv⟩ := h.at_ i v e1
    refine ⟨u, e3, ?_⟩
    cases v with
    | r m =>
      dsimp only at e2
      split at e2
      · rename_i hm
        subst hm
        cases e2
        obtain ⟨q, hq, rfl⟩ := rv
        rw [hp] at hq; cases hq
        exact hx
      · cases e2; exact rv.le l g
    | d x => cases e2; exact rv.le l g
    | f m b => cases e2; exact rv.le l g
    | s ns => cases e2; exact rv.le l g
theorem frz_ok {i : Nat} {ρ' : En} {st' : Sto} (r : R K CA F φ st H) (re : RE K F φ σ ρ) (e : frzS ρ st ρ[i]? = some (ρ', st')) : ∃ F' φ', Nx K CA F φ H F' φ' st' H ∧ RE K F' φ' σ ρ' := by
  cases hi : ρ[i]? with
  | none => rw [hi] at e; cases e
  | some o =>
    cases o with
    | none => rw [hi] at e; cases e
    | some v =>
      cases v with
      | d x => rw [hi] at e; cases e
      | f m b => rw [hi] at e; cases e
      | s ns => rw [hi] at e; cases e
      | r n =>
        rw [hi] at e
        obtain ⟨u, _, rv⟩ := re.at_ i _ hi
        obtain ⟨p, hp, rfl⟩ := rv
        obtain ⟨m, hm, om⟩ := r.at hp
        simp only [frzS, hm] at e
        cases m with
        | lst xs =>
          cases e
          obtain ⟨vs, h1, h2, h3, h4⟩ := om
          have nx := r.nxFrz hp h4 h1
          exact ⟨_, _, nx, re.frz (a := p.1) nx.le nx.gr hp (.lst upd_same h2 (h3.le nx.le))⟩
        | dct kvs =>
          cases e
          obtain ⟨ks, h1, h2, h4⟩ := om
          have nx := r.nxFrz hp h4 h1
          exact ⟨_, _, nx, re.frz (a := p.1) nx.le nx.gr hp (.dct (.inl upd_same) (h2.le nx.le))⟩
        | ins c fs => cases e
        | dead => cases e
        | tab _ => cases e
        | ptup _ => cases e
        | clo _ _ => cases e
end
end Tw
set_option Elab.async false
set_option linter.all false
set_option maxRecDepth 100000
set_option maxHeartbeats 4000000
/-! C7b: dicts: displays, dict(x), update, the keys walked. -/
namespace Tw
open PySem L2

/-! ### a dict is locked, and unlocked -/
structure Tr (F F' : Hp) : Prop where
  oth : ∀ a o, F a = some o → (∀ ks, o ≠ .dK ks) → (∀ o' ks, o ≠ .frz o' (.dK ks)) → F' a = some o
  dct : ∀ a ks, Rd F a (.dK ks) → Rd F' a (.dK ks)
section
variable {K : PySem.W.Frag} {CA : CAT} {F F' H H' : Hp} {φ : List FP} {st : Sto}
theorem Tr.lst (t : Tr F F') {a : Addr} {xs : List V} (h : F a = some (.lst xs)) : F' a = some (.lst xs) := t.oth _ _ h (fun _ z => by cases z) (fun _ _ z => by cases z)
theorem Tr.sqT (t : Tr F F') {a : Addr} {xs : List V} (h : SqT K F a xs) : SqT K F' a xs := by
  rcases h with (h | ⟨o, h⟩) | h
  · exact .inl (.inl (t.oth _ _ h (fun _ z => by cases z) (fun _ _ z => by cases z)))
  · exact .inl (.inr ⟨o, t.oth _ _ h (fun _ z => by cases z) (fun _ _ z => by cases z)⟩)
  · exact .inr h
theorem Tr.sqL (t : Tr F F') {a : Addr} {xs : List V} (h : SqL K F a xs) : SqL K F' a xs := by
  rcases h with (h | ⟨o, h⟩) | h
  · exact .inl (.inl (t.oth _ _ h (fun _ z => by cases z) (fun _ _ z => by cases z)))
  · exact .inl (.inr ⟨o, t.oth _ _ h (fun _ z => by cases z) (fun _ _ z => by cases z)⟩)
  · exact .inr h
mutual
theorem Rp.tr (t : Tr F F') : ∀ {v : V} {d : PyData}, Rp K F v d → Rp K F' v d
  | _, _, .non => .non
  | _, _, .bl b => .bl b
  | _, _, .int i => .int i
  | _, _, .str x => .str x
  | _, _, .lst h z r => .lst (t.lst h) z (RpA.tr t r)
  | _, _, .tup h z r => .tup (t.sqT h) z (RpA.tr t r)
  | _, _, .dct h r => .dct (t.dct _ _ h) (RpK.tr t r)
theorem RpA.tr (t : Tr F F') : ∀ {vs : List V} {ds : List PyData}, RpA K F vs ds → RpA K F' vs ds
  | _, _, .nil => .nil
  | _, _, .cons h r => .cons (Rp.tr t h) (RpA.tr t r)
theorem RpK.tr (t : Tr F F') : ∀ {vs : List (Key × V)} {ds : List (PyData × PyData)}, RpK K F vs ds → RpK K F' vs ds
  | _, _, .nil => .nil
  | _, _, .cons h r => .cons (Rp.tr t h) (RpK.tr t r)
end
theorem RV.tr (t : Tr F F') {v : V} {x : Vl} (h : RV K F φ v x) : RV K F' φ v x := by
  cases x with
  | d x => exact Rp.tr t h
  | r n => exact h
  | f n a => exact h
  | s ns =>
    obtain ⟨a, rfl, q⟩ := h
    exact ⟨a, rfl, t.sqL q⟩
theorem RE.tr (t : Tr F F') {σ : L2.St} {ρ : En} (h : RE K F φ σ ρ) : RE K F' φ σ ρ := ⟨h.len, fun i x e => let ⟨v, e1, r⟩ := h.at_ i x e; ⟨v, e1, r.tr t⟩⟩
theorem FR.tr {fs gs as} (t : Tr F F') (h : FR K F H fs gs as) (k : ∀ a ∈ as.map (·.2), H' a = H a) : FR K F' H' fs gs as := by
  induction h with
  | nil => exact .nil
  | d h1 _ ih => exact .d (h1.tr t) (ih k)
  | l h1 z h2 _ ih => exact .l (by rw [k _ (by simp)]; exact h1) z (h2.tr t) (ih fun a ha => k a (List.mem_cons_of_mem _ ha))
theorem CellR.tr {cl : List (Str × Addr)} {fr : List Str} {ws : List PyData} (t : Tr F F') (h : CellR K F cl fr ws) : CellR K F' cl fr ws :=
  ⟨h.inj, fun y c e => let ⟨o, v, e1, e2⟩ := h.all y c e; ⟨o, v, t.oth _ _ e1 (fun _ y => by cases y) (fun _ _ y => by cases y), e2⟩, let ⟨vs, g1, g2, g3⟩ := h.has; ⟨vs, g1.tr t, g2, fun i y v a b => let ⟨c, o, u, e1, e2, e3, e4⟩ := g3 i y v a b; ⟨c, o, u, e1, t.oth _ _ e2 (fun _ y => by cases y) (fun _ _ y => by cases y), e3, e4⟩⟩⟩
theorem OR.tr {p : FP} {m : MO} (t : Tr F F') (h : OR K CA F H p m) (k : ∀ a ∈ fpA p, H' a = H a) : OR K CA F' H' p m := by
  cases m with
  | lst xs => obtain ⟨vs, e, z, r, e2⟩ := h; exact ⟨vs, (k _ (by rw [fpA_nil e2]; simp)).trans e, z, r.tr t, e2⟩
  | dct kvs => obtain ⟨vs, e, r, e2⟩ := h; exact ⟨vs, (k _ (by rw [fpA_nil e2]; simp)).trans e, r.tr t, e2⟩
  | ins c fs =>
    obtain ⟨dx, gs, e, r, nd⟩ := h
    rw [fpA_ne nd] at k
    exact ⟨dx, gs, (k _ (by simp)).trans e, r.tr t fun a ha => k a (List.mem_cons_of_mem _ ha), nd⟩
  | dead => exact h
  | tab j => obtain ⟨e2, ps, e, g, q⟩ := h; exact ⟨e2, ps, (k _ (by rw [fpA_nil (by rw [e2])]; simp)).trans e, g, fun pos cv z => let ⟨c, z1, z2⟩ := q pos cv z; ⟨c, z1, t.oth _ _ z2 (fun _ y => by cases y) fun _ _ y => by cases y⟩⟩
  | ptup xs => obtain ⟨e2, vs, e, q⟩ := h; exact ⟨e2, vs, (k _ (by rw [fpA_nil e2]; simp)).trans e, q.tr t⟩
  | clo n ws => obtain ⟨e2, e0, cl, c, e, f, q⟩ := h; exact ⟨e2, e0, cl, c, (k _ (by rw [fpA_nil e2]; simp)).trans e, t.oth _ _ f (fun _ y => by cases y) (fun _ _ y => by cases y), q.tr t⟩
theorem R.swap (r : R K CA F φ st H) {d : Addr} {z0 z : HO} (hd : F d = some z0) (t : Tr F (upd F d z)) : R K CA (upd F d z) φ st (upd H d z) := by
  have no : ∀ a ∈ fps φ, a ≠ d := fun a ha e => by
    have := r.dis a ha
    rw [e, hd] at this; cases this
  refine ⟨fun a u e => ?_, fun a ha => by rw [upd_ne (no a ha)]; exact r.dis a ha, r.nd, r.len, fun n m p e1 e2 => (r.obj n m p e1 e2).tr t fun a ha => upd_ne (no a (mem_fps_of e2 ha))⟩
  by_cases e' : a = d
  · subst e'; rw [upd_same] at e ⊢; exact e
  · rw [upd_ne e'] at e ⊢; exact r.sub _ _ e
theorem Tr.lock {d : Addr} {xs : List (Key × V)} {o : Obj} (hd : F d = some (.dK xs)) : Tr F (upd F d (.frz o (.dK xs))) := by
  refine ⟨fun a u e n1 n2 => ?_, fun a ks h => ?_⟩
  · rw [upd_ne (fun z : a = d => by rw [z, hd] at e; cases e; exact n1 _ rfl)]; exact e
  · by_cases e : a = d
    · subst e
      rcases h with h | ⟨o', h⟩
      · rw [hd] at h; cases h
        exact .inr ⟨o, upd_same⟩
      · rw [hd] at h; cases h
    · rcases h with h | ⟨o', h⟩
      · exact .inl (by rw [upd_ne e]; exact h)
      · exact .inr ⟨o', by rw [upd_ne e]; exact h⟩
theorem Tr.unlock {d : Addr} {xs : List (Key × V)} {o : Obj} (hd : F d = some (.frz o (.dK xs))) : Tr F (upd F d (.dK xs)) := by
  refine ⟨fun a u e n1 n2 => ?_, fun a ks h => ?_⟩
  · rw [upd_ne (fun z : a = d => by rw [z, hd] at e; cases e; exact n2 _ _ rfl)]; exact e
  · by_cases e : a = d
    · subst e
      rcases h with h | ⟨o', h⟩
      · rw [hd] at h; cases h
      · rw [hd] at h; cases h
        exact .inl upd_same
    · rcases h with h | ⟨o', h⟩
      · exact .inl (by rw [upd_ne e]; exact h)
      · exact .inr ⟨o', by rw [upd_ne e]; exact h⟩
theorem FR.lst {fs gs as} (h : FR K F H fs gs as) : ∀ a ∈ as.map (·.2), ∃ vs, H a = some (.lst vs) := by
  induction h with
  | nil => intro a ha; simp at ha
  | d _ _ ih => exact ih
  | l h1 _ _ _ ih =>
    intro a ha
    rcases List.mem_cons.mp ha with e | e
    · subst e; exact ⟨_, h1⟩
    · exact ih a e
theorem OR.nofrz {p : FP} {m : MO} (h : OR K CA F H p m) {a : Addr} (ha : a ∈ fpA p) {o : Obj} {u : HO} : H a ≠ some (.frz o u) := by
  intro z
  cases m with
  | lst xs =>
    obtain ⟨vs, e, _, _, e2⟩ := h
    rw [fpA_nil e2] at ha
    have : a = p.1 := by simpa using ha
    subst this; rw [e] at z; cases z
  | dct kvs =>
    obtain ⟨vs, e, _, e2⟩ := h
    rw [fpA_nil e2] at ha
    have : a = p.1 := by simpa using ha
    subst this; rw [e] at z; cases z
  | ins c fs =>
    obtain ⟨dx, gs, e, r, nd⟩ := h
    rw [fpA_ne nd] at ha
    rcases List.mem_cons.mp ha with y | y
    · subst y; rw [e] at z; cases z
    · obtain ⟨vs, e3⟩ := r.lst a y
      rw [e3] at z; cases z
  | dead =>
    rw [fpA_dead h] at ha
    exact absurd ha (by simp)
  | tab j =>
    obtain ⟨e2, ps, e, _⟩ := h
    rw [fpA_nil (by rw [e2])] at ha
    have : a = p.1 := by simpa using ha
    subst this; rw [e] at z; cases z
  | ptup xs =>
    obtain ⟨e2, vs, e, _⟩ := h
    rw [fpA_nil e2] at ha
    have : a = p.1 := by simpa using ha
    subst this; rw [e] at z; cases z
  | clo k ws =>
    obtain ⟨e2, _, cl, c, e, _⟩ := h
    rw [fpA_nil e2] at ha
    have : a = p.1 := by simpa using ha
    subst this; rw [e] at z; cases z
theorem Nx.frz {F1 H1 : Hp} {φ1 : List FP} {st1 : Sto} (n : Nx K CA F φ H F1 φ1 st1 H1) (r : R K CA F φ st H) {d : Addr} {o : Obj} {u : HO} (h : H d = some (.frz o u)) : H1 d = some (.frz o u) := by
  cases hf : F d with
  | some y =>
    have := r.sub _ _ hf
    rw [h] at this; cases this
    exact n.r.sub _ _ (n.le _ _ hf)
  | none =>
    by_cases hm : d ∈ fps φ
    · obtain ⟨k, p, hp, ha⟩ := mem_fps hm
      obtain ⟨m, _, om⟩ := r.at hp
      exact absurd h (om.nofrz ha)
    · exact (n.off d _ h hf hm).1
end
section
variable {X : Cx} {CA : CAT} {a b c : Expr} {pos : Pos} {ma mb mc mr : Mv}
def tUnl (t : TE) : TE := fun σ H Q => t σ H fun v H' => Q v H' ∨ ∃ d u od, (∀ o' u', H d ≠ some (.frz o' u')) ∧ H' d = some (.frz od u) ∧ Q v (upd H' d u)
theorem peUnl {e : Expr} {t : TE} (h : PE X e t) : PE X e (tUnl t) := by
  refine ⟨fun pins s σ H Q I hw => ?_⟩
  refine thn (h.run pins s σ H _ I hw) fun v s1 ⟨x, H1, I2, r, q⟩ => ?_
  rcases q with q | ⟨d, u, od, hn, e, q⟩
  · exact ⟨x, _, I2, r, q⟩
  · exact ⟨x, _, I2.unlock e fun o' u' e' => hn _ _ (I.base.frzs d o' u' e'), r, q⟩
def iKeysL (td : TE) : TI := fun σ H R => td σ H fun x H1 => ∃ d kvs, x = .ref d ∧ ((H1 d = some (.dK kvs) ∧ ∀ o, kvs.length ≤ sizeLine → R (Itk d o kvs) (upd H1 d (.frz o (.dK kvs)))) ∨ ∃ o, H1 d = some (.frz o (.dK kvs)) ∧ (kvs.length ≤ sizeLine → R (Itk d o kvs) H1))
theorem piKeysL {tg e : Expr} {td : TE} (he : PE X e td) : PI X tg e (iKeysL td) := by
  refine ⟨fun pins s σ H R I h => ?_⟩
  refine thn (he.run pins s σ H _ I h) fun u s1 ⟨x, H1, I1, rx, d, kvs, ex, q⟩ => ?_
  subst ex
  obtain rfl : u = Value.ref d := rx
  have key : ∃ H2 o, Inv X pins σ H2 s1 ∧ H2 d = some (.frz o (.dK kvs)) ∧ (kvs.length ≤ sizeLine → R (Itk d o kvs) H2) := by
    rcases q with ⟨hd, q⟩ | ⟨o, hd, q⟩
    · obtain ⟨o, I2⟩ := I1.lock hd True.intro
      exact ⟨_, o, I2, upd_same, q o⟩
    · exact ⟨_, o, I1, hd, q⟩
  obtain ⟨H2, o, I2, hd, q⟩ := key
  obtain ⟨_, z, _⟩ := I2.hok d _ hd
  obtain ⟨hs, hgd, hx, es, ep, vs, hdt, hsz, kv, hm⟩ := I2.frzK hd
  refine iter_keys hs hgd hx hdt (pi_one (tk := s1.toks) I2 _ (turn_keys _ hdt) ⟨_, Heap.get?_push_size _ rfl, rfl, ?_⟩ (q z))
  rw [hsz] <;> rfl
theorem RpK.getK {K : PySem.W.Frag} {F : Hp} {i : Nat} {k : Key} {v : V} : ∀ {xs : List (Key × V)} {ds : List (PyData × PyData)}, RpK K F xs ds → xs[i]? = some (k, v) → ∃ s y, k = Sum.inr s ∧ ds[i]? = some (.str s, y)
  | _, _, .nil, e => by simp at e
  | _, _, .cons (k := k') (d := d') h r, e => by
    cases i with
    | zero => simp at e; obtain ⟨rfl, rfl⟩ := e; exact ⟨k', d', rfl, rfl⟩
    | succ i =>
      obtain ⟨s, y, h1, h2⟩ := RpK.getK (i := i) r (by simpa using e)
      exact ⟨s, y, h1, by simpa using h2⟩
theorem itKeys {K : PySem.W.Frag} {F0 : Hp} {d : Addr} {o : Obj} {xs : List (Key × V)} {qs : List (Str × PyData)} {ok : Hp → List FP → Sto → Prop} (hok : ∀ F φ st, ok F φ st → Le F0 F) (h0 : F0 d = some (.frz o (.dK xs)))
    (h : RpK K F0 xs (qs.map fun p => (.str p.1, p.2))) : ItOk K CA ok (Itk d o xs) (qs.map fun t => .str t.1) := by
  have hl : xs.length = (qs.map fun t : Str × PyData => PyData.str t.1).length := by rw [h.length, List.length_map, List.length_map]
  refine ⟨fun H => H d = some (.frz o (.dK xs)), fun i H x H' => H' = H ∧ ∃ k v, xs[i]? = some (k, v) ∧ x = kV k, ?_, fun F φ st H ok r => r.sub _ _ (hok _ _ _ ok _ _ h0), fun i x H H' F φ st hi ok r y => ?_⟩
  · rw [← hl]
    exact ⟨fun i H hi g => ⟨g, hi⟩, fun H g => ⟨g, Nat.le_refl _⟩, fun _ _ _ _ _ _ y => y⟩
  · obtain ⟨rfl, k, v, e1, e2⟩ := y
    obtain ⟨s, y, e3, e4⟩ := h.getK e1
    subst e3
    subst e2
    refine ⟨F, .str s, ?_, r.nx, .str s⟩
    rw [List.getElem?_map] at e4 ⊢
    obtain ⟨t, e5, e6⟩ := Option.map_eq_some_iff.mp e4
    rw [e5]
    obtain ⟨e7, _⟩ := Prod.mk.inj e6
    show some (PyData.str t.1) = _
    rw [e7]
theorem comp_keys {K : PySem.W.Frag} {tg : Tg} {mt : En → Sto → Option (Bool × Sto)} {me : Mv} {m : Mv} {pure? : Bool}
    (hm : ∀ ρ st, m ρ st = ((ma ρ st).bind fun p => (keysOf p.1).map fun q => ((q, true), p.2)).bind fun p => if p.1.2 || pure? then (compS (compF tg mt me ρ) p.1.1 p.2).map fun q => (.d (.list q.1), q.2) else none)
    (hp : pure? = true → ∀ ρ x st y st', compF tg mt me ρ x st = some (y, st') → st' = st)
    {σ : L2.St} {H : Hp} {Q : VK} (h : TV K CA m σ H Q) : tUnl (tLc (iKeysL (TV K CA ma)) (TGo K CA tg) (TCt K CA mt) (TV K CA me) (tgIs tg)) σ H Q := by
  obtain ⟨F, φ, st, ρ, x, st', r, re, e, q⟩ := h
  rw [hm] at e
  obtain ⟨⟨⟨ds, b⟩, st1⟩, e1, e⟩ := Option.bind_eq_some_iff.mp e
  obtain ⟨⟨v1, st1'⟩, e0, e1⟩ := Option.bind_eq_some_iff.mp e1
  obtain ⟨ks, ek, e1⟩ := Option.map_eq_some_iff.mp e1
  cases e1
  obtain ⟨⟨ys, st2⟩, e2, e3⟩ := Option.map_eq_some_iff.mp (show (compS (compF tg mt me ρ) ds st1').map _ = _ from e)
  cases e3
  dsimp only at e2 q
  refine ⟨F, φ, st, ρ, v1, _, r, re, e0, fun F1 φ1 H1 u1 n1 rv1 => ?_⟩
  unfold keysOf at ek
  dsimp only at ek
  split at ek
  case h_2 => cases ek
  rename_i kvs
  obtain ⟨qs, e4, e5⟩ := Option.map_eq_some_iff.mp ek
  subst e5
  have e6 := toKv_back e4
  subst e6
  have rv' : Rp K F1 u1 (.dict (qs.map fun p => (.str p.1, p.2))) := rv1
  cases rv' with
  | @dct d xs _ hd hk =>
    have hl : xs.length = qs.length := by rw [hk.length, List.length_map]
    have hz : xs.length ≤ sizeLine → (qs.map fun t : Str × PyData => PyData.str t.1).length ≤ sizeL := fun z => by rw [List.length_map, ← hl, sizeL_eq]; exact z
    rcases hd with hd | ⟨o, hd⟩
    · refine ⟨d, xs, rfl, .inl ⟨n1.r.sub _ _ hd, fun o hz0 => ?_⟩⟩
      refine comp_loop (Q := fun v H' => Q v H' ∨ ∃ d u od, (∀ o' u', H d ≠ some (.frz o' u')) ∧ H' d = some (.frz od u) ∧ Q v (upd H' d u)) (b := true) (pure? := pure?) hp (n1.r.swap hd (Tr.lock hd)) ((re.le n1.le n1.gr).tr (Tr.lock hd)) (itKeys (fun _ _ _ o => o.1) upd_same (hk.tr (Tr.lock hd))) (hz hz0) rfl e2 fun F3 φ3 H3 v n3 rv => ?_
      have h3 : F3 d = some (.frz o (.dK xs)) := n3.le _ _ upd_same
      refine .inr ⟨d, .dK xs, o, fun o' u' z => ?_, n3.r.sub _ _ h3, ?_⟩
      · have := n1.frz r z
        rw [n1.r.sub _ _ hd] at this; cases this
      · refine q (upd F3 d (.dK xs)) φ3 _ v ⟨fun b u e => ?_, n1.gr.trans n3.gr, fun b u h1 h2 h3' => ?_, n3.r.swap h3 (Tr.unlock h3)⟩ (RV.tr (Tr.unlock h3) rv)
        · have e7 := n1.le _ _ e
          by_cases eb : b = d
          · subst eb
            rw [hd] at e7; cases e7
            exact upd_same
          · rw [upd_ne eb]
            exact n3.le _ _ (by rw [upd_ne eb]; exact e7)
        · obtain ⟨g1, g2, g3⟩ := n1.off b u h1 h2 h3'
          have eb : b ≠ d := fun z => by rw [z, hd] at g2; cases g2
          obtain ⟨j1, j2, j3⟩ := n3.off b u (by rw [upd_ne eb]; exact g1) (by rw [upd_ne eb]; exact g2) g3
          exact ⟨by rw [upd_ne eb]; exact j1, by rw [upd_ne eb]; exact j2, j3⟩
    · refine ⟨d, xs, rfl, .inr ⟨o, n1.r.sub _ _ hd, fun hz0 => ?_⟩⟩
      exact comp_loop (Q := fun v H' => Q v H' ∨ ∃ d u od, (∀ o' u', H d ≠ some (.frz o' u')) ∧ H' d = some (.frz od u) ∧ Q v (upd H' d u)) (b := true) (pure? := pure?) hp n1.r (re.le n1.le n1.gr) (itKeys (fun _ _ _ o => o.1) hd hk) (hz hz0) rfl e2 fun F3 φ3 H3 v n3 rv => .inl (q _ _ _ _ (n1.trans n3) rv)
theorem pvCompK {elt tg iter : Expr} {ifs : List Expr} {scope : Scope} {own : List (Str × Nat)} {tgt : Tg} {mt : En → Sto → Option (Bool × Sto)} {me : Mv} {m : Mv} {pure? : Bool}
    (hm : ∀ ρ st, m ρ st = ((ma ρ st).bind fun p => (keysOf p.1).map fun q => ((q, true), p.2)).bind fun p => if p.1.2 || pure? then (compS (compF tgt mt me ρ) p.1.1 p.2).map fun q => (.d (.list q.1), q.2) else none)
    (hp : pure? = true → ∀ ρ x st y st', compF tgt mt me ρ x st = some (y, st') → st' = st) (hc : X.calm = true) (hN : X.N.Nodup) (hi : PE X iter (TV X.K CA ma)) (ok : BlkOk X.N X.env.scope scope own) (ho : own.map (·.2) = tgIs tgt)
    (hg : ∀ s H C cl fp, PG (X.blk s H scope (compEnvC scope cl C X.env) fp) tg (TGo X.K CA tgt)) (ht : ∀ s H C cl fp, PTs (X.blk s H scope (compEnvC scope cl C X.env) fp) ifs (TCt X.K CA mt))
    (he : ∀ s H C cl fp, PE (X.blk s H scope (compEnvC scope cl C X.env) fp) elt (TV X.K CA me)) (hs : ∀ x, foldedSetIterable iter X.env x = pure x) : PE X (.ListComp elt [⟨tg, iter, ifs, 0⟩] scope pos) (TV X.K CA m) :=
  peWeak (peUnl (pe_lc hc hN (piKeysL hi) ok hg ht he hs)) fun σ H Q h => by
    rw [ho]
    exact comp_keys hm hp h
/-! ### dict(x), update -/
theorem RpK.merge {K : PySem.W.Frag} {F : Hp} : ∀ {ms : List (Str × PyData)} {more : List (Key × V)} {ks : List (Key × V)} {kvs : List (Str × PyData)}, RpK K F more (ms.map fun q => (.str q.1, q.2)) → RpK K F ks (kvs.map fun q => (.str q.1, q.2)) → RpK K F (mergeK ks more) ((mergeD kvs ms).map fun q => (.str q.1, q.2))
  | [], _, ks, kvs, h, r => by cases h; exact r
  | (k, y) :: ms, _, ks, kvs, h, r => by
    cases h with
    | cons h1 h2 =>
      have t := RpK.merge (ms := ms) h2 (r.put k h1)
      exact t
theorem prs_ok {K : PySem.W.Frag} {F : Hp} : ∀ {xs : List PyData} {vs : List V} {q : List (Str × PyData)}, RpA K F vs xs → prsOf xs = some q → ∃ (ps : List Addr) (kvs : List (Key × V)), vs = ps.map V.ref ∧ Paired (fun p kv => SqT K F p [kV kv.1, kv.2]) ps kvs ∧ RpK K F kvs (q.map fun t => (.str t.1, t.2))
  | [], _, _, .nil, e => by cases e; exact ⟨[], [], rfl, .nil, .nil⟩
  | x :: xs, _, q, .cons h r, e => by
    have key : ∃ k y, x = .tuple [.str k, y] ∧ (prsOf xs).map ((k, y) :: ·) = some q := by
      unfold prsOf at e
      split at e
      · cases ‹_ :: _ = []›
      · rename_i k y r' heq
        obtain ⟨rfl, rfl⟩ := List.cons.inj heq
        exact ⟨k, y, rfl, e⟩
      · cases e
    obtain ⟨k, y, rfl, e⟩ := key
    obtain ⟨q', e1, e2⟩ := Option.map_eq_some_iff.mp e
    subst e2
    obtain ⟨ps, kvs, g1, g2, g3⟩ := prs_ok r e1
    cases h with
    | @tup b ws _ s z ra =>
      cases ra with
      | cons w1 ra =>
        cases w1
        cases ra with
        | @cons w _ _ _ w2 ra =>
          cases ra
          refine ⟨b :: ps, (Sum.inr k, w) :: kvs, by rw [g1]; rfl, .cons s g2, .cons w2 g3⟩
theorem sqT_paired {K : PySem.W.Frag} {F H : Hp} (l : Le F H) {ps : List Addr} {kvs : List (Key × V)} (h : Paired (fun p kv => SqT K F p [kV kv.1, kv.2]) ps kvs) : Paired (fun p kv => SqT K H p [kV kv.1, kv.2]) ps kvs := by
  induction h with
  | nil => exact .nil
  | cons h _ ih => exact .cons (SqT.le l h) ih
def rDic (K : PySem.W.Frag) : List V → Hp → VK → Prop := fun xs H Q => rCpy xs H Q ∨ ∃ (a : Addr) (ps : List Addr) (kvs : List (Key × V)), xs = [.ref a] ∧ SqL K H a (ps.map V.ref) ∧ Paired (fun p kv => SqT K H p [kV kv.1, kv.2]) ps kvs ∧
    ∀ p, H p = none → Q (.ref p) (upd H p (.dK (mergeK [] kvs)))
theorem cr_dic (hc : X.calm = true) : CallR X (.type "dict") (rDic X.K) := by
  intro pins s σ H xs us Q I r q
  rcases q with q | q
  · exact cr_cpy pins s σ H xs us Q I r q
  · exact call_dictP hc pins s σ H xs us Q I r q
def dicS (v : Vl) (st : Sto) : Option (Vl × Sto) := (dat st v).bind fun x => (dctOf x).map fun q => (.r st.length, st ++ [.dct q])
theorem dic_ok {K : PySem.W.Frag} {F H : Hp} {φ : List FP} {st st' : Sto} {u : V} {v z : Vl} {Q : VK} (r : R K CA F φ st H) (rv : RV K F φ u v) (e : dicS v st = some (z, st')) (q : PostV K CA F φ H z st' Q) : rDic K [u] H Q := by
  obtain ⟨x, e1, e⟩ := Option.bind_eq_some_iff.mp e
  obtain ⟨qs, e2, e3⟩ := Option.map_eq_some_iff.mp e
  cases e3
  have t := r.reads rv e1
  have fin : ∀ (ks : List (Key × V)), RpK K F ks (qs.map fun q => (.str q.1, q.2)) → ∀ p, H p = none → Q (.ref p) (upd H p (.dK ks)) := fun ks hk p hp => by
    refine q _ _ _ _ (r.nxEntry (m := .dct qs) hp ⟨ks, upd_same, hk, rfl⟩) ⟨(p, []), ?_, rfl⟩
    rw [r.len, List.getElem?_append_right (Nat.le_refl _)]; simp
  cases x with
  | dict kvs =>
    obtain ⟨a, ks, rfl, g1, g2⟩ := t
    have e4 := toKv_back (show toKv kvs = some qs from e2)
    subst e4
    exact .inl ⟨a, ks, rfl, g1, fin ks g2⟩
  | list xs =>
    obtain ⟨a, vs, rfl, g1, g2, g3⟩ := t
    obtain ⟨q', e5, e6⟩ := Option.map_eq_some_iff.mp (show (prsOf xs).map (fun q => mergeD [] q) = some qs from e2)
    subst e6
    obtain ⟨ps, kvs, rfl, h2, h3⟩ := prs_ok g3 e5
    exact .inr ⟨a, ps, kvs, rfl, SqL.of g1, sqT_paired r.sub h2, fin _ (RpK.merge h3 .nil)⟩
  | _ => cases e2
theorem upd_okV {K : PySem.W.Frag} {F H : Hp} {φ : List FP} {st st' : Sto} {u w : V} {v v' z : Vl} {Q : VK} (r : R K CA F φ st H) (rv : RV K F φ u v) (rv' : RV K F φ w v') (e : mt1S .upd v v' st = some (z, st')) (q : PostV K CA F φ H z st' Q) : rUpd u [w] H Q := by
  cases v with
  | d x => cases e
  | f n s => cases e
  | s ns => cases e
  | r n =>
    obtain ⟨p, hp, rfl⟩ := rv
    obtain ⟨m, hm, om⟩ := r.at hp
    simp only [mt1S, hm] at e
    cases m with
    | lst xs => cases e
    | ins c fs => cases e
    | dead => cases e
    | tab _ => cases e
    | ptup _ => cases e
    | clo _ _ => cases e
    | dct kvs =>
      obtain ⟨ks, g1, g2, g3⟩ := om
      dsimp only at e
      split at e
      · cases e
      · rename_i hn
        obtain ⟨x, e1, e⟩ := Option.bind_eq_some_iff.mp e
        have t := r.reads rv' e1
        cases x with
        | dict ds =>
          obtain ⟨more, e2, e⟩ := Option.bind_eq_some_iff.mp e
          split at e
          · rename_i hl
            cases e
            obtain ⟨b, ks2, rfl, j1, j2⟩ := t
            have e4 := toKv_back e2
            subst e4
            have hpa : p.1 ∈ fpA p := by rw [fpA_nil g3]; simp
            have ne : p.1 ≠ b := by
              intro z
              cases v' with
              | d y =>
                cases e1
                have rv2 : Rp K F (.ref b) (.dict (more.map fun p => (.str p.1, p.2))) := rv'
                cases rv2 with
                | dct hd _ =>
                  have hF := r.dis _ (mem_fps_of hp hpa)
                  rw [z] at hF
                  rcases hd with hd | ⟨o, hd⟩ <;> rw [hF] at hd <;> cases hd
              | r k =>
                obtain ⟨p2, hp2, e5⟩ := rv'
                cases e5
                obtain ⟨m2, hm2, om2⟩ := r.at hp2
                simp only [dat, hm2] at e1
                cases m2 with
                | lst xs => cases e1
                | ins c fs => cases e1
                | dead => cases e1
                | tab _ => cases e1
                | ptup _ => cases e1
                | clo _ _ => cases e1
                | dct kv2 =>
                  obtain ⟨_, _, _, g4⟩ := om2
                  have hk : n ≠ k := fun z2 => by
                    subst z2
                    exact hn (by simp [isR])
                  exact fps_two r.nd hp hp2 hk hpa (by rw [fpA_nil g4, z]; simp)
              | f k s =>
                simp only [dat] at e1
                split at e1
                · split at e1
                  · cases e1
                  · cases e1
                · cases e1
              | s ns => cases e1
            refine ⟨p.1, b, ks, ks2, rfl, rfl, ne, g1, j1, ?_, q _ _ _ _ (r.nxChange hp hpa ⟨_, upd_same, RpK.merge j2 g2, g3⟩) .non⟩
            rw [g2.length, j2.length, List.length_map, List.length_map, ← sizeL_eq]; exact hl
          · cases e
        | _ => cases e
theorem rcvDct {K : PySem.W.Frag} {F H : Hp} {φ : List FP} {st : Sto} {u : V} {v : Vl} (r : R K CA F φ st H) (rv : RV K F φ u v) (e : rcvOk .upd v st = true) : tyV K "dict" u H := by
  cases v with
  | r n =>
    obtain ⟨p, hp, rfl⟩ := rv
    obtain ⟨m, hm, om⟩ := r.at hp
    simp only [rcvOk, dat, hm] at e
    cases m with
    | dct kvs =>
      obtain ⟨ks, g1, g2, g3⟩ := om
      exact .inr (.inr (.inl ⟨rfl, .inl ⟨ks, g1⟩⟩))
    | lst xs => cases e
    | ins c fs => cases e
    | dead => cases e
    | tab _ => cases e
    | ptup _ => cases e
    | clo _ _ => cases e
  | d x => cases x <;> cases e
  | f n s =>
    exfalso
    unfold rcvOk at e
    split at e <;> first | cases e | skip
    all_goals simp_all
  | s ns => cases e
/-! ### displays -/
def trsOf (K : PySem.W.Frag) (CA : CAT) (C I : CallF) : Es → List (TE × TE)
  | .cons k (.cons v r) => (TV K CA (evE C I k), TV K CA (evE C I v)) :: trsOf K CA C I r
  | _ => []
theorem tPairs_ok {K : PySem.W.Frag} {C I : CallF} {σ : L2.St} {ρ : En} : ∀ (es : Es) {F H : Hp} {φ : List FP} {st st' : Sto} {xs : List Vl} {q : List (Str × PyData)} {T : List (V × V) → Hp → Prop}, R K CA F φ st H → RE K F φ σ ρ → evEs C I es ρ st = some (xs, st') → pairUp xs = some q →
    (∀ F' φ' H' kvs, Nx K CA F φ H F' φ' st' H' → RpK K F' kvs (q.map fun t => (.str t.1, t.2)) → T (kvs.map fun kv => (kV kv.1, kv.2)) H') → tPairs (trsOf K CA C I es) σ H T
  | .nil, F, H, φ, st, st', xs, q, T, r, re, e, eq, h => by
    simp only [evEs] at e
    cases e
    cases eq
    exact h F φ H [] r.nx .nil
  | .cons k .nil, F, H, φ, st, st', xs, q, T, r, re, e, eq, h => by
    simp only [evEs] at e
    obtain ⟨⟨v1, st1⟩, e1, e⟩ := Option.bind_eq_some_iff.mp e
    obtain ⟨⟨v2, st2⟩, e2, e3⟩ := Option.map_eq_some_iff.mp e
    cases e2
    cases e3
    unfold pairUp at eq
    split at eq
    · cases ‹_ :: _ = []›
    · rename_i heq; cases heq
    · cases eq
  | .cons k (.cons v rs), F, H, φ, st, st', xs, q, T, r, re, e, eq, h => by
    simp only [evEs] at e
    obtain ⟨⟨v1, st1⟩, e1, e⟩ := Option.bind_eq_some_iff.mp e
    obtain ⟨⟨vs2, st2⟩, e2, e3⟩ := Option.map_eq_some_iff.mp e
    cases e3
    obtain ⟨⟨v2, st3⟩, e4, e5⟩ := Option.bind_eq_some_iff.mp e2
    obtain ⟨⟨vs3, st4⟩, e6, e7⟩ := Option.map_eq_some_iff.mp e5
    cases e7
    have key : ∃ z y, v1 = .d (.str z) ∧ v2 = .d y ∧ (pairUp vs3).map ((z, y) :: ·) = some q := by
      unfold pairUp at eq
      split at eq
      · cases ‹_ :: _ = []›
      · rename_i z y r' heq
        cases heq
        exact ⟨z, y, rfl, rfl, eq⟩
      · cases eq
    obtain ⟨z, y, rfl, rfl, eq⟩ := key
    obtain ⟨q', e8, e9⟩ := Option.map_eq_some_iff.mp eq
    subst e9
    refine ⟨F, φ, st, ρ, _, st1, r, re, e1, fun F1 φ1 H1 u1 n1 rv1 => ?_⟩
    refine ⟨F1, φ1, st1, ρ, _, st3, n1.r, re.le n1.le n1.gr, e4, fun F2 φ2 H2 u2 n2 rv2 => ?_⟩
    have n12 := n1.trans n2
    refine tPairs_ok rs n2.r (re.le n12.le n12.gr) e6 e8 fun F3 φ3 H3 kvs n3 rk => ?_
    have rv1' : Rp K F1 u1 (.str z) := rv1
    cases rv1'
    have rv2' : Rp K F2 u2 y := rv2
    exact h F3 φ3 H3 ((Sum.inr z, u2) :: kvs) (n12.trans n3) (.cons (rv2'.le n3.le) rk)
theorem RpK.len {K : PySem.W.Frag} {F : Hp} {ks : List (Key × V)} {q : List (Str × PyData)} (h : RpK K F ks (q.map fun t => (.str t.1, t.2))) : ks.length = q.length := by rw [h.length, List.length_map]
theorem disp_ok {K : PySem.W.Frag} {C I : CallF} {es : Es} {m : Mv} (hm : ∀ ρ st, m ρ st = (evEs C I es ρ (st ++ [.dct []])).bind fun p => (pairUp p.1).bind fun q => if q.length ≤ 15 then ndctS st.length q p.2 else none) {σ : L2.St} {H : Hp} {Q : VK} (h : TV K CA m σ H Q) : tDisp (trsOf K CA C I es) σ H Q := by
  obtain ⟨F, φ, st, ρ, x, st', r, re, e, q⟩ := h
  rw [hm] at e
  obtain ⟨⟨vs, st1⟩, e1, e⟩ := Option.bind_eq_some_iff.mp e
  obtain ⟨qs, e2, e⟩ := Option.bind_eq_some_iff.mp e
  split at e
  case isFalse => cases e
  rename_i hl
  intro p hp
  have n0 := r.nxEntry (o := .dK []) (m := .dct []) hp ⟨[], upd_same, .nil, rfl⟩
  refine tPairs_ok es n0.r (re.le n0.le n0.gr) e1 e2 fun F1 φ1 H1 kvs n1 rk => ?_
  unfold ndctS at e
  dsimp only at e
  obtain ⟨p1, hp1, e4, _⟩ := n1.gr st.length (p, []) (by rw [r.len, List.getElem?_append_right (Nat.le_refl _)]; simp)
  obtain ⟨mm, hmm, om⟩ := n1.r.at hp1
  rw [hmm] at e
  split at e
  · rename_i heq
    cases heq
    cases e
    obtain ⟨ks, g1, g2, g3⟩ := om
    cases g2
    dsimp only at e4
    rw [e4] at g1
    refine ⟨g1, kvs, rfl, by rw [rk.len]; exact hl, ?_⟩
    have hpa : p ∈ fpA p1 := by rw [fpA_nil g3, e4]; simp
    exact q _ _ _ _ ((n0.trans n1).trans (n1.r.nxChange hp1 hpa (m := .dct (mergeD [] qs)) ⟨_, by rw [e4]; exact upd_same, RpK.merge rk .nil, g3⟩)) ⟨p1, hp1, by rw [e4]⟩
  · cases e
theorem pvDisp0 {C I : CallF} {m : Mv} (hm : ∀ ρ st, m ρ st = (evEs C I .nil ρ (st ++ [.dct []])).bind fun p => (pairUp p.1).bind fun q => if q.length ≤ 15 then ndctS st.length q p.2 else none) : PE X (.Dict [] [] pos) (TV X.K CA m) :=
  peWeak pe_dnewK fun σ H Q ⟨F, φ, st, ρ, x, st', r, re, e, q⟩ p hp => by
    rw [hm] at e
    simp only [evEs, pairUp, ndctS, Option.bind_some, List.length_nil, Nat.zero_le, if_true, List.getElem?_append_right (Nat.le_refl st.length), Nat.sub_self, List.getElem?_cons_zero] at e
    cases e
    have e2 : (st ++ [MO.dct []]).set st.length (.dct (mergeD [] [])) = st ++ [.dct []] := by
      rw [List.set_append_right _ _ (Nat.le_refl _), Nat.sub_self]; rfl
    refine q _ _ _ _ (e2 ▸ r.nxEntry (o := .dK []) (m := .dct []) hp ⟨[], upd_same, .nil, rfl⟩) ⟨(p, []), ?_, rfl⟩
    rw [r.len, List.getElem?_append_right (Nat.le_refl _)]; simp
end
/-! ### a ghost statement -/
theorem pssFrz {X : Cx} {CA : CAT} {ps : List Stmt} {i : Nat} {m m' : Ms} (hm : ∀ ρ st, m ρ st = (frzS ρ st ρ[i]?).bind fun p => m' p.1 p.2) (h : PSs X ps (TSv X.K CA m')) : PSs X ps (TSv X.K CA m) :=
  pssWeak h fun D σ H ⟨F, φ, st, ρ, o, ρ', st', r, re, e, q⟩ => by
    rw [hm] at e
    obtain ⟨⟨ρ1, st1⟩, e1, e2⟩ := Option.bind_eq_some_iff.mp e
    obtain ⟨F1, φ1, n1, re1⟩ := frz_ok r re e1
    exact ⟨F1, φ1, st1, ρ1, o, ρ', st', n1.r, re1, e2, fun F2 φ2 H2 σ2 n2 re2 => q _ _ _ _ (n1.trans n2) re2⟩
end Tw
namespace Tw
open PySem L2
/-! ### sorted, of texts -/
theorem leS_iff (x y : Str) : leS x y = true ↔ x.cps.toList ≤ y.cps.toList := by
  unfold leS
  rw [Bool.not_eq_true', decide_eq_false_iff_not, List.not_lt]
theorem leS_trans (x y z : Str) (h1 : leS x y = true) (h2 : leS y z = true) : leS x z = true := by
  rw [leS_iff] at *
  exact List.le_trans h1 h2
theorem leS_total (x y : Str) : (leS x y || leS y x) = true := by
  rw [Bool.or_eq_true, leS_iff, leS_iff]
  exact List.le_total _ _
theorem leS_anti (x y : Str) (h1 : leS x y = true) (h2 : leS y x = true) : x = y := by
  rw [leS_iff] at h1 h2
  have h := List.le_antisymm h1 h2
  cases x; cases y
  exact congrArg Str.mk (Array.toList_inj.mp h)
theorem rising_le : ∀ (l : List Str) (p : Str), PyProof.Rows.risingS p l = true → (p :: l).Pairwise (fun a b => leS a b = true)
  | [], p, _ => List.pairwise_singleton ..
  | x :: l, p, h => by
    simp only [PyProof.Rows.risingS, Bool.and_eq_true] at h
    have ih := rising_le l x h.2
    have hp : leS p x = true := by
      unfold leS
      rw [PyProof.Rows.le_meets]; exact h.1
    refine List.pairwise_cons.mpr ⟨fun y hy => ?_, ih⟩
    rcases List.mem_cons.mp hy with e | e
    · rw [e]; exact hp
    · exact leS_trans _ _ _ hp ((List.pairwise_cons.mp ih).1 y e)
theorem sorted_le (l : List Str) (h : PyProof.Rows.sortedS l = true) : l.Pairwise (fun a b => leS a b = true) := by
  cases l with
  | nil => exact List.Pairwise.nil
  | cons x l => exact rising_le l x h
theorem srt_uniq {xs ys : List Str} (h1 : ys.Perm xs) (h2 : PyProof.Rows.sortedS ys = true) : ys = xs.mergeSort leS :=
  List.Perm.eq_of_pairwise (le := fun a b => leS a b = true) (fun a b _ _ h h' => leS_anti a b h h') (sorted_le ys h2) (List.pairwise_mergeSort leS_trans leS_total xs) (h1.trans (List.mergeSort_perm xs leS).symm)
theorem RpA.ofStrs {K : PySem.W.Frag} {F : Hp} : ∀ (xs : List Str), RpA K F (xs.map V.str) (xs.map PyData.str)
  | [] => .nil
  | x :: xs => .cons (.str x) (RpA.ofStrs xs)
theorem srt_okS {K : PySem.W.Frag} {CA : CAT} {F H : Hp} {φ : List FP} {st : Sto} {y : PyData} {Q : VK} {xs zs : List Str} {p : Addr} (r : R K CA F φ st H) (hl : xs.length < 64) (e : PyData.list ((xs.mergeSort leS).map .str) = y) (q : PostD K CA F φ st H y Q)
    (h1 : zs.Perm xs) (h2 : PyProof.Rows.sortedS zs = true) (hp : H p = none) : Q (.ref p) (upd H p (.lst (zs.map V.str))) := by
  have h3 := srt_uniq h1 h2
  subst h3
  subst e
  refine q _ _ _ (r.nxData hp _) (Rp.lst upd_same ?_ (RpA.ofStrs _))
  rw [List.length_map, (List.mergeSort_perm xs leS).length_eq]
  show xs.length ≤ 16777216
  omega
/-- pairs of texts, as they lie -/
theorem RpA.prs {K : PySem.W.Frag} {F : Hp} : ∀ {xs : List PyData} {vs : List V} {ps : List (Str × Str)}, RpA K F vs xs → prsD xs = some ps → ∃ L : List (Addr × Str × Str), vs = L.map (fun z => V.ref z.1) ∧ L.map (·.2) = ps ∧ ∀ z ∈ L, SqT K F z.1 [.str z.2.1, .str z.2.2]
  | [], _, _, h, e => by
    cases h
    cases e
    exact ⟨[], rfl, rfl, fun z hz => by cases hz⟩
  | x :: xs, _, ps, h, e => by
    cases h with
    | @cons v vs _ _ h1 h2 =>
      unfold prsD at e
      split at e
      · rename_i hx; cases hx
      · rename_i a b r hx
        cases hx
        obtain ⟨qs, e1, e2⟩ := Option.map_eq_some_iff.mp e
        subst e2
        obtain ⟨L, l1, l2, l3⟩ := RpA.prs h2 e1
        cases h1 with
        | tup s z q =>
          cases q with
          | cons q1 q2 =>
            cases q2 with
            | cons q3 q4 =>
              cases q4
              cases q1
              cases q3
              refine ⟨(_, a, b) :: L, by rw [l1]; rfl, by rw [List.map_cons, l2], fun z hz => ?_⟩
              rcases List.mem_cons.mp hz with rfl | hz
              · exact s
              · exact l3 z hz
      · cases e
theorem RpA.ofPrs {K : PySem.W.Frag} {F : Hp} : ∀ (M : List (Addr × Str × Str)), (∀ z ∈ M, SqT K F z.1 [.str z.2.1, .str z.2.2]) → RpA K F (M.map fun z => V.ref z.1) ((M.map (·.2)).map encP)
  | [], _ => .nil
  | z :: M, h => .cons (.tup (h z (by simp)) (by show 2 ≤ 16777216; omega) (.cons (.str _) (.cons (.str _) .nil))) (RpA.ofPrs M fun y hy => h y (List.mem_cons_of_mem _ hy))
theorem srt_okP {K : PySem.W.Frag} {CA : CAT} {F H : Hp} {φ : List FP} {st : Sto} {y : PyData} {Q : VK} {L M : List (Addr × Str × Str)} {p : Addr} (r : R K CA F φ st H) (hz : ∀ z ∈ L, SqT K F z.1 [.str z.2.1, .str z.2.2]) (hM : ∀ z ∈ M, z ∈ L) (e : PyData.list ((M.map (·.2)).map encP) = y) (hn : M.length < 64)
    (q : PostD K CA F φ st H y Q) (hp : H p = none) : Q (.ref p) (upd H p (.lst (M.map fun z => V.ref z.1))) := by
  subst e
  have n := r.nxData hp (.lst (M.map fun z => V.ref z.1))
  refine q _ _ _ n (Rp.lst upd_same ?_ (RpA.ofPrs M fun z h => SqT.le n.le (hz z (hM z h))))
  rw [List.length_map, List.length_map]
  show M.length ≤ 16777216
  omega
theorem srt_ok {K : PySem.W.Frag} {CA : CAT} {F H : Hp} {φ : List FP} {st : Sto} {u : V} {x y : PyData} {Q : VK} (r : R K CA F φ st H) (rx : Rt K F H u x) (e : fn1D .srt x = some y) (q : PostD K CA F φ st H y Q) : rSortedAny K [u] H Q := by
  cases x with
  | list xs =>
    obtain ⟨a, vs, rfl, g1, g2, g3⟩ := rx
    have e : srtD xs = some y := e
    unfold srtD at e
    cases e1 : strsD xs with
    | some ys =>
      rw [e1] at e
      dsimp only at e
      split at e
      · rename_i hl
        have g4 := g3.strs e1
        subst g4
        exact .inl (.inl ⟨a, ys, rfl, SqL.of g1, hl, fun zs p h1 h2 hp => srt_okS r hl (Option.some.inj e) q h1 h2 hp⟩)
      · cases e
    | none =>
      rw [e1] at e
      dsimp only at e
      cases e2 : prsD xs with
      | none => rw [e2] at e; cases e
      | some ps =>
        rw [e2] at e
        dsimp only at e
        split at e
        · rename_i hl
          obtain ⟨L, l1, l2, l3⟩ := g3.prs e2
          subst l1
          subst l2
          rw [List.length_map] at hl
          refine .inr ⟨a, L, rfl, SqL.of g1, fun z hz => SqT.le r.sub (l3 z hz), hl, fun M p h1 h2 hp => srt_okP r l3 h1 (by rw [h2]; exact Option.some.inj e) ?_ q hp⟩
          have := congrArg List.length h2
          rw [List.length_map, (List.mergeSort_perm _ leP).length_eq, List.length_map] at this
          omega
        · cases e
  | tuple xs =>
    have e : srtT xs = some y := e
    unfold srtT at e
    cases e1 : strsD xs with
    | none => rw [e1] at e; cases e
    | some ys =>
    rw [e1] at e
    dsimp only at e
    split at e
    · rename_i hl
      obtain ⟨a, vs, rfl, g1, g2, g3, _⟩ := Rt.tup r rx
      have g4 := g3.strs e1
      subst g4
      exact .inl (.inr ⟨a, ys, rfl, g1, hl, fun zs p h1 h2 hp => srt_okS r hl (Option.some.inj e) q h1 h2 hp⟩)
    · cases e
  | _ => cases e
end Tw
set_option Elab.async false
set_option linter.all false
set_option maxRecDepth 100000
set_option maxHeartbeats 4000000
/-! C7c: instances: fields, methods, making; dict(list(zip(..))). -/
namespace Tw
open PySem L2
theorem starEach_len {env : Env} : ∀ {es : List Expr}, es.all notStar = true → (starEach es env).length = es.length
  | [], _ => rfl
  | e :: es, h => by
    rw [List.all_cons, Bool.and_eq_true] at h
    rw [starOne h.1, List.length_cons, List.length_cons, starEach_len h.2]
theorem starAll {env : Env} {pos : Pos} : ∀ {es : List Expr}, es.all notStar = true → (backTo pos (starEach es env)).all (!·.1) = true
  | [], _ => rfl
  | e :: es, h => by
    rw [List.all_cons, Bool.and_eq_true] at h
    rw [starOne h.1]
    have ih := starAll (env := env) (pos := pos) h.2
    unfold backTo at ih ⊢
    rw [List.map_cons, List.all_cons, ih]
    rfl
theorem methForm {env : Env} {pos : Pos} {es : List Expr} (h : es.all notStar = true) (hl : es.length < 30) : methodCallForm (es.length + ([] : List Keyword).length) (backTo pos (starEach es env)) (backToKw pos (keywordEach [] env)) = true := by
  unfold methodCallForm
  rw [starAll h]
  have e : (backToKw pos (keywordEach [] env)) = [] := rfl
  rw [e]
  simp; exact hl
theorem methHt {o : Expr} {m : Str} {apos pos : Pos} {es : List Expr} {env : Env} (hb : attributeBase o m env (eval o env) = eval o env) (h : es.all notStar = true) (hl : es.length < 30) (hp : (apos.endLine == pos.line) = true) :
    eval (.Call (.Attribute o m apos) es [] pos) env = (do
      let ov ← eval o env
      standAt apos.atName
      let (f, first) ← holding [ov] (getMethod ov m (do return (← importBound o env).getD true))
      callWith pos f first (backTo pos (starEach es env)) (backToKw pos (keywordEach [] env))) := by
  rw [arm_eval_Call, hb]
  unfold methodCall
  rw [methForm h hl]
  simp only [calleeOf, methodCallPos, hp, if_true, Bool.not_true, Bool.false_or]
  rfl
/-! ### fields -/
section
variable {K : PySem.W.Frag} {CA : CAT} {F H : Hp} {φ : List FP} {st : Sto}
theorem FR.lookN {fs gs as} (h : FR K F H fs gs as) {a : Str} (e : (fs.lookup a).isNone = true) : gs.lookup a = none := by
  induction h with
  | nil => rfl
  | @d a' v y fs gs as h1 _ ih =>
    by_cases hk : a = a'
    · subst hk; rw [List.lookup_cons_self] at e; cases e
    · have hk' : (a == a') = false := by simpa using hk
      rw [List.lookup_cons, hk'] at e
      rw [List.lookup_cons, hk']
      exact ih e
  | @l a' b vs ys fs gs as h1 z h2 _ ih =>
    by_cases hk : a = a'
    · subst hk; rw [List.lookup_cons_self] at e; cases e
    · have hk' : (a == a') = false := by simpa using hk
      rw [List.lookup_cons, hk'] at e
      rw [List.lookup_cons, hk']
      exact ih e
theorem FR.len {fs gs as} (h : FR K F H fs gs as) : gs.length = fs.length := by
  induction h with
  | nil => rfl
  | d _ _ ih => rw [List.length_cons, List.length_cons, ih]
  | l _ _ _ _ ih => rw [List.length_cons, List.length_cons, ih]
theorem FR.putD {fs gs as} {a : Str} {v : V} {x : PyData} (h : FR K F H fs gs as) (hv : Rp K F v x) (e : ∀ xs, fs.lookup a ≠ some (.l xs)) : FR K F H (putF a (.d x) fs) (L2.putF a v gs) as := by
  induction h with
  | nil => exact .d hv .nil
  | @d a' w y fs gs as h1 h2 ih =>
    unfold putF L2.putF
    by_cases hk : a' = a
    · subst hk
      rw [if_pos rfl, if_pos rfl]
      exact .d hv h2
    · rw [if_neg hk, if_neg hk]
      refine .d h1 (ih fun xs q => e xs ?_)
      have hk' : (a == a') = false := by simpa using fun z : a = a' => hk z.symm
      rw [List.lookup_cons, hk']; exact q
  | @l a' b vs ys fs gs as h1 z h2 h3 ih =>
    unfold putF L2.putF
    by_cases hk : a' = a
    · subst hk
      exact absurd (List.lookup_cons_self) (e ys)
    · rw [if_neg hk, if_neg hk]
      refine .l h1 z h2 (ih fun xs q => e xs ?_)
      have hk' : (a == a') = false := by simpa using fun z : a = a' => hk z.symm
      rw [List.lookup_cons, hk']; exact q
theorem FR.addL {fs gs as} {a : Str} {l : Addr} (h : FR K F H fs gs as) (e : (fs.lookup a).isNone = true) (hl : H l = some (.lst [])) : FR K F H (fs ++ [(a, .l [])]) (L2.putF a (.ref l) gs) (as ++ [(a, l)]) := by
  induction h with
  | nil => exact .l hl (Nat.zero_le _) .nil .nil
  | @d a' w y fs gs as h1 h2 ih =>
    have hk : a ≠ a' := fun z => by subst z; rw [List.lookup_cons_self] at e; cases e
    have hk' : (a == a') = false := by simpa using hk
    rw [List.lookup_cons, hk'] at e
    unfold L2.putF
    rw [if_neg (Ne.symm hk)]
    exact .d h1 (ih e)
  | @l a' b vs ys fs gs as h1 z h2 h3 ih =>
    have hk : a ≠ a' := fun z => by subst z; rw [List.lookup_cons_self] at e; cases e
    have hk' : (a == a') = false := by simpa using hk
    rw [List.lookup_cons, hk'] at e
    unfold L2.putF
    rw [if_neg (Ne.symm hk)]
    exact .l h1 z h2 (ih e)
theorem fps_add {l : Addr} {p p' : FP} (e : fpA p' = fpA p ++ [l]) : ∀ {φ : List FP} {n : Nat}, φ[n]? = some p → (fps φ).Nodup → l ∉ fps φ → (fps (φ.set n p')).Nodup ∧ ∀ b, b ∈ fps (φ.set n p') → b ∈ fps φ ∨ b = l
  | [], _, h, _, _ => by simp at h
  | q :: φ, 0, h, nd, hl => by
    simp at h; subst h
    have e1 : fps (q :: φ) = fpA q ++ fps φ := by simp [fps]
    have e2 : fps (p' :: φ) = fpA q ++ [l] ++ fps φ := by simp [fps, e]
    rw [e1] at nd hl
    rw [List.set_cons_zero, e2, e1]
    obtain ⟨n1, n2, n3⟩ := List.nodup_append.mp nd
    rw [List.mem_append, not_or] at hl
    refine ⟨List.nodup_append.mpr ⟨List.nodup_append.mpr ⟨n1, by simp, fun a ha b hb z => ?_⟩, n2, fun a ha b hb z => ?_⟩, fun b hb => ?_⟩
    · rw [List.mem_singleton.mp hb] at z; exact hl.1 (z ▸ ha)
    · rcases List.mem_append.mp ha with ha | ha
      · exact n3 a ha b hb z
      · rw [List.mem_singleton.mp ha] at z; exact hl.2 (z ▸ hb)
    · rcases List.mem_append.mp hb with hb | hb
      · rcases List.mem_append.mp hb with hb | hb
        · exact .inl (List.mem_append_left _ hb)
        · exact .inr (List.mem_singleton.mp hb)
      · exact .inl (List.mem_append_right _ hb)
  | q :: φ, n + 1, h, nd, hl => by
    have e1 : fps (q :: φ) = fpA q ++ fps φ := by simp [fps]
    have e2 : fps (q :: φ.set n p') = fpA q ++ fps (φ.set n p') := by simp [fps]
    rw [e1] at nd hl
    obtain ⟨n1, n2, n3⟩ := List.nodup_append.mp nd
    rw [List.mem_append, not_or] at hl
    obtain ⟨i1, i2⟩ := fps_add e (by simpa using h) n2 hl.2
    rw [List.set_cons_succ, e2, e1]
    refine ⟨List.nodup_append.mpr ⟨n1, i1, fun a ha b hb z => ?_⟩, fun b hb => ?_⟩
    · rcases i2 b hb with hb | hb
      · exact n3 a ha b hb z
      · exact hl.1 (by rw [← hb, ← z]; exact ha)
    · rcases List.mem_append.mp hb with hb | hb
      · exact .inl (List.mem_append_left _ hb)
      · rcases i2 b hb with hb | hb
        · exact .inl (List.mem_append_right _ hb)
        · exact .inr hb
/-- o.a = [], the list nobody's until then -/
theorem R.own (r : R K CA F φ st H) {n c : Nat} {p : FP} {a : Str} {l dx : Addr} {fs : List (Str × Fl)} {gs : List (Str × V)} (hp : φ[n]? = some p) (h1 : H p.1 = some (.ins (CA c) dx gs)) (h2 : FR K F H fs gs p.2) (nd : p.2 ≠ deadM) (ha : a ≠ ⟨#[]⟩) (e : (fs.lookup a).isNone = true)
    (hl : H l = some (.lst [])) (fl : F l = none) (ml : l ∉ fps φ) :
    Gr φ (φ.set n (p.1, p.2 ++ [(a, l)])) ∧ (∀ b, b ∈ fps (φ.set n (p.1, p.2 ++ [(a, l)])) → b ∈ fps φ ∨ b = l) ∧ p.1 ∈ fps φ ∧ R K CA F (φ.set n (p.1, p.2 ++ [(a, l)])) (st.set n (.ins c (fs ++ [(a, .l [])]))) (upd H p.1 (.ins (CA c) dx (L2.putF a (.ref l) gs))) := by
  have hpm : p.1 ∈ fpA p := by rw [fpA_ne nd]; simp
  have hpf : p.1 ∈ fps φ := mem_fps_of hp hpm
  have nd2 : p.2 ++ [(a, l)] ≠ deadM := by
    intro z
    unfold deadM at z
    cases hq : p.2 with
    | nil => rw [hq] at z; simp at z; exact ha z.1
    | cons x xs => rw [hq] at z; simp at z
  have hfp : fpA (p.1, p.2 ++ [(a, l)]) = fpA p ++ [l] := by
    rw [fpA_ne nd, fpA_ne nd2]; simp
  obtain ⟨k1, k2⟩ := fps_add hfp hp r.nd ml
  have hlt : n < φ.length := (List.getElem?_eq_some_iff.mp hp).1
  have nel : l ≠ p.1 := fun z => ml (z ▸ hpf)
  refine ⟨fun m q q1 => ?_, k2, hpf, fun b u q1 => ?_, fun b q1 => ?_, k1, by rw [List.length_set, List.length_set]; exact r.len, fun m mm q q1 q2 => ?_⟩
  · by_cases hm : n = m
    · subst hm
      rw [hp] at q1; cases q1
      refine ⟨_, List.getElem?_set_self hlt, rfl, fun a' b' q2 => ?_⟩
      show (p.2 ++ [(a, l)]).lookup a' = some b'
      rw [List.lookup_append, q2]; rfl
    · exact ⟨q, by rw [List.getElem?_set_ne hm]; exact q1, rfl, fun _ _ z => z⟩
  · have : b ≠ p.1 := fun z => by rw [z, r.dis _ hpf] at q1; cases q1
    rw [upd_ne this]; exact r.sub _ _ q1
  · rcases k2 b q1 with z | z
    · exact r.dis b z
    · rw [z]; exact fl
  · by_cases hm : n = m
    · subst hm
      rw [List.getElem?_set_self (by rw [r.len]; exact hlt)] at q1
      rw [List.getElem?_set_self hlt] at q2
      cases q1; cases q2
      refine ⟨dx, _, upd_same, (h2.addL e hl).keep Le.rfl fun b hb => ?_, nd2⟩
      rw [upd_ne]
      rintro rfl
      simp only [List.map_append, List.map_cons, List.map_nil, List.mem_append, List.mem_singleton] at hb
      rcases hb with hb | hb
      · have ndp : (fpA p).Nodup := by
          have e3 : fps φ = fps (φ.take n) ++ fps (φ.drop n) := by rw [← fps_app, List.take_append_drop]
          have h5 := r.nd
          rw [e3, List.drop_eq_getElem_cons hlt, (List.getElem?_eq_some_iff.mp hp).2] at h5
          have h6 := (List.nodup_append.mp h5).2.1
          have h7 : fps (p :: φ.drop (n + 1)) = fpA p ++ fps (φ.drop (n + 1)) := by simp [fps]
          rw [h7] at h6
          exact (List.nodup_append.mp h6).1
        rw [fpA_ne nd] at ndp
        exact (List.nodup_cons.mp ndp).1 hb
      · exact nel hb.symm
    · rw [List.getElem?_set_ne hm] at q1 q2
      refine (r.obj m mm q q1 q2).keep Le.rfl fun b hb => ?_
      rw [upd_ne]
      rintro rfl
      exact fps_two r.nd hp q2 hm hpm hb
end
/-! ### the rules -/
theorem tvImp {K : PySem.W.Frag} {CA : CAT} {m : Mv} {σ : L2.St} {H : Hp} {Q Q' : VK} (h : TV K CA m σ H Q) (w : ∀ v H, Q v H → Q' v H) : TV K CA m σ H Q' :=
  let ⟨F, φ, st, ρ, x, st', r, re, e, q⟩ := h
  ⟨F, φ, st, ρ, x, st', r, re, e, fun F' φ' H' v n rv => w _ _ (q _ _ _ _ n rv)⟩
section
variable {X : Cx} {CA : CAT} {a b : Expr} {pos : Pos} {ma mb : Mv}
theorem fld_ok {K : PySem.W.Frag} {F H : Hp} {φ : List FP} {st st' : Sto} {u : V} {v z : Vl} {c : Nat} {f : Str} {Q : VK} (cl : Cls K (CA c)) (na : NoAttr K (CA c) f) (r : R K CA F φ st H) (rv : RV K F φ u v) (e : fldS c v f st = some (z, st')) (q : PostV K CA F φ H z st' Q) :
    ∃ ad C dx fs w, u = .ref ad ∧ H ad = some (.ins C dx fs) ∧ Cls K C ∧ NoAttr K C f ∧ fs.lookup f = some w ∧ Q w H := by
  cases v with
  | d x => cases e
  | f n s => cases e
  | s ns => cases e
  | r n =>
    obtain ⟨p, hp, rfl⟩ := rv
    obtain ⟨m, hm, om⟩ := r.at hp
    simp only [fldS, hm] at e
    cases m with
    | lst xs => cases e
    | dct kvs => cases e
    | dead => cases e
    | tab _ => cases e
    | ptup _ => cases e
    | clo _ _ => cases e
    | ins c' fs =>
      obtain ⟨dx, gs, h1, h2, h3⟩ := om
      dsimp only at e
      split at e
      case isFalse => cases e
      rename_i hc
      subst hc
      cases hl : fs.lookup f with
      | none => rw [hl] at e; cases e
      | some fl =>
        rw [hl] at e
        cases fl with
        | d x =>
          cases e
          obtain ⟨w, w1, w2⟩ := h2.lookD hl
          exact ⟨p.1, _, dx, gs, w, rfl, h1, cl, na, w1, q _ _ _ _ r.nx w2⟩
        | l xs =>
          cases e
          obtain ⟨b, vs, w1, w2, w3, w4, w5⟩ := h2.look hl
          exact ⟨p.1, _, dx, gs, .ref b, rfl, h1, cl, na, w2, q _ _ _ _ r.nx ⟨p, b, hp, w1, rfl⟩⟩
theorem pvFld {f : Str} {c : Nat} {m : Mv} (hm : ∀ ρ st, m ρ st = (ma ρ st).bind fun p => fldS c p.1 f p.2) (cl : Cls X.K (CA c)) (na : NoAttr X.K (CA c) f) (ha : PE X a (TV X.K CA ma)) (hb : attributeBase a f X.env (eval a X.env) = eval a X.env) : PE X (.Attribute a f pos) (TV X.K CA m) :=
  peWeak (pe_fld ha hb) fun σ H Q h => tvOne (k := fun v st => fldS c v f st) hm h fun F φ st H u v z st' r rv e q => fld_ok cl na r rv e q
theorem pvMeth {f k c : Nat} {nm : Str} {C : CallF} {fa : Addr} {fd : FuncData} {ps : List Str} {es : List Expr} {apos : Pos} {ml : En → Sto → Option (List Vl × Sto)} {m : Mv}
    (hm : ∀ ρ st, m ρ st = (ma ρ st).bind fun p => match p.1 with
      | .r n => match p.2[n]? with
        | some (.ins c' fs) => if c' = c ∧ (fs.lookup nm).isNone then (ml ρ p.2).bind fun q => (C f (.r n :: q.1) q.2).map fun s => (.d s.1, s.2) else none
        | _ => none
      | _ => none)
    (cl : Cls X.K (CA c)) (hM : Meth X.K (CA c) nm fa) (hF : FnOk X.prog X.w X.K X.mg X.base CX0 k fa fd ps (spF X.K CA C f)) (hf : f < 1000) (hr : Room k X.A) (hB : Binds X.K fd ps []) (ha : PE X a (TV X.K CA ma)) (hb : attributeBase a nm X.env (eval a X.env) = eval a X.env)
    (hA : PA X es (TL X.K CA ml)) (h0 : es = [] → ∀ ρ st, ml ρ st = some ([], st)) (hs : es.all notStar = true) (hl : es.length < 30) (hp : (apos.endLine == pos.line) = true) : PE X (.Call (.Attribute a nm apos) es [] pos) (TV X.K CA m) := by
  have key : ∀ σ H Q, TV X.K CA m σ H Q → TV X.K CA ma σ H fun x H1 => ∃ ad dx fs, x = .ref ad ∧ H1 ad = some (.ins (CA c) dx fs) ∧ fs.lookup nm = none ∧ TL X.K CA ml σ H1 fun vs H2 => spF X.K CA C f (x :: vs) H2 Q E0 := fun σ H Q ⟨F, φ, st, ρ, y, st', r, re, e0, q⟩ => by
    rw [hm] at e0
    obtain ⟨⟨v1, st1⟩, e1, e⟩ := Option.bind_eq_some_iff.mp e0
    clear e0
    refine ⟨F, φ, st, ρ, v1, st1, r, re, e1, fun F1 φ1 H1 u1 n1 rv1 => ?_⟩
    cases v1 with
    | d x => cases e
    | f n s => cases e
    | s ns => cases e
    | r n =>
      obtain ⟨p, hpp, rfl⟩ := id rv1
      obtain ⟨mm, hmm, om⟩ := n1.r.at hpp
      dsimp only at e
      rw [hmm] at e
      cases mm with
      | lst xs => cases e
      | dct kvs => cases e
      | dead => cases e
      | tab _ => cases e
      | ptup _ => cases e
      | clo _ _ => cases e
      | ins c' fs =>
        by_cases hc : c' = c ∧ (fs.lookup nm).isNone = true
        case neg =>
          dsimp only at e
          rw [if_neg hc] at e; cases e
        dsimp only at e
        rw [if_pos hc] at e
        obtain ⟨rfl, hno⟩ := hc
        obtain ⟨⟨vs, st2⟩, e2, e5⟩ := Option.bind_eq_some_iff.mp e
        obtain ⟨⟨z, st3⟩, e3, e4⟩ := Option.map_eq_some_iff.mp e5
        cases e4
        obtain ⟨dx, gs, h1, h2, h3⟩ := om
        refine ⟨p.1, dx, gs, rfl, h1, h2.lookN hno, F1, φ1, st1, ρ, vs, st2, n1.r, re.le n1.le n1.gr, e2, fun F2 φ2 H2 us n2 rv2 => ?_⟩
        exact ⟨hf, .inl ⟨F2, φ2, st2, .r n :: vs, z, st3, n2.r, .cons (rv1.le n2.le n2.gr) rv2, e3, fun F3 φ3 H3 v n3 rv => q _ _ _ _ ((n1.trans n2).trans n3) rv⟩⟩
  cases es with
  | nil =>
    refine peWeak (pe_meth0 ha cl hM hF hr hB .nil pass0 (methHt hb hs hl hp)) fun σ H Q h => ?_
    refine tvImp (key σ H Q h) fun x H1 ⟨ad, dx, fs, q1, q2, q3, F2, φ2, st2, ρ2, xs, st3, r2, re2, e2, q4⟩ => ⟨ad, dx, fs, q1, q2, q3, ?_⟩
    rw [h0 rfl] at e2
    cases e2
    exact q4 _ _ _ _ r2.nx .nil
  | cons e es =>
    have hs' := hs
    rw [List.all_cons, Bool.and_eq_true] at hs'
    refine peWeak (pe_meth ha cl hM hF hr hB .nil pass0 hA (starOne hs'.1 _) (starAny hs'.2) (methHt hb hs hl hp)) fun σ H Q h => ?_
    refine tvImp (key σ H Q h) fun x H1 ⟨ad, dx, fs, q1, q2, q3, q4⟩ => ⟨ad, dx, fs, q1, q2, q3, ?_⟩
    simp only [List.append_nil]
    exact q4
theorem pvMake {x : Str} {p : Pos} {f c : Nat} {C : CallF} {fa : Addr} {fd : FuncData} {ps : List Str} {es : List Expr} {ml : En → Sto → Option (List Vl × Sto)} {m : Mv}
    (hm : ∀ ρ st, m ρ st = (ml ρ st).bind fun p => (C f (.r p.2.length :: p.1) (p.2 ++ [.ins c []])).bind fun q => match q.1 with
      | .none => some (.r p.2.length, q.2)
      | _ => none)
    (M : Mk X.K (CA c) fa) (hF : FnOk X.prog X.w X.K X.mg X.base CX0 1 fa fd ps (spF X.K CA C f)) (hf : f < 1000) (hr : Room 2 X.A) (hB : Binds X.K fd ps []) (hg : Gl X x) (hx : X.mg x = some (.ref (CA c))) (hd : (x == ("__debug__" : Str)) = false)
    (hA : PA X (a :: es) (TL X.K CA ml)) (hs : (a :: es).all notStar = true) : PE X (.Call (.Name x p) (a :: es) [] pos) (TV X.K CA m) := by
  have hs' := hs
  rw [List.all_cons, Bool.and_eq_true] at hs'
  refine peWeak (pe_make M hF hr hg hx hB .nil pass0 hA hd (starOne hs'.1 _) (starAny hs'.2)) fun σ H Q ⟨F, φ, st, ρ, y, st', r, re, e, q⟩ => ?_
  rw [hm] at e
  obtain ⟨⟨vs, st1⟩, e1, e2⟩ := Option.bind_eq_some_iff.mp e
  obtain ⟨⟨z, st2⟩, e3, e4⟩ := Option.bind_eq_some_iff.mp e2
  dsimp only at e3 e4
  refine ⟨F, φ, st, ρ, vs, st1, r, re, e1, fun F1 φ1 H1 us n1 rv1 => ?_⟩
  intro ad dx nad ndx ne
  rw [List.append_nil]
  have fr := n1.r.fresh ndx
  have r1 : R X.K CA F1 φ1 st1 (upd H1 dx (.own ad)) := n1.r.extra fr.2 fr.1
  have nad2 : (upd H1 dx (.own ad)) ad = none := by rw [upd_ne (Ne.symm ne)]; exact nad
  have n2 := r1.nxEntry (p := ad) (o := .ins (CA c) dx []) (m := .ins c []) nad2 ⟨dx, [], upd_same, .nil, by unfold deadM; simp⟩
  have n12 : Nx X.K CA F φ H F1 (φ1 ++ [(ad, [])]) (st1 ++ [.ins c []]) (upd (upd H1 dx (.own ad)) ad (.ins (CA c) dx [])) := by
    refine ⟨n1.le.trans n2.le, n1.gr.trans n2.gr, fun b o h1 h2 h3 => ?_, n2.r⟩
    obtain ⟨k1, k2, k3⟩ := n1.off b o h1 h2 h3
    have nb : b ≠ dx := ne_of_none k1 ndx
    exact n2.off b o (by rw [upd_ne nb]; exact k1) k2 k3
  have hlen : st1.length = φ1.length := n1.r.len
  have hget : (φ1 ++ [(ad, [])])[st1.length]? = some (ad, []) := by rw [hlen, List.getElem?_append_right (Nat.le_refl _)]; simp
  refine ⟨hf, .inl ⟨F1, φ1 ++ [(ad, [])], st1 ++ [.ins c []], .r st1.length :: vs, z, st2, n2.r, .cons ⟨_, hget, rfl⟩ (rv1.le n2.le n2.gr), e3, fun F3 φ3 H3 v n3 rv => ?_⟩⟩
  cases z with
  | none =>
    cases e4
    have rv' : Rp X.K F3 v .none := rv
    cases rv'
    obtain ⟨p', g1, g2, g3⟩ := n3.gr _ _ hget
    exact ⟨rfl, q _ _ _ _ (n12.trans n3) ⟨p', g1, by rw [g2]⟩⟩
  | _ => cases e4
theorem psSetf {f : Str} {c : Nat} {p' : Pos} {m : Ms} (hm : ∀ ρ st, m ρ st = (ma ρ st).bind fun p => (mb ρ p.2).bind fun q => (dOf p.1).bind fun x => (setfS c q.1 f (.d x) q.2).map fun st' => (.nx, ρ, st')) (cl : Cls X.K (CA c)) (na : NoAttr X.K (CA c) f)
    (hv : PE X a (TV X.K CA ma)) (ho : PE X b (TV X.K CA mb)) (hs : swapsWith a (some (.Attribute b f p')) pos.line X.env = pure false) : PS X (.Assign [.Attribute b f p'] a pos) (TSv X.K CA m) :=
  psWeak (ps_fld ho hv hs) fun D σ H ⟨F, φ, st, ρ, o, ρ', st', r, re, e, q⟩ => by
    rw [hm] at e
    obtain ⟨⟨v1, st1⟩, e1, e2⟩ := Option.bind_eq_some_iff.mp e
    obtain ⟨⟨v2, st2⟩, e3, e4⟩ := Option.bind_eq_some_iff.mp e2
    obtain ⟨x, e5, e6⟩ := Option.bind_eq_some_iff.mp e4
    obtain ⟨st3, e7, e8⟩ := Option.map_eq_some_iff.mp e6
    cases e8
    have hv1 := dOf_eq e5
    dsimp only at hv1 e7
    subst hv1
    refine ⟨F, φ, st, ρ, _, st1, r, re, e1, fun F1 φ1 H1 u1 n1 rv1 => ?_⟩
    refine ⟨F1, φ1, st1, ρ, v2, st2, n1.r, re.le n1.le n1.gr, e3, fun F2 φ2 H2 u2 n2 rv2 => ?_⟩
    have n12 := n1.trans n2
    have rx : Rp X.K F2 u1 x := (show RV X.K F1 φ1 u1 (.d x) from rv1).le n2.le n2.gr
    cases v2 with
    | d x => cases e7
    | f n s => cases e7
    | s ns => cases e7
    | r n =>
      obtain ⟨p, hp, rfl⟩ := rv2
      obtain ⟨mm, hmm, om⟩ := n2.r.at hp
      simp only [setfS, hmm] at e7
      cases mm with
      | lst xs => cases e7
      | dct kvs => cases e7
      | dead => cases e7
      | tab _ => cases e7
      | ptup _ => cases e7
      | clo _ _ => cases e7
      | ins c' fs =>
        obtain ⟨dx, gs, h1, h2, h3⟩ := om
        dsimp only at e7
        by_cases hc : c' = c
        case neg => rw [if_neg hc] at e7; cases e7
        rw [if_pos hc] at e7
        have key : (∀ xs, fs.lookup f ≠ some (.l xs)) ∧ fs.length < 100 ∧ st' = st2.set n (.ins c (putF f (.d x) fs)) := by
          cases hl : fs.lookup f with
          | none =>
            rw [hl] at e7
            dsimp only at e7
            split at e7
            · rename_i hlen; cases e7; exact ⟨(fun xs z => by cases z), hlen, rfl⟩
            · cases e7
          | some fl =>
            rw [hl] at e7
            cases fl with
            | l xs => cases e7
            | d y =>
              dsimp only at e7
              split at e7
              · rename_i hlen; cases e7; exact ⟨(fun xs z => by cases z), hlen, rfl⟩
              · cases e7
        obtain ⟨k1, k2, rfl⟩ := key
        subst hc
        have hpm : p.1 ∈ fpA p := by rw [fpA_ne h3]; simp
        refine ⟨p.1, _, dx, gs, rfl, h1, cl, na, by rw [h2.len]; omega, q _ _ _ _ (n12.trans (n2.r.nxChange hp hpm ⟨dx, _, upd_same, (h2.putD rx k1).keep Le.rfl fun b hb => ?_, h3⟩)) (re.le n12.le n12.gr)⟩
        rw [upd_ne]
        rintro rfl
        have ndp : (fpA p).Nodup := by
          have e3 : fps φ2 = fps (φ2.take n) ++ fps (φ2.drop n) := by rw [← fps_app, List.take_append_drop]
          have h5 := n2.r.nd
          rw [e3, List.drop_eq_getElem_cons (List.getElem?_eq_some_iff.mp hp).1, (List.getElem?_eq_some_iff.mp hp).2] at h5
          have h6 := (List.nodup_append.mp h5).2.1
          have h7 : fps (p :: φ2.drop (n + 1)) = fpA p ++ fps (φ2.drop (n + 1)) := by simp [fps]
          rw [h7] at h6
          exact (List.nodup_append.mp h6).1
        rw [fpA_ne h3] at ndp
        exact (List.nodup_cons.mp ndp).1 hb
theorem psSetl {f : Str} {c : Nat} {p' q' : Pos} {m : Ms} (hm : ∀ ρ st, m ρ st = (mb ρ st).bind fun q => (setlS c q.1 f q.2).map fun st' => (.nx, ρ, st')) (cl : Cls X.K (CA c)) (na : NoAttr X.K (CA c) f) (hne : f ≠ ⟨#[]⟩)
    (ho : PE X b (TV X.K CA mb)) : PS X (.Assign [.Attribute b f p'] (.List [] q') pos) (TSv X.K CA m) :=
  psWeak (ps_fld ho (pe_lst pa_nil) rfl) fun D σ H ⟨F, φ, st, ρ, o, ρ', st', r, re, e, q⟩ => by
    rw [hm] at e
    obtain ⟨⟨v2, st2⟩, e3, e4⟩ := Option.bind_eq_some_iff.mp e
    obtain ⟨st3, e7, e8⟩ := Option.map_eq_some_iff.mp e4
    cases e8
    dsimp only at e7
    refine ⟨Nat.zero_le _, fun l hl => ?_⟩
    have fr := r.fresh hl
    refine ⟨F, φ, st, ρ, v2, st2, r.extra fr.2 fr.1, re, e3, fun F2 φ2 H2 u2 n2 rv2 => ?_⟩
    obtain ⟨l1, l2, l3⟩ := n2.off l (.lst []) upd_same fr.2 fr.1
    cases v2 with
    | d x => cases e7
    | f n s => cases e7
    | s ns => cases e7
    | r n =>
      obtain ⟨p, hp, rfl⟩ := rv2
      obtain ⟨mm, hmm, om⟩ := n2.r.at hp
      simp only [setlS, hmm] at e7
      cases mm with
      | lst xs => cases e7
      | dct kvs => cases e7
      | dead => cases e7
      | tab _ => cases e7
      | ptup _ => cases e7
      | clo _ _ => cases e7
      | ins c' fs =>
        obtain ⟨dx, gs, h1, h2, h3⟩ := om
        dsimp only at e7
        split at e7
        case isFalse => cases e7
        rename_i hc
        cases e7
        obtain ⟨rfl, k1, k2⟩ := hc
        obtain ⟨j1, j2, j3, j4⟩ := n2.r.own hp h1 h2 h3 hne k1 l1 l2 l3
        refine ⟨p.1, _, dx, gs, rfl, h1, cl, na, by rw [h2.len]; omega, q F2 _ _ σ ⟨n2.le, n2.gr.trans j1, fun b' o' w1 w2 w3 => ?_, j4⟩ (re.le n2.le (n2.gr.trans j1))⟩
        have nl : b' ≠ l := ne_of_none w1 hl
        obtain ⟨x1, x2, x3⟩ := n2.off b' o' (by rw [upd_ne nl]; exact w1) w2 w3
        refine ⟨by rw [upd_ne (fun z : b' = p.1 => x3 (z ▸ j3))]; exact x1, x2, fun z => ?_⟩
        rcases j2 b' z with z | z
        · exact x3 z
        · exact nl z
theorem RpA.toStrs {K : PySem.W.Frag} {F : Hp} {vs : List V} {ds : List PyData} {ks : List Str} (h : RpA K F vs ds) (e : strsD ds = some ks) : vs = ks.map V.str := h.strs e
theorem rpk_zip {K : PySem.W.Frag} {F : Hp} : ∀ (ks : List Str) {vs : List V} {ds : List PyData}, RpA K F vs ds → RpK K F ((ks.zip vs).map fun t => (Sum.inr t.1, t.2)) ((ks.zip ds).map fun q => (.str q.1, q.2))
  | [], _, _, _ => .nil
  | _ :: _, _, _, .nil => .nil
  | _ :: ks, _, _, .cons h r => .cons h (rpk_zip ks r)
theorem pvNdcz {p1 p2 p3 q1 q2 : Pos} {m : Mv} (hm : ∀ ρ st, m ρ st = (ma ρ st).bind fun p => (mb ρ p.2).bind fun q => (zipOf [p.1, q.1]).map fun kv => (.r q.2.length, q.2 ++ [.dct kv]))
    (hc : X.calm = true) (g1 : Gl X "dict") (n1 : X.mg "dict" = none) (g2 : Gl X "list") (n2 : X.mg "list" = none) (g3 : Gl X "zip") (n3 : X.mg "zip" = none) (ha : PE X a (TV X.K CA ma)) (hb : PE X b (TV X.K CA mb)) (sa : notStar a = true) (sb : notStar b = true) :
    PE X (.Call (.Name "dict" p1) [.Call (.Name "list" p2) [.Call (.Name "zip" p3) [a, b] [] q2] [] q1] [] pos) (TV X.K CA m) := by
  refine peWeak (peDcz hc g1 n1 g2 n2 g3 n3 (pa_cons ha (pa_cons hb pa_nil (starOne sb _)) (starOne sa _)) (starOne sa _) (fun pos => starAny (by rw [List.all_cons, sb]; rfl))) fun σ H Q ⟨F, φ, st, ρ, y, st', r, re, e, q⟩ => ?_
  rw [hm] at e
  obtain ⟨⟨v1, st1⟩, e1, e2⟩ := Option.bind_eq_some_iff.mp e
  obtain ⟨⟨v2, st2⟩, e3, e4⟩ := Option.bind_eq_some_iff.mp e2
  obtain ⟨kv, e5, e6⟩ := Option.map_eq_some_iff.mp e4
  cases e6
  dsimp only at e5 e3 q
  refine ⟨F, φ, st, ρ, v1, st1, r, re, e1, fun F1 φ1 H1 u1 m1 rv1 => ?_⟩
  refine ⟨F1, φ1, st1, ρ, v2, st2, m1.r, re.le m1.le m1.gr, e3, fun F2 φ2 H2 u2 m2 rv2 => ?_⟩
  have key : ∃ xs ys ks, v1 = .d (.tuple xs) ∧ v2 = .d (.tuple ys) ∧ strsD xs = some ks ∧ kv = mergeD [] (ks.zip ys) := by
    unfold zipOf at e5
    split at e5
    · rename_i xs ys heq
      obtain ⟨ks, w1, w2⟩ := Option.map_eq_some_iff.mp e5
      cases heq
      exact ⟨xs, ys, ks, rfl, rfl, w1, w2.symm⟩
    · cases e5
  obtain ⟨xs, ys, ks, rfl, rfl, k1, rfl⟩ := key
  have t1 : Rp X.K F2 u1 (.tuple xs) := (show RV X.K F1 φ1 u1 (.d (.tuple xs)) from rv1).le m2.le m2.gr
  have t2 : Rp X.K F2 u2 (.tuple ys) := rv2
  cases t1 with
  | @tup a1 ws1 _ s1 z1 h1 =>
    cases t2 with
    | @tup a2 ws2 _ s2 z2 h2 =>
      have e7 := h1.strs k1
      subst e7
      refine ⟨a1, a2, ks, ws2, rfl, SqT.le m2.r.sub s1, SqT.le m2.r.sub s2, fun p hp => ?_⟩
      refine q _ _ _ _ ((m1.trans m2).trans (m2.r.nxEntry (m := .dct (mergeD [] (ks.zip ys))) hp ⟨_, upd_same, RpK.merge (rpk_zip ks h2) .nil, rfl⟩)) ⟨(p, []), ?_, rfl⟩
      rw [m2.r.len, List.getElem?_append_right (Nat.le_refl _)]; simp
/-! ### sets of texts -/
theorem lenset_ok {K : PySem.W.Frag} {F H : Hp} {φ : List FP} {st : Sto} {u : V} {x y : PyData} {Q : VK} (r : R K CA F φ st H) (rx : Rt K F H u x) (e : fn1D .lenset x = some y) (q : PostD K CA F φ st H y Q) :
    ∃ (l : Addr) (xs : List Str), u = .ref l ∧ (SqL K H l (xs.map V.str) ∨ SqT K H l (xs.map V.str)) ∧ (dedS xs).length + 1 < scanBound ∧ Q (.int ((dedS xs).length : Nat)) H := by
  have sb : ∀ n, n < 1000 → n + 1 < scanBound := fun n h => by unfold scanBound; omega
  cases x with
  | list xs =>
    obtain ⟨ys, e1, e2⟩ := Option.bind_eq_some_iff.mp (show (strsD xs).bind _ = _ from e)
    split at e2
    · rename_i hl
      cases e2
      obtain ⟨a, vs, rfl, g1, g2, g3⟩ := rx
      have g4 := g3.strs e1
      subst g4
      exact ⟨a, ys, rfl, .inl (SqL.of g1), sb _ hl, q.self r (.int _)⟩
    · cases e2
  | tuple xs =>
    obtain ⟨ys, e1, e2⟩ := Option.bind_eq_some_iff.mp (show (strsD xs).bind _ = _ from e)
    split at e2
    · rename_i hl
      cases e2
      obtain ⟨a, vs, rfl, g1, g2, g3, _⟩ := Rt.tup r rx
      have g4 := g3.strs e1
      subst g4
      exact ⟨a, ys, rfl, .inr g1, sb _ hl, q.self r (.int _)⟩
    · cases e2
  | _ => cases e
theorem srtset_ok {K : PySem.W.Frag} {F H : Hp} {φ : List FP} {st : Sto} {u : V} {x y : PyData} {Q : VK} (r : R K CA F φ st H) (rx : Rt K F H u x) (e : fn1D .srtset x = some y) (q : PostD K CA F φ st H y Q) :
    ∃ l : Addr, u = .ref l ∧ ((∃ xs : List Str, (SqL K H l (xs.map V.str) ∨ SqT K H l (xs.map V.str)) ∧ (dedS xs).length < 64 ∧
      ∀ (ys : List Str) (p : Addr), ys.Perm (dedS xs) → PyProof.Rows.sortedS ys = true → H p = none → Q (.ref p) (upd H p (.lst (ys.map V.str)))) ∨
    ∃ L : List (Addr × Str × Str), (SqL K H l (L.map fun z => V.ref z.1) ∨ SqT K H l (L.map fun z => V.ref z.1)) ∧ (∀ z ∈ L, SqT K H z.1 [.str z.2.1, .str z.2.2]) ∧ (dedP (L.map (·.2))).length < 63 ∧
      ∀ (M : List (Addr × Str × Str)) (p : Addr), (∀ z ∈ M, z ∈ L) → M.map (·.2) = (dedP (L.map (·.2))).mergeSort leP → H p = none → Q (.ref p) (upd H p (.lst (M.map fun z => V.ref z.1)))) := by
  cases x with
  | list xs =>
    obtain ⟨a, vs, rfl, g1, g2, g3⟩ := rx
    have e2 : srtsetD xs = some y := e
    unfold srtsetD at e2
    refine ⟨a, rfl, ?_⟩
    cases e1 : strsD xs with
    | some ys =>
      rw [e1] at e2
      dsimp only at e2
      split at e2
      · rename_i hl
        have g4 := g3.strs e1
        subst g4
        exact .inl ⟨ys, .inl (SqL.of g1), hl, fun zs p h1 h2 hp => srt_okS r hl (Option.some.inj e2) q h1 h2 hp⟩
      · cases e2
    | none =>
      rw [e1] at e2
      dsimp only at e2
      cases e3 : prsD xs with
      | none => rw [e3] at e2; cases e2
      | some ps =>
        rw [e3] at e2
        dsimp only at e2
        split at e2
        · rename_i hl
          obtain ⟨L, l1, l2, l3⟩ := g3.prs e3
          subst l1
          subst l2
          refine .inr ⟨L, .inl (SqL.of g1), fun z hz => SqT.le r.sub (l3 z hz), hl, fun M p h1 h2 hp => srt_okP r l3 h1 (by rw [h2]; exact Option.some.inj e2) ?_ q hp⟩
          have := congrArg List.length h2
          rw [List.length_map, (List.mergeSort_perm _ leP).length_eq] at this
          omega
        · cases e2
  | _ => cases e
theorem pvLenset {p p2 q' : Pos} {m : Mv} (hm : ∀ ρ st, m ρ st = (ma ρ st).bind fun p => fn1S .lenset p.1 p.2) (hc : X.calm = true) (hg : Gl X "len") (hn : X.mg "len" = none) (hg2 : Gl X "set") (hn2 : X.mg "set" = none) (ha : PE X a (TV X.K CA ma)) (sa : notStar a = true) :
    PE X (.Call (.Name "len" p) [.Call (.Name "set" p2) [a] [] q'] [] pos) (TV X.K CA m) :=
  peWeak (peLenTx hc hg hn hg2 hn2 ha (starOne sa _)) fun σ H Q h => tvOne (k := fn1S .lenset) hm h fun F φ st H u v z st' r rv e q => by
    rw [fn1S_read (by intro h; cases h)] at e
    exact rdOk r rv e q fun x y rx e1 q1 => lenset_ok r rx e1 q1
theorem pvSrtset {p p2 q' : Pos} {m : Mv} (hm : ∀ ρ st, m ρ st = (ma ρ st).bind fun p => fn1S .srtset p.1 p.2) (hc : X.calm = true) (hu : X.A.units + 64 < cLine) (hg : Gl X "sorted") (hn : X.mg "sorted" = none) (hg2 : Gl X "set") (hn2 : X.mg "set" = none) (ha : PE X a (TV X.K CA ma)) (sa : notStar a = true) :
    PE X (.Call (.Name "sorted" p) [.Call (.Name "set" p2) [a] [] q'] [] pos) (TV X.K CA m) :=
  peWeak (peSrt2 hc hu hg hn hg2 hn2 ha (starOne sa _)) fun σ H Q h => tvOne (k := fn1S .srtset) hm h fun F φ st H u v z st' r rv e q => by
    rw [fn1S_read (by intro h; cases h)] at e
    exact rdOk r rv e q fun x y rx e1 q1 => srtset_ok r rx e1 q1
/-! ### a new list by + -/
theorem pvNadd {m : Mv} (hm : ∀ ρ st, m ρ st = (ma ρ st).bind fun p => (mb ρ p.2).bind fun q => (dat q.2 p.1).bind fun x => (dat q.2 q.1).bind fun y => (catL x y).map fun z => (.r q.2.length, q.2 ++ [.lst z])) (ha : PE X a (TV X.K CA ma)) (hb : PE X b (TV X.K CA mb)) :
    PE X (.BinOp a .Add b pos) (TV X.K CA m) :=
  peWeak (pe_op op_cat ha hb) fun σ H Q ⟨F, φ, st, ρ, y, st', r, re, e, q⟩ => by
    rw [hm] at e
    obtain ⟨⟨v1, st1⟩, e1, e2⟩ := Option.bind_eq_some_iff.mp e
    obtain ⟨⟨v2, st2⟩, e3, e4⟩ := Option.bind_eq_some_iff.mp e2
    obtain ⟨x1, e5, e6⟩ := Option.bind_eq_some_iff.mp e4
    obtain ⟨y1, e7, e8⟩ := Option.bind_eq_some_iff.mp e6
    obtain ⟨z, e9, e10⟩ := Option.map_eq_some_iff.mp e8
    cases e10
    dsimp only at e5 e7 q
    refine ⟨F, φ, st, ρ, v1, st1, r, re, e1, fun F1 φ1 H1 u1 m1 rv1 => ?_⟩
    refine ⟨F1, φ1, st1, ρ, v2, st2, m1.r, re.le m1.le m1.gr, e3, fun F2 φ2 H2 u2 m2 rv2 => ?_⟩
    have t1 := m2.r.reads (rv1.le m2.le m2.gr) e5
    have t2 := m2.r.reads rv2 e7
    cases x1 with
    | list xs =>
      cases y1 with
      | list ys =>
        simp only [catL] at e9
        split at e9
        · rename_i hl
          cases e9
          obtain ⟨a1, vs1, rfl, g1, g2, g3⟩ := t1
          obtain ⟨a2, vs2, rfl, j1, j2, j3⟩ := t2
          refine ⟨a1, a2, vs1, vs2, rfl, rfl, g1, j1, by rw [g3.length, j3.length, ← sizeL_eq]; exact hl, fun p hp => ?_⟩
          refine q _ _ _ _ ((m1.trans m2).trans (m2.r.nxEntry (m := .lst (xs ++ ys)) hp ⟨_, upd_same, by rw [List.length_append]; exact hl, g3.append j3, rfl⟩)) ⟨(p, []), ?_, rfl⟩
          rw [m2.r.len, List.getElem?_append_right (Nat.le_refl _)]; simp
        · cases e9
      | _ => cases e9
    | _ => cases e9
end
end Tw
set_option Elab.async false
set_option linter.all false
set_option maxRecDepth 100000
set_option maxHeartbeats 4000000
/-! C7d: functions made in a def, over the store. -/
namespace Tw
open PySem PySem.Spec PyProof.Rows L2 LamX NdefX
section
variable {K : PySem.W.Frag} {CA : CAT} {F F' H H' : Hp} {φ : List FP} {st : Sto} {cs : Addr → Option Obj}
theorem Le.trk (h : ∀ a o, cs a = some o → F a = none) : Le F (trk F cs) := fun a o e => by rw [trk_no (cs_of h e)]; exact e
/-- cells are known -/
theorem R.trk (r : R K CA F φ st H) (h : ∀ a o, cs a = some o → H a = none) : R K CA (trk F cs) φ st (trk H cs) := by
  have hF : ∀ a o, cs a = some o → F a = none := fun a o e => by
    cases z : F a with
    | none => rfl
    | some u => have := h a o e; rw [r.sub _ _ z] at this; cases this
  have hN : ∀ a ∈ fps φ, cs a = none := fun a ha => by
    obtain ⟨o, e⟩ := r.there ha
    exact cs_of h e
  refine ⟨fun a u e => ?_, fun a ha => by rw [trk_no (hN a ha)]; exact r.dis a ha, r.nd, r.len, fun n m p e1 e2 => ?_⟩
  · cases q : cs a with
    | some o => rw [trk_yes q] at e ⊢; exact e
    | none => rw [trk_no q] at e ⊢; exact r.sub _ _ e
  · exact (r.obj n m p e1 e2).keep (Le.trk hF) fun a ha => trk_no (hN a (mem_fps_of e2 ha))
/-- told of what is no cell -/
structure Ut (F F' : Hp) : Prop where
  lst : ∀ a xs, F a = some (.lst xs) → F' a = some (.lst xs)
  tup : ∀ a xs, F a = some (.tup xs) → F' a = some (.tup xs)
  frz : ∀ a o u, F a = some (.frz o u) → F' a = some (.frz o u)
  dk : ∀ a xs, F a = some (.dK xs) → F' a = some (.dK xs)
theorem Ut.rd (t : Ut F F') {a : Addr} {xs : List (Key × V)} (h : Rd F a (.dK xs)) : Rd F' a (.dK xs) := by
  rcases h with h | ⟨o, h⟩
  · exact .inl (t.dk _ _ h)
  · exact .inr ⟨o, t.frz _ _ _ h⟩
theorem Ut.sqT (t : Ut F F') {a : Addr} {xs : List V} (h : SqT K F a xs) : SqT K F' a xs := by
  rcases h with (h | ⟨o, h⟩) | h
  · exact .inl (.inl (t.tup _ _ h))
  · exact .inl (.inr ⟨o, t.frz _ _ _ h⟩)
  · exact .inr h
theorem Ut.sqL (t : Ut F F') {a : Addr} {xs : List V} (h : SqL K F a xs) : SqL K F' a xs := by
  rcases h with (h | ⟨o, h⟩) | h
  · exact .inl (.inl (t.lst _ _ h))
  · exact .inl (.inr ⟨o, t.frz _ _ _ h⟩)
  · exact .inr h
mutual
theorem Rp.ut (t : Ut F F') : ∀ {v : V} {d : PyData}, Rp K F v d → Rp K F' v d
  | _, _, .non => .non
  | _, _, .bl b => .bl b
  | _, _, .int i => .int i
  | _, _, .str x => .str x
  | _, _, .lst h z r => .lst (t.lst _ _ h) z (RpA.ut t r)
  | _, _, .tup h z r => .tup (t.sqT h) z (RpA.ut t r)
  | _, _, .dct h r => .dct (t.rd h) (RpK.ut t r)
theorem RpA.ut (t : Ut F F') : ∀ {vs : List V} {ds : List PyData}, RpA K F vs ds → RpA K F' vs ds
  | _, _, .nil => .nil
  | _, _, .cons h r => .cons (Rp.ut t h) (RpA.ut t r)
theorem RpK.ut (t : Ut F F') : ∀ {vs : List (Key × V)} {ds : List (PyData × PyData)}, RpK K F vs ds → RpK K F' vs ds
  | _, _, .nil => .nil
  | _, _, .cons h r => .cons (Rp.ut t h) (RpK.ut t r)
end
theorem RV.ut (t : Ut F F') {v : V} {x : Vl} (h : RV K F φ v x) : RV K F' φ v x := by
  cases x with
  | d x => exact Rp.ut t h
  | r n => exact h
  | f n a => exact h
  | s ns =>
    obtain ⟨a, rfl, q⟩ := h
    exact ⟨a, rfl, t.sqL q⟩
theorem RVs.ut (t : Ut F F') : ∀ {vs : List V} {xs : List Vl}, RVs K F φ vs xs → RVs K F' φ vs xs
  | _, _, .nil => .nil
  | _, _, .cons h r => .cons (h.ut t) (RVs.ut t r)
theorem FR.ut {fs gs as} (t : Ut F F') (h : FR K F H fs gs as) (k : ∀ a ∈ as.map (·.2), H' a = H a) : FR K F' H' fs gs as := by
  induction h with
  | nil => exact .nil
  | d h1 _ ih => exact .d (h1.ut t) (ih k)
  | l h1 z h2 _ ih => exact .l (by rw [k _ (by simp)]; exact h1) z (h2.ut t) (ih fun a ha => k a (List.mem_cons_of_mem _ ha))
/-- cs tells cells, by heaps that there are -/
def CsOk (cs : Addr → Option Obj) : Prop := ∀ a o, cs a = some o → (∃ v, o.data = .cell v) ∧ ∃ h : Heap, h.get? a = some o
theorem cel_code {c : Addr} {o : Obj} {q : Str} {v : Option Value} (hv : o.data = .cell v) {h : Heap} (hh : h.get? c = some o) : CodeO c q ≠ CelO c o := fun z => by
  unfold CodeO CelO at z
  injection z with z
  have := congrFun z h
  obtain ⟨oc, vs, t, e1, e2, _⟩ := this.mpr hh
  rw [hh] at e1
  cases e1
  rw [hv] at e2
  cases e2
theorem cs_code (ok : CsOk cs) (h : ∀ a o, cs a = some o → F a = some (CelO a o)) {c : Addr} {q : Str} (e : F c = some (CodeO c q)) : cs c = none := by
  cases z : cs c with
  | none => rfl
  | some o =>
    obtain ⟨⟨v, hv⟩, h', hh⟩ := ok c o z
    rw [h c o z] at e
    exact absurd (Option.some.inj e).symm (cel_code hv hh)
theorem Ut.unt (h : ∀ a o, cs a = some o → F a = some (CelO a o)) : Ut F (unt F cs) :=
  ⟨fun a xs e => by rw [unt_no (cs_of' h e fun o z => by cases z)]; exact e, fun a xs e => by rw [unt_no (cs_of' h e fun o z => by cases z)]; exact e,
   fun a o u e => by rw [unt_no (cs_of' h e fun o z => by cases z)]; exact e, fun a xs e => by rw [unt_no (cs_of' h e fun o z => by cases z)]; exact e⟩
theorem noClo_get {st : Sto} (h : noClo st = true) {n k : Nat} {ws : List PyData} : st[n]? ≠ some (.clo k ws) := fun z => by
  have := List.all_eq_true.mp h _ (List.mem_of_getElem? z)
  cases this
/-- cells are known no more -/
theorem R.unt (r : R K CA F φ st H) (ok : CsOk cs) (h : ∀ a o, cs a = some o → F a = some (CelO a o)) (nc : noClo st = true) : R K CA (unt F cs) φ st (unt H cs) := by
  have hN : ∀ a ∈ fps φ, cs a = none := fun a ha => by
    cases q : cs a with
    | none => rfl
    | some o => have := r.dis a ha; rw [h a o q] at this; cases this
  have ut := Ut.unt h
  refine ⟨fun a u e => ?_, fun a ha => by rw [unt_no (hN a ha)]; exact r.dis a ha, r.nd, r.len, fun n m p e1 e2 => ?_⟩
  · cases q : cs a with
    | some o => rw [unt_yes q] at e; cases e
    | none => rw [unt_no q] at e ⊢; exact r.sub _ _ e
  · have o := r.obj n m p e1 e2
    have k : ∀ a ∈ fpA p, Tw.unt H cs a = H a := fun a ha => unt_no (hN a (mem_fps_of e2 ha))
    cases m with
    | lst xs => obtain ⟨vs, e, z, q, e3⟩ := o; exact ⟨vs, (k _ (by rw [fpA_nil e3]; simp)).trans e, z, q.ut ut, e3⟩
    | dct kvs => obtain ⟨vs, e, q, e3⟩ := o; exact ⟨vs, (k _ (by rw [fpA_nil e3]; simp)).trans e, q.ut ut, e3⟩
    | ins c fs =>
      obtain ⟨dx, gs, e, q, nd⟩ := o
      rw [fpA_ne nd] at k
      exact ⟨dx, gs, (k _ (by simp)).trans e, q.ut ut fun a ha => k a (List.mem_cons_of_mem _ ha), nd⟩
    | dead => exact o
    | tab j =>
      obtain ⟨e3, ps, e, t, q⟩ := o
      refine ⟨e3, ps, (k _ (by rw [fpA_nil (by rw [e3])]; simp)).trans e, t, fun pos cv z => ?_⟩
      obtain ⟨c, z1, z2⟩ := q pos cv z
      exact ⟨c, z1, by rw [unt_no (cs_code ok h z2)]; exact z2⟩
    | ptup xs => obtain ⟨e3, vs, e, q⟩ := o; exact ⟨e3, vs, (k _ (by rw [fpA_nil e3]; simp)).trans e, q.ut ut⟩
    | clo k' ws => exact absurd e1 (noClo_get nc)
/-- an entry is set aside -/
theorem R.dead (r : R K CA F φ st H) {n : Nat} {p : FP} (hp : φ[n]? = some p) : R K CA F (φ.set n (p.1, deadM)) (st.set n .dead) H := by
  have hlt : n < φ.length := (List.getElem?_eq_some_iff.mp hp).1
  refine ⟨r.sub, fun a ha => r.dis a (fps_set hp a ha).1, fps_set_nd n p.1 r.nd, by rw [List.length_set, List.length_set]; exact r.len, fun m mm q e1 e2 => ?_⟩
  by_cases hm : n = m
  · subst hm
    rw [List.getElem?_set_self hlt] at e2
    rw [List.getElem?_set_self (by rw [r.len]; exact hlt)] at e1
    cases e1; cases e2
    exact rfl
  · rw [List.getElem?_set_ne hm] at e1 e2
    exact r.obj m mm q e1 e2
theorem fps_put {n : Nat} {q : FP} : ∀ a, a ∈ fps (φ.set n q) → a ∈ fps φ ∨ a ∈ fpA q := by
  intro a ha
  obtain ⟨p, hp, hz⟩ := List.mem_flatMap.mp ha
  rcases List.mem_or_eq_of_mem_set hp with hp | hp
  · exact .inl (List.mem_flatMap.mpr ⟨p, hp, hz⟩)
  · subst hp; exact .inr hz
theorem fps_put_nd : ∀ {φ : List FP} (n : Nat) (q : FP), (fps φ).Nodup → (fpA q).Nodup → (∀ a ∈ fpA q, a ∉ fps φ) → (fps (φ.set n q)).Nodup
  | [], _, _, h, _, _ => h
  | p :: φ, 0, q, h, hq, hd => by
    have e : fps (p :: φ) = fpA p ++ fps φ := by simp [fps]
    have e2 : fps (q :: φ) = fpA q ++ fps φ := by simp [fps]
    rw [e] at h hd
    rw [List.set_cons_zero, e2]
    exact List.nodup_append.mpr ⟨hq, (List.nodup_append.mp h).2.1, fun a ha c hc z => by subst z; exact hd a ha (List.mem_append_right _ hc)⟩
  | p :: φ, n + 1, q, h, hq, hd => by
    have e : fps (p :: φ) = fpA p ++ fps φ := by simp [fps]
    have e2 : fps (p :: φ.set n q) = fpA p ++ fps (φ.set n q) := by simp [fps]
    rw [e] at h hd
    obtain ⟨h1, h2, h3⟩ := List.nodup_append.mp h
    rw [List.set_cons_succ, e2]
    refine List.nodup_append.mpr ⟨h1, fps_put_nd n q h2 hq fun a ha z => hd a ha (List.mem_append_right _ z), fun a ha c hc z => ?_⟩
    subst z
    rcases fps_put a hc with z | z
    · exact h3 a ha a z rfl
    · exact hd a z (List.mem_append_left _ ha)
/-- an entry that was set aside comes back -/
theorem R.back (r : R K CA F φ st H) {n : Nat} {p q : FP} {m : MO} (hp : φ[n]? = some p) (h1 : ∀ a ∈ fpA q, a ∉ fps φ) (h2 : ∀ a ∈ fpA q, F a = none) (h3 : (fpA q).Nodup) (o : OR K CA F H q m) : R K CA F (φ.set n q) (st.set n m) H := by
  have hlt : n < φ.length := (List.getElem?_eq_some_iff.mp hp).1
  refine ⟨r.sub, fun a ha => ?_, fps_put_nd n q r.nd h3 h1, by rw [List.length_set, List.length_set]; exact r.len, fun k mm q' e1 e2 => ?_⟩
  · rcases fps_put a ha with z | z
    · exact r.dis a z
    · exact h2 a z
  · by_cases hm : n = k
    · subst hm
      rw [List.getElem?_set_self hlt] at e2
      rw [List.getElem?_set_self (by rw [r.len]; exact hlt)] at e1
      cases e1; cases e2
      exact o
    · rw [List.getElem?_set_ne hm] at e1 e2
      exact r.obj k mm q' e1 e2
end
end Tw
set_option Elab.async false
set_option linter.all false
set_option maxRecDepth 100000
set_option maxHeartbeats 4000000
/-! C7e: functions made in a def: called, handed on. -/
namespace Tw
open PySem PySem.Spec PyProof.Rows L2 LamX NdefX
/-- what a made function's body is asked -/
def spK (K : PySem.W.Frag) (CA : CAT) (C : CallF) (f : Nat) (ws : List (Option V)) (vs : List V) (H : Hp) (Q : VK) : Prop :=
  ∃ F φ st xs us wd y st', R K CA F φ st H ∧ RVs K F φ vs xs ∧ ws = us.map some ∧ RpA K F us wd ∧ C f (xs ++ wd.map .d) st = some (y, st') ∧ PostV K CA F φ H (.d y) st' Q
/-- a made function keeps what its text says -/
def CloOk (P : Program) (w : World) (K : PySem.W.Frag) (mg : Str → Option Value) (base : Heap) (CA : CAT) (n : Nat) (C : CallF) (f : Nat) : Prop :=
  ∀ (A : Around) (outer : List Env) (s : Shared) (H : Hp) (us : List Value) (vs : List V) (ws : List (Option V)) (Q : VK) (fa : Addr) (cl : List (Str × Addr)) (c : Addr), Room n A → Env0 P w K mg base A outer s H →
    H fa = some (CloO fa (CA.cw f).W cl c) → H c = some (CodeO c (CA.cw f).W.qual) → CellsAt cl (CA.cw f).fr ws s.heap H → Vals vs us → vs.length = (CA.cw f).ps.length → spK K CA C f ws vs H Q →
    codeAny (model P w) A (.call (.ref fa) ⟨us, []⟩) (CR CX0 outer P w H s Q E0) s
section
variable {X : Cx} {CA : CAT} {pos : Pos}
open Classical in
/-- the cells that a function has, by what is known -/
noncomputable def csF (F : Hp) (cl : List (Str × Addr)) : Addr → Option Obj := fun a =>
  if h : ∃ o v, (∃ y, cl.lookup y = some a) ∧ F a = some (CelO a o) ∧ o.data = .cell v then some h.choose else none
theorem csF_yes {F : Hp} {cl : List (Str × Addr)} {a : Addr} {o : Obj} (h : csF F cl a = some o) : (∃ y, cl.lookup y = some a) ∧ F a = some (CelO a o) ∧ ∃ v, o.data = .cell v := by
  unfold csF at h
  split at h
  · rename_i q
    cases h
    obtain ⟨v, h1, h2, h3⟩ := q.choose_spec
    exact ⟨h1, h2, v, h3⟩
  · cases h
theorem csF_has {F : Hp} {cl : List (Str × Addr)} {a : Addr} {o : Obj} {v : Option Value} {y : Str} (h1 : cl.lookup y = some a) (h2 : F a = some (CelO a o)) (h3 : o.data = .cell v) : ∃ o', csF F cl a = some o' := by
  unfold csF
  rw [dif_pos ⟨o, v, ⟨y, h1⟩, h2, h3⟩]
  exact ⟨_, rfl⟩
theorem cel_inj {h : Heap} {a : Addr} {o o' : Obj} (e : CelO a o = CelO a o') (hh : h.get? a = some o) : o = o' := by
  unfold CelO at e
  injection e with e
  have := congrFun e h
  have z : h.get? a = some o' := this.mp hh
  rw [hh] at z
  exact Option.some.inj z
theorem pvCallv {x : Str} {p : Pos} {C : CallF} {i k : Nat} {a : Expr} {es : List Expr} {ml : En → Sto → Option (List Vl × Sto)} {m : Mv}
    (hm : ∀ ρ st, m ρ st = if isClo (ρ[i]?) st then (ml ρ st).bind fun p => callvS C (ρ[i]?) p.1 p.2 else none)
    (hF : ∀ f, CA.ck f = true → CloOk X.prog X.w X.K X.mg X.base CA k C f ∧ ∀ xs st y st', C f xs st = some (y, st') → xs.length = (CA.cw f).ps.length + (CA.cw f).fr.length) (hr : Room k X.A)
    (hN : X.N[i]? = some x) (hv : Vis X.env.scope x) (hd : (x == ("__debug__" : Str)) = false) (hcd : (x == ("__classdict__" : Str)) = false)
    (hA : PA X (a :: es) (TL X.K CA ml)) (hs : (a :: es).all notStar = true) : PE X (.Call (.Name x p) (a :: es) [] pos) (TV X.K CA m) := by
  rw [List.all_cons, Bool.and_eq_true] at hs
  refine ⟨fun pins s σ H Q I h => ?_⟩
  obtain ⟨F, φ, st, ρ, y, st', r, re, e, q⟩ := h
  rw [hm] at e
  split at e
  case isFalse => cases e
  rename_i hclo
  obtain ⟨⟨xs, st1⟩, e1, e2⟩ := Option.bind_eq_some_iff.mp e
  dsimp only at e2
  -- the name
  unfold isClo at hclo
  cases hρ : ρ[i]? with
  | none => rw [hρ] at hclo; cases hclo
  | some ov =>
  rw [hρ] at hclo e2
  cases ov with
  | none => cases hclo
  | some v =>
  cases v with
  | d _ => cases hclo
  | f _ _ => cases hclo
  | s _ => cases hclo
  | r n =>
  dsimp only at hclo
  cases hst : st[n]? with
  | none => rw [hst] at hclo; cases hclo
  | some mo =>
  rw [hst] at hclo
  cases mo with
  | lst _ => cases hclo
  | dct _ => cases hclo
  | ins _ _ => cases hclo
  | dead => cases hclo
  | tab _ => cases hclo
  | ptup _ => cases hclo
  | clo k0 ws0 =>
  obtain ⟨v, hσ, pf, hφ, rfl⟩ := re.at_ i _ hρ
  obtain ⟨g1, _, cl0, c0, g2, g3, g4⟩ := r.obj n _ pf hst hφ
  have fnAt : ∀ {s : Shared} {H : Hp} {W : CW} {cl c f}, HOk X.prog X.w H s.heap → H f = some (CloO f W cl c) → PySem.W.FnAt f s.heap := fun hok e => by
    obtain ⟨od, sl, doc, pm, ctv, ho⟩ := cloO_at hok e
    exact ⟨_, od, _, sl, ho⟩
  refine wpAny_Call_Name_kw (thn ((pe_var (pos := p) hN hv hd hcd).run pins s σ H (fun v H1 => v = .ref pf.1 ∧ H1 = H) I ⟨.ref pf.1, hσ, rfl, rfl⟩) fun u s1 ⟨v, H1, I1, r1, q1⟩ => ?_)
  obtain ⟨ev, eH⟩ := q1
  subst ev
  rw [eH] at I1
  obtain rfl : u = Value.ref pf.1 := r1
  refine PySem.W.callWith_F (first := []) (fnAt I1.hok g2) (thn (hA.run pos pins s1 σ H (fun vs H2 => ∃ F1 φ1, Nx X.K CA F φ H F1 φ1 st1 H2 ∧ RVs X.K F1 φ1 vs xs) I1 ⟨F, φ, st, ρ, xs, st1, r, re, e1, fun F1 φ1 H2 vs n1 rv => ⟨F1, φ1, n1, rv⟩⟩) fun us s2 ⟨vs, H2, I2, rr, F1, φ1, n1, rv⟩ => ?_) (starOne hs.1 _) (starAny hs.2)
  clear e1 e hm
  -- behind the arguments
  unfold callvS at e2
  dsimp only at e2
  cases hst1 : st1[n]? with
  | none => rw [hst1] at e2; cases e2
  | some mo =>
  rw [hst1] at e2
  cases mo with
  | lst _ => cases e2
  | dct _ => cases e2
  | ins _ _ => cases e2
  | dead => cases e2
  | tab _ => cases e2
  | ptup _ => cases e2
  | clo f ws =>
  dsimp only at e2
  split at e2
  case isFalse => cases e2
  rename_i nc
  obtain ⟨⟨y1, st2⟩, e3, e4⟩ := Option.bind_eq_some_iff.mp e2
  dsimp only at e4
  cases hst2 : st2[n]? with
  | none => rw [hst2] at e4; cases e4
  | some mo =>
  rw [hst2] at e4
  cases mo with
  | lst _ => cases e4
  | dct _ => cases e4
  | ins _ _ => cases e4
  | tab _ => cases e4
  | ptup _ => cases e4
  | clo _ _ => cases e4
  | dead =>
  cases e4
  obtain ⟨pf1, hφ1, ep1, _⟩ := n1.gr n pf hφ
  obtain ⟨j1, hK, cl, c, j2, j3, j4⟩ := n1.r.obj n _ pf1 hst1 hφ1
  obtain ⟨hF, hlen⟩ := hF f hK
  have hlen := hlen _ _ _ _ e3
  obtain ⟨fa, fz⟩ := pf1
  dsimp only at ep1 j1 j2
  subst ep1; subst j1
  refine ⟨fnAt I2.hok j2, ?_⟩
  show wpAny _ _ (call (.ref pf.1) us) _ _ _
  -- the cells
  have hcs : ∀ a o, csF F1 cl a = some o → F1 a = some (CelO a o) := fun a o z => (csF_yes z).2.1
  have hcH : ∀ a o, csF F1 cl a = some o → H2 a = some (CelO a o) := fun a o z => n1.r.sub _ _ (hcs a o z)
  have hch : ∀ a o, csF F1 cl a = some o → s2.heap.get? a = some o := fun a o z => (I2.hok a _ (hcH a o z)).1
  have hcok : CsOk (csF F1 cl) := fun a o z => ⟨(csF_yes z).2.2, _, hch a o z⟩
  have hcf : ∀ a o, csF F1 cl a = some o → a ∉ frs X.stack := fun a o z hm => by
    have := I2.stkFree a hm
    rw [hcH a o z] at this; cases this
  have hlook : ∀ y a, cl.lookup y = some a → ∃ o v, csF F1 cl a = some o ∧ o.data = .cell v := fun y a z => by
    obtain ⟨o, v, w1, w2⟩ := j4.all y a z
    obtain ⟨o', w3⟩ := csF_has z w1 w2
    exact ⟨o', _, w3, ((csF_yes w3).2.2).choose_spec⟩
  generalize hcsd : csF F1 cl = cs at hcs hcH hch hcok hcf hlook
  clear hcsd
  have fmem : pf.1 ∈ fps φ1 := mem_fps_of hφ1 (by rw [fpA_nil rfl]; simp)
  have fF1 : F1 pf.1 = none := n1.r.dis _ fmem
  have fcs : cs pf.1 = none := by
    cases z : cs pf.1 with
    | none => rfl
    | some o => rw [hcs _ _ z] at fF1; cases fF1
  have r2 : R X.K CA (unt F1 cs) (φ1.set n (pf.1, deadM)) (st1.set n .dead) (unt H2 cs) := (n1.r.dead hφ1).unt hcok hcs nc
  have ut := Ut.unt hcs
  have gr2 : ∀ {v x}, RV X.K F1 φ1 v x → RV X.K F1 (φ1.set n (pf.1, deadM)) v x := fun {v x} h => by
    cases x with
    | d x => exact h
    | s ns => exact h
    | r m =>
      obtain ⟨p', h1, h2⟩ := h
      by_cases hm : n = m
      · subst hm
        rw [hφ1] at h1; cases h1
        exact ⟨_, List.getElem?_set_self (List.getElem?_eq_some_iff.mp hφ1).1, h2⟩
      · exact ⟨p', by rw [List.getElem?_set_ne hm]; exact h1, h2⟩
    | f m a' =>
      obtain ⟨p', b, h1, h2, h3⟩ := h
      by_cases hm : n = m
      · subst hm
        rw [hφ1] at h1; cases h1
        cases h2
      · exact ⟨p', b, by rw [List.getElem?_set_ne hm]; exact h1, h2, h3⟩
  have gr2s : ∀ {vs xs}, RVs X.K F1 φ1 vs xs → RVs X.K F1 (φ1.set n (pf.1, deadM)) vs xs := fun h => by
    induction h with
    | nil => exact .nil
    | cons h _ ih => exact .cons (gr2 h) ih
  obtain ⟨vs0, h0a, h0b, h0c⟩ := j4.has
  have C2 : CellsAt cl (CA.cw f).fr (vs0.map some) s2.heap (unt H2 cs) := by
    refine ⟨by rw [List.length_map]; exact h0b, fun y a z => ?_, j4.inj, fun i y z => ?_⟩
    · obtain ⟨o, v, w1, w2⟩ := hlook y a z
      exact ⟨unt_yes w1, v, o, hch a o w1, w2⟩
    · have hi : i < vs0.length := by rw [h0b]; exact (List.getElem?_eq_some_iff.mp z).1
      obtain ⟨a, o, u, w1, w2, w3, w4⟩ := h0c i y vs0[i] z (List.getElem?_eq_getElem hi)
      refine ⟨a, w1, fun v hv' => ⟨u, ?_, o, ?_, w3⟩⟩
      · rw [List.getElem?_map, List.getElem?_eq_getElem hi] at hv'
        cases hv'
        exact w4
      · obtain ⟨o', v', w5, w6⟩ := hlook y a w1
        have w7 := hcs a o' w5
        rw [w2] at w7
        rw [hch a o' w5, cel_inj (Option.some.inj w7).symm (hch a o' w5)]
  have lv : vs.length = (CA.cw f).ps.length := by
    have e5 := h0a.length
    rw [List.length_append, List.length_map] at hlen
    rw [rv.length]; omega
  have jf : unt H2 cs pf.1 = some (CloO pf.1 (CA.cw f).W cl c) := by rw [unt_no fcs]; exact j2
  have jc : unt H2 cs c = some (CodeO c (CA.cw f).W.qual) := by rw [unt_no (cs_code hcok hcs j3)]; exact n1.r.sub _ _ j3
  have rc := hF X.A X.stack s2 (unt H2 cs) us vs (vs0.map some) (fun v H' => (∀ a o, cs a = some o → H' a = none) → Q v (trk H' cs)) pf.1 cl c hr (env0_unt I2.env0 hcH) jf jc C2 rr lv
    ⟨unt F1 cs, φ1.set n (pf.1, deadM), st1.set n .dead, xs, vs0, ws, y1, st2, r2, (gr2s rv).ut ut, rfl, h0a.ut ut, e3, fun F3 φ3 H3 v n3 rp hn => ?_⟩
  · refine wpAny_call (codeAny_mono rc fun res s3 hq => ?_)
    cases res with
    | error e => exact (show False from hq).elim
    | ok fl =>
      cases fl with
      | next => exact False.elim hq
      | brk => exact False.elim hq
      | cont => exact False.elim hq
      | ret u =>
        obtain ⟨v, H', os, bare, un, hok, rvl, q'⟩ := hq
        have hn : ∀ a o, cs a = some o → H' a = none := fun a o z => un.free a o (hch a o z) (unt_yes z) (by simp)
        exact I2.after ⟨v, trk H' cs, os, bare, un_unt un hcH, hok_unt un hok hch hcf, rvl, q' hn⟩
  · -- behind the body
    have hF3 : ∀ a o, cs a = some o → F3 a = none := fun a o z => by
      cases w : F3 a with
      | none => rfl
      | some u => have := n3.r.sub _ _ w; rw [hn a o z] at this; cases this
    have le3 : Le F1 (trk F3 cs) := fun a u w => by
      cases z : cs a with
      | some o => rw [hcs a o z] at w; rw [trk_yes z]; exact w
      | none => rw [trk_no z]; exact n3.le _ _ (by rw [unt_no z]; exact w)
    obtain ⟨o1, o2, o3⟩ := n3.off pf.1 _ jf (by rw [unt_no fcs]; exact fF1) (fun z => by
      obtain ⟨_, m, q0, ne, hq, hz⟩ := fps_set hφ1 _ z
      exact fps_two n1.r.nd hφ1 hq (fun z => ne z.symm) (by rw [fpA_nil rfl]; simp) hz)
    have hlt : n < φ3.length := by
      have := n3.r.len
      have h2 := (List.getElem?_eq_some_iff.mp hst2).1
      omega
    have rt := n3.r.trk hn
    have rb : R X.K CA (trk F3 cs) (φ3.set n (pf.1, [])) (st2.set n (.clo f ws)) (trk H3 cs) := by
      refine rt.back (p := φ3[n]) (List.getElem?_eq_getElem hlt) (fun a ha => ?_) (fun a ha => ?_) (by rw [fpA_nil rfl]; simp) ⟨rfl, hK, cl, c, ?_, le3 _ _ j3, j4.le le3⟩
      · have : a = pf.1 := by simpa [fpA_nil (p := (pf.1, [])) rfl] using ha
        rw [this]; exact o3
      · have : a = pf.1 := by simpa [fpA_nil (p := (pf.1, [])) rfl] using ha
        rw [this, trk_no fcs]; exact o2
      · show trk H3 cs pf.1 = _
        rw [trk_no fcs]; exact o1
    refine q (trk F3 cs) (φ3.set n (pf.1, [])) (trk H3 cs) v ⟨n1.le.trans le3, n1.gr.trans fun m p0 w => ?_, fun a u w1 w2 w3 => ?_, rb⟩ (Rp.le (Le.trk hF3) rp)
    · by_cases hm : n = m
      · subst hm
        rw [hφ1] at w; cases w
        exact ⟨_, List.getElem?_set_self hlt, rfl, fun _ _ z => by cases z⟩
      · obtain ⟨p1, w1, w2, w3⟩ := n3.gr m p0 (by rw [List.getElem?_set_ne hm]; exact w)
        exact ⟨p1, by rw [List.getElem?_set_ne hm]; exact w1, w2, w3⟩
    · obtain ⟨x1, x2, x3⟩ := n1.off a u w1 w2 w3
      have ca : cs a = none := by
        cases z : cs a with
        | none => rfl
        | some o => rw [hcs a o z] at x2; cases x2
      obtain ⟨y1, y2, y3⟩ := n3.off a u (by rw [unt_no ca]; exact x1) (by rw [unt_no ca]; exact x2) fun z => x3 (fps_set hφ1 a z).1
      refine ⟨by rw [trk_no ca]; exact y1, by rw [trk_no ca]; exact y2, fun z => ?_⟩
      rcases fps_put a z with z | z
      · exact y3 z
      · have : a = pf.1 := by simpa [fpA_nil (p := (pf.1, [])) rfl] using z
        exact x3 (this ▸ fmem)
end
end Tw
set_option Elab.async false
set_option linter.all false
set_option maxRecDepth 100000
set_option maxHeartbeats 4000000
/-! C7f: a function just made is handed on. -/
namespace Tw
open PySem PySem.Spec PyProof.Rows L2 LamX NdefX
/-! ### arguments, with more behind them -/
structure PAz (X : Cx) (es : List Expr) (t : TA) : Prop where
  run : ∀ (pos : Pos) (pins : List (Addr × Obj)) (s : Shared) (σ : L2.St) (H : Hp) (Q : List V → Hp → Prop) (rest : List (Bool × Sem Value)) (Q' : List Value → Shared → Prop), Inv X pins σ H s → t σ H Q →
    (∀ us s', AP X pins σ Q us s' → wpAny (model X.prog X.w) X.A (spliced rest) (fun ws s2 => Q' (us ++ ws) s2) X.xe s') → wpAny (model X.prog X.w) X.A (spliced (backTo pos (starEach es X.env) ++ rest)) Q' X.xe s
section
variable {X : Cx} {CA : CAT}
theorem pzNil {m : En → Sto → Option (List Vl × Sto)} (hm : ∀ ρ st, m ρ st = some ([], st)) : PAz X [] (TL X.K CA m) := by
  refine ⟨fun pos pins s σ H Q rest Q' I ⟨F, φ, st, ρ, xs, st', r, re, e, q⟩ h => ?_⟩
  rw [hm] at e
  cases e
  exact h [] s ⟨[], H, I, .nil, q _ _ _ _ r.nx .nil⟩
theorem pzCons {a : Expr} {es : List Expr} {ma : Mv} {m m2 : En → Sto → Option (List Vl × Sto)} (hm : ∀ ρ st, m ρ st = (ma ρ st).bind fun p => (m2 ρ p.2).map fun q => (p.1 :: q.1, q.2)) (ha : PE X a (TV X.K CA ma)) (hr : PAz X es (TL X.K CA m2))
    (hs : starEach (a :: es) X.env = (false, eval a X.env) :: starEach es X.env) : PAz X (a :: es) (TL X.K CA m) := by
  refine ⟨fun pos pins s σ H Q rest Q' I ⟨F, φ, st, ρ, xs, st', r, re, e, q⟩ h => ?_⟩
  rw [hm] at e
  obtain ⟨⟨v1, st1⟩, e1, e⟩ := Option.bind_eq_some_iff.mp e
  obtain ⟨⟨vs2, st2⟩, e2, e3⟩ := Option.map_eq_some_iff.mp e
  cases e3
  rw [hs]
  show wpAny _ _ (spliced ((false, eval a X.env) :: (backTo pos (starEach es X.env) ++ rest))) _ _ _
  refine Calls.spliced_cons (thn (ha.run pins s σ H (fun u H1 => TL X.K CA m2 σ H1 fun us H2 => Q (u :: us) H2) I ⟨F, φ, st, ρ, v1, st1, r, re, e1, fun F1 φ1 H1 u1 n1 rv1 => ?_⟩) fun u s1 ⟨v, H1, I1, rv, q1⟩ => ?_)
  · exact ⟨F1, φ1, st1, ρ, vs2, st2, n1.r, re.le n1.le n1.gr, e2, fun F2 φ2 H2 us n2 rv2 => q _ _ _ _ (n1.trans n2) (.cons (rv1.le n2.le n2.gr) rv2)⟩
  · exact hr.run pos pins s1 σ H1 _ rest _ I1 q1 fun us s2 ⟨vs, H2, I2, rs, q2⟩ => h (u :: us) s2 ⟨v :: vs, H2, I2, .cons rv rs, q2⟩
theorem starEach_app {env : Env} : ∀ (es fs : List Expr), starEach (es ++ fs) env = starEach es env ++ starEach fs env
  | [], fs => rfl
  | e :: es, fs => by
    cases e <;> (simp only [List.cons_append, starEach, starEach_app es fs])
theorem capD_at {K : PySem.W.Frag} {F : Hp} {φ : List FP} {σ : L2.St} {ρ : En} (re : RE K F φ σ ρ) : ∀ {js : List Nat} {wd : List PyData}, capD ρ js = some wd → ∃ vs : List V, js.map (slotAt σ) = vs.map some ∧ RpA K F vs wd
  | [], wd, e => by cases e; exact ⟨[], rfl, .nil⟩
  | j :: js, wd, e => by
    unfold capD at e
    split at e
    · rename_i x hx
      obtain ⟨ws, e1, rfl⟩ := Option.map_eq_some_iff.mp e
      obtain ⟨vs, h1, h2⟩ := capD_at re e1
      obtain ⟨v, h3, h4⟩ := re.at_ j _ hx
      exact ⟨v :: vs, by rw [List.map_cons, List.map_cons, h1, slotAt_of h3], .cons h4 h2⟩
    · cases e
open Classical in
noncomputable def csX (cl : List (Str × Addr)) (h : Heap) : Addr → Option Obj := fun a => if ∃ y, cl.lookup y = some a then h.get? a else none
theorem csX_yes {cl : List (Str × Addr)} {h : Heap} {a : Addr} {o : Obj} (e : csX cl h a = some o) : (∃ y, cl.lookup y = some a) ∧ h.get? a = some o := by
  unfold csX at e
  split at e
  · rename_i q; exact ⟨q, e⟩
  · cases e
theorem csX_has {cl : List (Str × Addr)} {h : Heap} {a : Addr} {y : Str} (e : cl.lookup y = some a) : csX cl h a = h.get? a := if_pos ⟨y, e⟩
theorem RVs.snoc {K : PySem.W.Frag} {F : Hp} {φ : List FP} {v : V} {x : Vl} : ∀ {vs : List V} {xs : List Vl}, RVs K F φ vs xs → RV K F φ v x → RVs K F φ (vs ++ [v]) (xs ++ [x])
  | _, _, .nil, h => .cons h .nil
  | _, _, .cons a r, h => .cons a (RVs.snoc r h)
/-- the call, behind the making -/
theorem callMade {pins : List (Addr × Obj)} {σ : L2.St} {s : Shared} {Q : VK} {C : CallF} {f k n : Nat} {fa g c' : Addr} {fd : FuncData} {ps : List Str} {cl : List (Str × Addr)} {js : List Nat} {F1 H1 : Hp} {φ : List FP} {st st2 : Sto} {ρ : En} {us : List Value} {vs : List V} {xs : List Vl} {wd : List PyData} {y : PyData}
    (hF : FnOk X.prog X.w X.K X.mg X.base CX0 n fa fd ps (spF X.K CA C f)) (hf : f < 1000) (hr : Room n X.A) (hb : Binds X.K fd ps []) (r1 : R X.K CA F1 φ st H1) (hg : H1 g = none) (I : Inv X pins σ (upd H1 g (CloO g (CA.cw k).W cl c')) s)
    (hcode : F1 c' = some (CodeO c' (CA.cw k).W.qual)) (hck : CA.ck k = true) (cp : Caps X cl (CA.cw k).fr js) (hfn : ∀ y, X.fn y = true) (re : RE X.K F1 φ σ ρ) (cap : capD ρ js = some wd) (rv : RVs X.K F1 φ vs xs) (rr : Vals vs us) (nc : noClo st = true)
    (e : C f (xs ++ [.r st.length]) (st ++ [.clo k wd]) = some (y, st2)) (nc2 : noClo (st2.take st.length) = true) (q : PostV X.K CA F1 φ H1 (.d y) (st2.take st.length) Q) :
    wpAny (model X.prog X.w) X.A (call (.ref fa) (us ++ [.ref g])) (EP X pins σ Q) X.xe s := by
  have cells := cells_of I cp
  -- the cells: their objects, where they lie
  have hc1 : ∀ a o, csX cl s.heap a = some o → H1 a = none ∧ a ≠ g ∧ s.heap.get? a = some o ∧ (∃ v, o.data = .cell v) ∧ a ∉ frs X.stack ∧ X.base.get? a = none := fun a o z => by
    obtain ⟨⟨y, hy⟩, ho⟩ := csX_yes z
    obtain ⟨h1, v, o', h2, h3⟩ := cells.all y a hy
    rw [ho] at h2
    cases h2
    have ng : a ≠ g := fun w => by rw [w, upd_same] at h1; cases h1
    rw [upd_ne ng] at h1
    have hX := cp.sub y a hy
    have ab := I.ok.cab y a (hfn y) hX
    refine ⟨h1, ng, ho, ⟨v, h3⟩, fun w => ?_, ?_⟩
    · rcases List.mem_cons.mp (I.stkSub a w) with w | w
      · exact I.cne y a hX w
      · obtain ⟨_, ob, hob, _⟩ := I.ok.funs.mem w
        exact absurd (Heap.lt_size hob) (Nat.not_lt.mpr ab)
    · cases w : X.base.get? a with
      | none => rfl
      | some ob =>
        have h5 : a < X.base.objs.size := Heap.lt_size w
        have h4 := I.ok.bsz
        exact absurd (Nat.lt_of_lt_of_le h5 h4) (Nat.not_lt.mpr ab)
  have hlook : ∀ y a, cl.lookup y = some a → ∃ o v, csX cl s.heap a = some o ∧ s.heap.get? a = some o ∧ o.data = .cell v := fun y a hy => by
    obtain ⟨_, v, o, h2, h3⟩ := cells.all y a hy
    exact ⟨o, v, by rw [csX_has hy]; exact h2, h2, h3⟩
  generalize csX cl s.heap = cs at hc1 hlook
  have c1 : ∀ a o, cs a = some o → H1 a = none := fun a o z => (hc1 a o z).1
  have cF : ∀ a o, cs a = some o → F1 a = none := fun a o z => by
    cases w : F1 a with
    | none => rfl
    | some u => have := r1.sub _ _ w; rw [c1 a o z] at this; cases this
  have cg : cs g = none := by
    cases z : cs g with
    | none => rfl
    | some o => exact absurd rfl (hc1 g o z).2.1
  have c2 : ∀ a o, cs a = some o → upd H1 g (CloO g (CA.cw k).W cl c') a = none := fun a o z => by rw [upd_ne (hc1 a o z).2.1]; exact c1 a o z
  have ch : ∀ a o, cs a = some o → s.heap.get? a = some o := fun a o z => (hc1 a o z).2.2.1
  have cok : CsOk cs := fun a o z => ⟨(hc1 a o z).2.2.2.1, s.heap, ch a o z⟩
  have rt := r1.trk c1
  have hgt : trk H1 cs g = none := by rw [trk_no cg]; exact hg
  have eH : upd (trk H1 cs) g (CloO g (CA.cw k).W cl c') = trk (upd H1 g (CloO g (CA.cw k).W cl c')) cs := by
    funext a
    by_cases ha : a = g
    · subst ha; rw [upd_same, trk_no cg, upd_same]
    · rw [upd_ne ha]
      cases z : cs a with
      | some o => rw [trk_yes z, trk_yes z]
      | none => rw [trk_no z, trk_no z, upd_ne ha]
  obtain ⟨vs0, k1, k2⟩ := capD_at re cap
  have cell : CellR X.K (trk F1 cs) cl (CA.cw k).fr wd := by
    refine ⟨cells.inj, fun y a hy => ?_, vs0, k2.le (Le.trk cF), ?_, fun i y v hi hv => ?_⟩
    · obtain ⟨o, v, h1, _, h3⟩ := hlook y a hy
      exact ⟨o, v, trk_yes h1, h3⟩
    · have := cells.len
      rw [k1, List.length_map] at this
      exact this
    · obtain ⟨a, hy, hu⟩ := cells.has i y hi
      obtain ⟨u, ru, o, ho, hd⟩ := hu v (by rw [k1, List.getElem?_map, hv]; rfl)
      obtain ⟨o', v', h1, h2, h3⟩ := hlook y a hy
      rw [ho] at h2
      cases h2
      exact ⟨a, o, u, hy, trk_yes h1, hd, ru⟩
  have nE := rt.nxEntry (o := CloO g (CA.cw k).W cl c') (m := .clo k wd) hgt ⟨rfl, hck, cl, c', upd_same, by rw [trk_no (cs_of c1 (r1.sub _ _ hcode))]; exact hcode, cell⟩
  rw [eH] at nE
  have hlen : st.length = φ.length := r1.len
  have rvs : RVs X.K (trk F1 cs) (φ ++ [(g, [])]) (vs ++ [.ref g]) (xs ++ [.r st.length]) := by
    refine (rv.le (Le.trk cF) Gr.app).snoc ⟨(g, []), ?_, rfl⟩
    rw [hlen, List.getElem?_append_right (Nat.le_refl _)]; simp
  have sp : spF X.K CA C f (vs ++ [.ref g]) (trk (upd H1 g (CloO g (CA.cw k).W cl c')) cs) (fun v H' => (∀ a o, cs a = some o → H' a = some (CelO a o)) ∧ Q v (unt H' cs)) E0 := by
    refine ⟨hf, .inl ⟨trk F1 cs, φ ++ [(g, [])], st ++ [.clo k wd], xs ++ [.r st.length], y, st2, nE.r, rvs, e, fun F' φ' H' v nx rp => ?_⟩⟩
    have cF' : ∀ a o, cs a = some o → F' a = some (CelO a o) := fun a o z => nx.le _ _ (trk_yes z)
    refine ⟨fun a o z => nx.r.sub _ _ (cF' a o z), ?_⟩
    have ut := Ut.unt cF'
    refine q (unt F' cs) (φ'.take st.length) (unt H' cs) v ⟨fun a o w => ?_, fun m p w => ?_, fun a o w1 w2 w3 => ?_, (nx.r.take st.length).unt cok cF' nc2⟩ (Rp.ut ut rp)
    · have ca := cs_of cF w
      rw [unt_no ca]
      exact nx.le _ _ (by rw [trk_no ca]; exact w)
    · obtain ⟨p', h1, h2, h3⟩ := nx.gr m p (by rw [List.getElem?_append_left (List.getElem?_eq_some_iff.mp w).1]; exact w)
      exact ⟨p', by rw [List.getElem?_take_of_lt (by rw [hlen]; exact (List.getElem?_eq_some_iff.mp w).1)]; exact h1, h2, h3⟩
    · have ca := cs_of c1 w1
      have ag : a ≠ g := fun z => by rw [z, hg] at w1; cases w1
      obtain ⟨h1, h2, h3⟩ := nx.off a o (by rw [trk_no ca, upd_ne ag]; exact w1) (by rw [trk_no ca]; exact w2) (fun z => by
        rw [fps_app] at z
        rcases List.mem_append.mp z with z | z
        · exact w3 z
        · exact ag (by simpa [fps, fpA_nil (p := (g, [])) rfl] using z))
      refine ⟨by rw [unt_no ca]; exact h1, by rw [unt_no ca]; exact h2, fun z => h3 ?_⟩
      obtain ⟨p, hp, hz⟩ := List.mem_flatMap.mp z
      exact List.mem_flatMap.mpr ⟨p, List.mem_of_mem_take hp, hz⟩
  have r2 : Vals (vs ++ [.ref g]) (us ++ [.ref g]) := rr.append (.cons rfl .nil)
  have hl : ((us ++ [Value.ref g]) ++ []).length = ps.length := by rw [List.append_nil, ← r2.length]; exact hF.len _ _ _ _ sp
  have bt := hb s (us ++ [.ref g]) I.kIn hl
  rw [List.append_nil] at bt
  have rc := hF.run X.A X.stack s _ ⟨us ++ [.ref g], []⟩ (us ++ [.ref g]) (vs ++ [.ref g]) _ E0 hr (env0_trk I.env0 c2 ch (fun a o z => (hc1 a o z).2.2.2.2.1) fun a o z => (hc1 a o z).2.2.2.2.2) bt r2 sp
  refine wpAny_call (codeAny_mono rc fun res s3 hq => ?_)
  cases res with
  | error e => exact (show False from hq).elim
  | ok fl =>
    cases fl with
    | next => exact False.elim hq
    | brk => exact False.elim hq
    | cont => exact False.elim hq
    | ret u =>
      obtain ⟨v, H', os, bare, un, hok, rvl, q1, q2⟩ := hq
      exact I.after ⟨v, unt H' cs, os, bare, un_trk un hok c2 ch q1, HOk.unt hok q1, rvl, q2⟩
/-- what the making leaves, over the store -/
theorem madeNx {F H H1 : Hp} {φ : List FP} {st : Sto} {j : Nat} {q : Str} {pos : Pos} {c' : Addr} {ps : Array Value} (r : R X.K CA F φ st H) (ht : st[j]? = some (.tab j)) (hq : q = CA.tq j)
    (hp : H (CA.tb j) = some (.tbl ps)) (hm : MadeC H (CA.tb j) ps q pos c' H1) : ∃ F1, Nx X.K CA F φ H F1 φ st H1 ∧ F1 c' = some (CodeO c' q) := by
  have hlt : j < φ.length := by rw [← r.len]; exact (List.getElem?_eq_some_iff.mp ht).1
  have hφ : φ[j]? = some φ[j] := List.getElem?_eq_getElem hlt
  obtain ⟨e1, ps', e2, t, g⟩ := r.obj j _ _ ht hφ
  rw [e1] at hφ e2
  rw [show H (CA.tb j) = some (.tbl ps') from e2] at hp
  cases hp
  have hfa : CA.tb j ∈ fpA (CA.tb j, []) := by rw [fpA_nil rfl]; simp
  subst hq
  rcases hm with ⟨rfl, hc⟩ | ⟨hc, rfl⟩
  · obtain ⟨c, h1, h2⟩ := g pos _ hc
    cases h1
    exact ⟨F, r.nx, h2⟩
  · have ne : CA.tb j ≠ c' := ne_of_none e2 hc
    have n1 := r.nxData hc (CodeO c' (CA.tq j))
    have n2 := n1.r.nxChange (a := CA.tb j) (o := .tbl (ps ++ #[rawInt pos.line, rawInt pos.col, .ref c'])) (m := .tab j) hφ hfa ⟨rfl, _, upd_same, ?_, fun p' cv hcv => ?_⟩
    · have eq : upd (upd H c' (CodeO c' (CA.tq j))) (CA.tb j) (.tbl (ps ++ #[rawInt pos.line, rawInt pos.col, .ref c'])) = upd (upd H (CA.tb j) (.tbl (ps ++ #[rawInt pos.line, rawInt pos.col, .ref c']))) c' (CodeO c' (CA.tq j)) := by
        funext a
        by_cases h1 : a = c'
        · subst h1; rw [upd_ne (Ne.symm ne), upd_same, upd_same]
        · by_cases h2 : a = CA.tb j
          · subst h2; rw [upd_same, upd_ne h1, upd_same]
          · rw [upd_ne h2, upd_ne h1, upd_ne h1, upd_ne h2]
      have es : st.set j (.tab j) = st := by
        apply List.ext_getElem?
        intro i
        by_cases hi : j = i
        · subst hi
          rw [List.getElem?_set_self (by rw [r.len]; exact hlt), ht]
        · rw [List.getElem?_set_ne hi]
      rw [eq, es] at n2
      exact ⟨_, n1.trans n2, upd_same⟩
    · rw [show (ps ++ #[rawInt pos.line, rawInt pos.col, Value.ref c']).toList = ps.toList ++ [rawInt pos.line, rawInt pos.col, .ref c'] by simp]
      exact PySem.TriplesOk_snoc _ _ _ _ t
    · rw [show (ps ++ #[rawInt pos.line, rawInt pos.col, Value.ref c']).toList = ps.toList ++ [rawInt pos.line, rawInt pos.col, .ref c'] by simp] at hcv
      rcases among_app _ t hcv with z | z
      · obtain ⟨c, h1, h2⟩ := g p' cv z
        exact ⟨c, h1, by rw [upd_ne (fun w : c = c' => by rw [w] at h2; have := r.sub _ _ h2; rw [hc] at this; cases this)]; exact h2⟩
      · exact ⟨c', z, upd_same⟩
end
end Tw
set_option Elab.async false
set_option linter.all false
set_option maxRecDepth 100000
set_option maxHeartbeats 4000000
/-! C7g: return f(.., lambda ..: ..); def g(..): .. return f(.., g). -/
namespace Tw
open PySem PySem.Spec PyProof.Rows L2 LamX NdefX
def del (H : Hp) (g : Addr) : Hp := fun a => if a = g then none else H a
theorem del_same {H : Hp} {g : Addr} : del H g g = none := if_pos rfl
theorem del_ne {H : Hp} {g a : Addr} (h : a ≠ g) : del H g a = H a := if_neg h
theorem upd_del {H : Hp} {g : Addr} {o : HO} (h : H g = some o) : upd (del H g) g o = H := by
  funext a
  by_cases e : a = g
  · subst e; rw [upd_same, h]
  · rw [upd_ne e, del_ne e]
section
variable {X : Cx} {CA : CAT}
theorem R.less {K : PySem.W.Frag} {F H : Hp} {φ : List FP} {st : Sto} {g : Addr} (r : R K CA F φ st H) (h1 : F g = none) (h2 : g ∉ fps φ) : R K CA F φ st (del H g) := by
  refine ⟨fun a u e => ?_, r.dis, r.nd, r.len, fun n m p e1 e2 => (r.obj n m p e1 e2).keep Le.rfl fun a ha => del_ne fun z => h2 (z ▸ mem_fps_of e2 ha)⟩
  rw [del_ne (fun z => by rw [z, h1] at e; cases e)]; exact r.sub _ _ e
theorem isTab_at {j : Nat} {o : Option MO} (h : isTab j o = true) : o = some (.tab j) := by
  unfold isTab at h
  split at h
  · rw [beq_iff_eq] at h; rw [h]
  · cases h
theorem retlS_at {C : CallF} {f j k : Nat} {ws : Option (List PyData)} {vs : List Vl} {st st' : Sto} {y : PyData} (e : retlS C f j k ws vs st = some (y, st')) :
    st[j]? = some (.tab j) ∧ noClo st = true ∧ ∃ wd st2, ws = some wd ∧ C f (vs ++ [.r st.length]) (st ++ [.clo k wd]) = some (y, st2) ∧ noClo (st2.take st.length) = true ∧ st' = st2.take st.length := by
  unfold retlS at e
  split at e
  · rename_i h
    rw [Bool.and_eq_true] at h
    obtain ⟨wd, e1, e2⟩ := Option.bind_eq_some_iff.mp e
    obtain ⟨⟨y1, st2⟩, e3, e4⟩ := Option.bind_eq_some_iff.mp e2
    split at e4
    · rename_i h2
      cases e4
      exact ⟨isTab_at h.1, h.2, wd, st2, e1, e3, h2, rfl⟩
    · cases e4
  · cases e
theorem starOk : ∀ {es : List Expr} {e : Expr}, es.all notStar = true → notStar e = true → (es ++ [e]).all notStar = true := fun h1 h2 => by
  rw [List.all_append, h1]; simp [h2]
theorem back_app {pos : Pos} {env : Env} {es : List Expr} {e : Expr} (h : notStar e = true) : backTo pos (starEach (es ++ [e]) env) = backTo pos (starEach es env) ++ [(false, eval e env)] := by
  rw [starEach_app, backTo, backTo, List.map_append, starOne h]
  rfl
theorem callSplit {x : Str} {p pos : Pos} {fa : Addr} {es : List Expr} {e : Expr} {pins : List (Addr × Obj)} {σ : L2.St} {H : Hp} {s : Shared} {Q : Value → Shared → Prop} (I : Inv X pins σ H s) (hg : Gl X x) (hx : X.mg x = some (.ref fa)) (hk : PySem.W.keepIn X.K (.ref fa) = true) (hd : (x == ("__debug__" : Str)) = false)
    (hs : es.all notStar = true) (he : notStar e = true) (h : wpAny (model X.prog X.w) X.A (spliced (backTo pos (starEach es X.env) ++ [(false, eval e X.env)])) (fun vs s₁ => X.K.In s₁.heap ∧ wpAny (model X.prog X.w) X.A (call (.ref fa) vs) Q X.xe s₁) X.xe s) :
    wpAny (model X.prog X.w) X.A (eval (.Call (.Name x p) (es ++ [e]) [] pos) X.env) Q X.xe s := by
  have hs2 := starOk hs he
  rw [← back_app he] at h
  obtain ⟨a, r, hr⟩ : ∃ a r, es ++ [e] = a :: r := by
    cases es with
    | nil => exact ⟨e, [], rfl⟩
    | cons a es => exact ⟨a, es ++ [e], rfl⟩
  rw [hr] at hs2 h ⊢
  rw [List.all_cons, Bool.and_eq_true] at hs2
  exact wpAny_Call_Name_kw (ld_glob I hg hx (PySem.W.callWith_K (h₀ := X.base) I.ok.mod.kin hk h (starOne hs2.1 _) (starAny hs2.2)) hd)
/-- f(.., lambda ..: ..) -/
theorem peRetl {x : Str} {p lpos pos : Pos} {C : CallF} {f j k n : Nat} {fa : Addr} {fd : FuncData} {ps : List Str} {es : List Expr} {params : Arguments} {body : Expr} {scope : Scope} {js : List Nat} {ml : En → Sto → Option (List Vl × Sto)} {m : Mv}
    (hm : ∀ ρ st, m ρ st = (ml ρ st).bind fun p => (retlS C f j k (capD ρ js) p.1 p.2).map fun q => (.d q.1, q.2))
    (hF : FnOk X.prog X.w X.K X.mg X.base CX0 n fa fd ps (spF X.K CA C f)) (hf : f < 1000) (hr : Room n X.A) (hg : Gl X x) (hx : X.mg x = some (.ref fa)) (hk : PySem.W.keepIn X.K (.ref fa) = true) (hb : Binds X.K fd ps []) (hd : (x == ("__debug__" : Str)) = false)
    (hA : PAz X es (TL X.K CA ml)) (hs : es.all notStar = true)
    (TB : TabB X.base X.mg (CA.tc j) (CA.tb j)) (hcode : X.env.code = .ref (CA.tc j)) (hq : X.env.qual ++ "<lambda>" = CA.tq j) (hw : (CA.cw k).W = ⟨"<lambda>", params, .expr body, scope, CA.tq j⟩) (hfn : ∀ y, X.fn y = true) (hck : CA.ck k = true)
    (hdef : defaultsOf params X.env = ([], [])) (hfree : ndefB X.env.scope scope (CA.cw k).fr = true) (hjs : js.map (fun j => X.N[j]?) = (CA.cw k).fr.map some) :
    PE X (.Call (.Name x p) (es ++ [.Lambda params body scope lpos]) [] pos) (TV X.K CA m) := by
  refine ⟨fun pins s σ H Q I ⟨F, φ, st, ρ, y, st', r, re, e, q⟩ => ?_⟩
  rw [hm] at e
  obtain ⟨⟨xs, st1⟩, e1, e2⟩ := Option.bind_eq_some_iff.mp e
  obtain ⟨⟨y1, st2⟩, e3, e4⟩ := Option.map_eq_some_iff.mp e2
  cases e4
  obtain ⟨ht, nc, wd, st3, hcap, e5, nc2, rfl⟩ := retlS_at e3
  refine callSplit I hg hx hk hd hs rfl (hA.run pos pins s σ H (fun vs H1 => ∃ F1 φ1, Nx X.K CA F φ H F1 φ1 st1 H1 ∧ RVs X.K F1 φ1 vs xs) _ _ I ⟨F, φ, st, ρ, xs, st1, r, re, e1, fun F1 φ1 H1 vs n1 rv => ⟨F1, φ1, n1, rv⟩⟩ fun us s1 ⟨vs, H1, I1, rr, F1, φ1, n1, rv⟩ => ?_)
  have hlt : j < φ1.length := by rw [← n1.r.len]; exact (List.getElem?_eq_some_iff.mp ht).1
  obtain ⟨g1, tp, g2, g3, g4⟩ := n1.r.obj j _ _ ht (List.getElem?_eq_getElem hlt)
  rw [g1] at g2
  have g2 : H1 (CA.tb j) = some (.tbl tp) := g2
  refine Calls.spliced_cons (lamMake I1 TB hcode hq g2 g3 (fun cv z => let ⟨c, h1, _⟩ := g4 _ cv z; ⟨c, h1⟩) hdef (fun y hy z => (ndef_free hfree y hy z).elim (fun w => I1.ok.has _ (.inl w)) fun w => I1.ok.has _ (.inr w)) fun g c' H2 s2 made hg2 I2 => Calls.spliced_nil ⟨I2.kIn, ?_⟩)
  obtain ⟨F2, n2, hc2⟩ := madeNx n1.r ht rfl g2 made
  rw [← hw] at I2
  exact callMade hF hf hr hb n2.r hg2 I2 (by rw [hw]; exact hc2) hck (Caps.made I2.ok (ndef_free hfree) (ndef_fr hfree) hjs) hfn (re.le (n1.le.trans n2.le) (n1.gr.trans n2.gr)) hcap (rv.le n2.le n2.gr) rr nc e5 nc2 fun F3 φ3 H3 v n3 rp => q _ _ _ _ ((n1.trans n2).trans n3) rp
/-- def g(..): ..; return f(.., g) -/
theorem pssRetd {x name : Str} {p np dpos cpos pos : Pos} {C : CallF} {f j k n i : Nat} {fa : Addr} {fd : FuncData} {ps : List Str} {es : List Expr} {params : Arguments} {body : List Stmt} {scope : Scope} {js : List Nat} {ml : En → Sto → Option (List Vl × Sto)} {m : Ms}
    (hm : ∀ ρ st, m ρ st = if noVal (ρ[i]?) && isTab j st[j]? then (ml ρ st).bind fun p => (retlS C f j k (capD ρ js) p.1 p.2).map fun q => (.ret (.d q.1), ρ, q.2) else none)
    (hF : FnOk X.prog X.w X.K X.mg X.base CX0 n fa fd ps (spF X.K CA C f)) (hf : f < 1000) (hr : Room n X.A) (hg : Gl X x) (hx : X.mg x = some (.ref fa)) (hk : PySem.W.keepIn X.K (.ref fa) = true) (hb : Binds X.K fd ps []) (hd : (x == ("__debug__" : Str)) = false)
    (hA : PAz X es (TL X.K CA ml)) (hs : es.all notStar = true) (hN : X.N.Nodup) (hi : X.N[i]? = some name) (hloc : Loc X.env.scope name) (hdn : (name == ("__debug__" : Str)) = false) (hcn : (name == ("__classdict__" : Str)) = false)
    (TB : TabB X.base X.mg (CA.tc j) (CA.tb j)) (hcode : X.env.code = .ref (CA.tc j)) (hq : X.env.qual ++ name = CA.tq j) (hw : (CA.cw k).W = ⟨name, params, .stmts body, scope, CA.tq j⟩) (hfn : ∀ y, X.fn y = true) (hck : CA.ck k = true)
    (hd0 : params.defaults = []) (hk0 : params.kw_defaults = []) (ha : annTrees params none X.env = []) (hfree : ndefB X.env.scope scope (CA.cw k).fr = true) (hjs : js.map (fun j => X.N[j]?) = (CA.cw k).fr.map some) (hij : i ∉ js) :
    PSs X [.FunctionDef name params body [] none [] scope none name dpos, .Return (some (.Call (.Name x p) (es ++ [.Name name np]) [] cpos)) pos] (TSv X.K CA m) := by
  -- the call
  have hcall : PE X (.Call (.Name x p) (es ++ [.Name name np]) [] cpos) (fun σ H2 Q => ∃ F φ st ρ y st' g c' H0, R X.K CA F φ st H0 ∧ RE X.K F φ σ ρ ∧ H0 g = none ∧ H2 = upd H0 g (CloO g (CA.cw k).W (cloFrom X.env.cells scope.names []) c') ∧ σ[i]? = some (some (.ref g)) ∧ F c' = some (CodeO c' (CA.tq j)) ∧
      (ml ρ st).bind (fun p => retlS C f j k (capD ρ js) p.1 p.2) = some (y, st') ∧ PostV X.K CA F φ H0 (.d y) st' Q) := by
    refine ⟨fun pins s σ H2 Q I ⟨F, φ, st, ρ, y, st', g, c', H0, r, re, hg0, eH, hσ, hc, e, q⟩ => ?_⟩
    obtain ⟨⟨xs, st1⟩, e1, e3⟩ := Option.bind_eq_some_iff.mp e
    obtain ⟨ht, nc, wd, st3, hcap, e5, nc2, rfl⟩ := retlS_at e3
    subst eH
    have fr := r.fresh hg0
    have rX : R X.K CA F φ st (upd H0 g (CloO g (CA.cw k).W (cloFrom X.env.cells scope.names []) c')) := r.extra fr.2 fr.1
    refine callSplit I hg hx hk hd hs rfl (hA.run cpos pins s σ _ (fun vs H1 => ∃ F1 φ1, Nx X.K CA F φ (upd H0 g (CloO g (CA.cw k).W (cloFrom X.env.cells scope.names []) c')) F1 φ1 st1 H1 ∧ RVs X.K F1 φ1 vs xs) _ _ I ⟨F, φ, st, ρ, xs, st1, rX, re, e1, fun F1 φ1 H1 vs n1 rv => ⟨F1, φ1, n1, rv⟩⟩ fun us s1 ⟨vs, H1, I1, rr, F1, φ1, n1, rv⟩ => ?_)
    have hvis : Vis X.env.scope name := hloc.elim .inl fun z => .inr (.inl z)
    refine Calls.spliced_cons (thn ((pe_var (pos := np) hi hvis hdn hcn).run pins s1 σ H1 (fun v H' => v = .ref g ∧ H' = H1) I1 ⟨.ref g, hσ, rfl, rfl⟩) fun u s2 ⟨v, H', I2, ru, ev, eH⟩ => Calls.spliced_nil ?_)
    subst ev
    rw [eH] at I2
    obtain rfl : u = Value.ref g := ru
    obtain ⟨o1, o2, o3⟩ := n1.off g _ upd_same fr.2 fr.1
    have rL := n1.r.less o2 o3
    have nL : Nx X.K CA F φ H0 F1 φ1 st1 (del H1 g) := ⟨n1.le, n1.gr, fun a o w1 w2 w3 => by
      have ne : a ≠ g := fun z => by rw [z, hg0] at w1; cases w1
      obtain ⟨x1, x2, x3⟩ := n1.off a o (by rw [upd_ne ne]; exact w1) w2 w3
      exact ⟨by rw [del_ne ne]; exact x1, x2, x3⟩, rL⟩
    refine ⟨I2.kIn, ?_⟩
    exact callMade hF hf hr hb rL del_same (by rw [upd_del o1]; exact I2) (by rw [hw]; exact n1.le _ _ hc) hck (Caps.made I2.ok (ndef_free hfree) (ndef_fr hfree) hjs) hfn (re.le n1.le n1.gr) hcap rv rr nc e5 nc2 fun F3 φ3 H3 v n3 rp => q _ _ _ _ (nL.trans n3) rp
  -- the def
  refine ⟨fun pins s σ H D I ⟨F, φ, st, ρ, o, ρ', st', r, re, e, q⟩ => ?_⟩
  rw [hm] at e
  split at e
  case isFalse => cases e
  rename_i hc0
  rw [Bool.and_eq_true] at hc0
  have ht := isTab_at hc0.2
  have hno : ρ[i]? = some none := by
    have := hc0.1
    unfold noVal at this
    split at this
    · assumption
    · cases this
  obtain ⟨⟨xs, st1⟩, e1, e2⟩ := Option.bind_eq_some_iff.mp e
  obtain ⟨⟨y1, st2⟩, e3, e4⟩ := Option.map_eq_some_iff.mp e2
  cases e4
  have hlt : j < φ.length := by rw [← r.len]; exact (List.getElem?_eq_some_iff.mp ht).1
  obtain ⟨g1, tp, g2, g3, g4⟩ := r.obj j _ _ ht (List.getElem?_eq_getElem hlt)
  rw [g1] at g2
  have g2 : H (CA.tb j) = some (.tbl tp) := g2
  have hdef : PS X (.FunctionDef name params body [] none [] scope none name dpos) (fun D' σ' H' => σ' = σ ∧ H' = H ∧ ∀ (g c' : Addr) (H1 : Hp), MadeC H (CA.tb j) tp (CA.tq j) dpos c' H1 → H1 g = none → D'.nx (σ.set i (some (.ref g))) (upd H1 g (CloO g (CA.cw k).W (cloFrom X.env.cells scope.names []) c'))) := by
    refine ⟨fun pins s σ' H' D' I' ⟨eσ, eH, h⟩ => ?_⟩
    subst eσ; subst eH
    have hqn : qualnameIn X.env name name = CA.tq j := by
      rw [← hq]
      have hk : X.env.kindOf name = some .local ∨ X.env.kindOf name = some .cell := hloc
      unfold qualnameIn
      rcases hk with k | k <;> rw [k] <;> first | rfl | exact if_neg (by decide)
    refine PySem.W.nestDef_K hd0 hk0 ha ?_
    rw [hqn]
    refine defMake I' TB hcode g2 g3 (fun cv z => let ⟨c, h1, _⟩ := g4 _ cv z; ⟨c, h1⟩) (fun y hy z => (ndef_free hfree y hy z).elim (fun w => I'.ok.has _ (.inl w)) fun w => I'.ok.has _ (.inr w)) fun g c' H1 s' made hg2 I2 => ?_
    rw [← hw] at I2
    exact store_ok I2 hN hi hloc (v := .ref g) rfl (fun s'' J => ⟨_, _, J, h g c' H1 made hg2⟩) (.inl (hfn name))
  refine (pss_cons hdef (pss_one (ps_ret hcall))).run pins s σ H D I ⟨rfl, rfl, fun g c' H1 made hg1 => ?_⟩
  obtain ⟨F1, n1, hc1⟩ := madeNx r ht rfl g2 made
  refine ⟨F1, φ, st, ρ, y1, st2, g, c', H1, n1.r, ?_, hg1, rfl, ?_, hc1, ?_, fun F3 φ3 H3 v n3 rp => ?_⟩
  · refine ⟨by rw [List.length_set]; exact re.len, fun i' x' w => ?_⟩
    have ne : i ≠ i' := fun z => by rw [← z, hno] at w; cases w
    obtain ⟨v, h1, h2⟩ := re.at_ i' x' w
    exact ⟨v, by rw [List.getElem?_set_ne ne]; exact h1, h2.le n1.le n1.gr⟩
  · rw [List.getElem?_set_self (by rw [I.len]; exact (List.getElem?_eq_some_iff.mp hi).1)]
  · exact Option.bind_eq_some_iff.mpr ⟨(xs, st1), e1, e3⟩
  · exact q F3 φ3 H3 σ (n1.trans n3) (re.le (n1.le.trans n3.le) (n1.gr.trans n3.gr)) v rp
end
end Tw
set_option Elab.async false
set_option linter.all false
set_option maxRecDepth 100000
set_option maxHeartbeats 4000000
/-! C3h: tuple(sorted(d.items())), and a dict of such a tuple. -/
namespace Tw
open PySem L2 PySem.Spec PyProof.Rows
abbrev entK (e : Str × Int) : Key × V := (Sum.inr e.1, .int e.2)
def pairO (p : Str × Int) : HO := .tup [.str p.1, .int p.2]
def laidP (H : Hp) : List (Addr × Str × Int) → Hp
  | [] => H
  | z :: r => laidP (upd H z.1 (pairO z.2)) r
def riseL : List (Str × Int) → Prop := List.Pairwise fun a b => a.1.cps.toList < b.1.cps.toList
section
variable {X : Cx}
theorem takeP {pins : List (Addr × Obj)} {σ : L2.St} {H0 : Hp} {s : Shared} {h' : Heap} {tk : Nat} (I0 : Inv X pins σ H0 s) : ∀ (L : List (Addr × Str × Int)) (H1 : Hp), Inv X pins σ H1 { s with heap := h', toks := tk } → (L.map (·.1)).Nodup →
    (∀ z ∈ L, s.heap.objs.size ≤ z.1 ∧ H1 z.1 = none ∧ ∀ H2, ObjOk X.prog X.w H2 h' z.1 (pairO z.2)) → Inv X pins σ (laidP H1 L) { s with heap := h', toks := tk }
  | [], H1, I1, _, _ => I1
  | z :: L, H1, I1, hn, h => by
    obtain ⟨hb, hnone, ok⟩ := h z (List.mem_cons_self ..)
    have I2 : Inv X pins σ (upd H1 z.1 (pairO z.2)) { s with heap := h', toks := tk } := I1.take (h' := h') (t' := tk) (fun b ob _ e => e) (I0.fpOk hb hnone) (ok _)
    rw [List.map_cons, List.nodup_cons] at hn
    exact takeP I0 L _ I2 hn.2 fun c hc => by
      obtain ⟨c1, c2, c3⟩ := h c (List.mem_cons_of_mem _ hc)
      exact ⟨c1, by rw [upd_ne (fun e => hn.1 (by rw [← e]; exact List.mem_map.mpr ⟨c, hc, rfl⟩))]; exact c2, c3⟩
def rItemsK : V → List V → Hp → VK → Prop := fun x xs H Q => ∃ (a : Addr) (kvs : List (Key × V)), x = .ref a ∧ xs = [] ∧ Rd H a (.dK kvs) ∧ ∀ p, H p = none → Q (.ref p) (upd H p (L2.DX.itemsO p a))
theorem mt_itemsK : MtR X "dict.items" rItemsK := by
  intro pins s σ H x xs v us Q I rx rxs h
  obtain ⟨a, kvs, rfl, rfl, ha, q⟩ := h
  cases rx
  cases rxs
  obtain ⟨z, hd, vs, rel, o, es, ep, ho, hx, hdat, _⟩ := (ha.ok I.hok : ObjOk X.prog X.w H s.heap a (.dK kvs))
  refine DT.callItems (es := es) (ep := ep) hd ⟨o, ho, hx, hdat⟩ ?_
  have hf : H s.heap.objs.size = none := I.hok.fresh (Nat.le_refl _)
  exact ⟨.ref s.heap.objs.size, upd H s.heap.objs.size (L2.DX.itemsO s.heap.objs.size a), I.laid (t' := s.toks) (fun b u e => Heap.get?_push_of_some _ e) (Nat.le_refl _) (L2.DX.itemsO_ok (Heap.get?_push_size _ rfl)), rfl, q _ hf⟩
/-- what an entry is -/
theorem kv_int : ∀ {ps : List (Str × Int)} {vs : List (Key × Value)}, KV (ps.map entK) vs → ∀ {es : List DictEntry}, Pairs (mixKind X.prog X.w) es vs → ∀ (j : Nat) (e : DictEntry), es[j]? = some e →
    ∃ (p : Str × Int) (t t2 : Tok), ps[j]? = some p ∧ e.key = .str p.1 t ∧ e.val = .int p.2 t2
  | [], _, h, _, h2, j, e, he => by
    cases h
    cases h2
    simp at he
  | p :: ps, _, h, _, h2, j, e, he => by
    cases h with
    | cons h3 h4 =>
      cases h2 with
      | cons h5 h6 h7 =>
        cases j with
        | zero =>
          simp only [List.getElem?_cons_zero, Option.some.injEq] at he
          subst he
          obtain ⟨e1, e2⟩ := h3
          rw [← e1] at h5
          rw [← h6] at e2
          obtain ⟨t2, e2⟩ := (show ∃ t2, _ = Value.int p.2 t2 from e2)
          have h5' : keyIs (Sum.inr p.1) _ = true := h5
          obtain ⟨t, e3⟩ : ∃ t, _ = Value.str p.1 t := by
            rcases keyIs_shape h5' with ⟨_, _, q, _⟩ | ⟨x, t, q, q2⟩
            · cases q
            · cases q; exact ⟨t, q2⟩
          exact ⟨p, t, t2, rfl, e3, e2⟩
        | succ j =>
          obtain ⟨p', t, t2, e1, e2, e3⟩ := kv_int h4 h7 j e (by simpa using he)
          exact ⟨p', t, t2, by simpa using e1, e2, e3⟩
def encI (z : Addr × Str × Int) : PyData := .tuple [.str z.2.1, .int z.2.2]
theorem encI_le {a b : Addr × Str × Int} (h : a.2.1.cps.toList < b.2.1.cps.toList) : PySem.W.dataLe false encI a b = true := by
  rw [PySem.W.dataLe_eq]
  show (!PySem.W.dataLt (encI b) (encI a)) = true
  unfold encI
  rw [PySem.W.dataLt_pair (by simp [PySem.W.alike]) (by simp [PySem.W.alike])]
  have ne : ¬ b.2.1 = a.2.1 := fun e => by rw [e] at h; exact List.lt_irrefl _ h
  have e1 : PyData.eqv (.str b.2.1) (.str a.2.1) = false := by simp [PyData.eqv, ne]
  rw [e1, if_neg Bool.false_ne_true, PySem.W.dataLt_str]
  have : ¬ b.2.1.cps.toList < a.2.1.cps.toList := fun e => List.lt_irrefl _ (List.lt_trans h e)
  simp [this]
def rSortK : List V → Hp → VK → Prop := fun vs H Q => ∃ (p a : Addr) (ps : List (Str × Int)), vs = [.ref p] ∧ H p = some (L2.DX.itemsO p a) ∧ Rd H a (.dK (ps.map entK)) ∧ ps.length < 1000 ∧ riseL ps ∧
  ∀ (L : List (Addr × Str × Int)) (l : Addr), L.map (·.2) = ps → (L.map (·.1)).Nodup → (∀ z ∈ L, H z.1 = none ∧ z.1 ≠ l) → H l = none → Q (.ref l) (laidP (upd H l (.lst (L.map fun z => V.ref z.1))) L)
theorem cr_sortK (hc : X.calm = true) (hu : X.A.units + 64 < cLine) : CallR X (.builtin "sorted") rSortK := by
  intro pins s σ H xs us Q I r h
  obtain ⟨p, a, ps, rfl, hp, ha, hlen, hrise, q⟩ := h
  obtain rfl := Vals.ref1 r
  have view : s.heap.IsItemsView p a := (show ObjOk X.prog X.w H s.heap p (L2.DX.itemsO p a) from I.hok p _ hp).1
  obtain ⟨z, hd, vs, rel, o, es, ep, ho, hx, hdat, hko, hpr, hnd⟩ := (ha.ok I.hok : ObjOk X.prog X.w H s.heap a (.dK (ps.map entK)))
  have l1 : (ps.map entK).length = vs.length := Paired.length rel
  rw [List.length_map] at l1
  have l2 : es.size = vs.length := by rw [← hpr.length, Array.length_toList]
  have hh : X.A.handled = none := I.ok.hd hc
  refine DT.sortedI (es := es) (ep := ep) hh view ⟨o, ho, hx, hdat⟩ (by rw [sizeLine_eq]; omega) fun h' tk as hk hlt hl hG => ?_
  have lak : as.length = ps.length := by omega
  have nd : as.Nodup := List.Pairwise.imp (fun h => Nat.ne_of_lt h) hG.rise
  have pr : ∀ (j : Nat) (b : Addr), as[j]? = some b → ∃ (e : Str × Int) (t t2 : Tok), ps[j]? = some e ∧ h'.get? b = some { cls := .type "tuple", data := .seq #[Value.str e.1 t, Value.int e.2 t2] } := by
    intro j b hj
    obtain ⟨en, he, hg⟩ := hG.pairs j b hj
    obtain ⟨e, t, t2, e1, e2, e3⟩ := kv_int rel hpr j en (by simpa using he)
    exact ⟨e, t, t2, e1, by rw [hg, e2, e3]⟩
  have hz1 : (as.zip ps).map (·.1) = as := List.map_fst_zip (by omega)
  have hz2 : (as.zip ps).map (·.2) = ps := List.map_snd_zip (by omega)
  have hmem : ∀ z ∈ as.zip ps, ∃ (t t2 : Tok), h'.get? z.1 = some { cls := .type "tuple", data := .seq #[Value.str z.2.1 t, Value.int z.2.2 t2] } := by
    intro z hz
    obtain ⟨j, hj⟩ := List.mem_iff_getElem?.mp hz
    obtain ⟨hj1, hj2⟩ := List.getElem?_zip_eq_some.mp hj
    obtain ⟨e, t, t2, e1, e2⟩ := pr j _ hj1
    rw [hj2] at e1
    cases e1
    exact ⟨t, t2, e2⟩
  generalize hL : as.zip ps = L at hz1 hz2 hmem
  subst hz1
  subst hz2
  have hob : (h'.push { cls := .type "list", data := .seq ((L.map (·.1)).map Value.ref).toArray }).get? h'.objs.size = some (seqObj "list" ((L.map (·.1)).map Value.ref).toArray 0) := Heap.get?_push_size _ rfl
  have kb : ∀ b o, s.heap.get? b = some o → (h'.push { cls := .type "list", data := .seq ((L.map (·.1)).map Value.ref).toArray }).get? b = some o := fun b o e => Heap.get?_push_of_some _ (hk b o e)
  have ne0 : ∀ b o, h'.get? b = some o → b ≠ h'.objs.size := fun b o e => Nat.ne_of_lt (Heap.lt_size e)
  generalize hh2 : h'.push { cls := .type "list", data := .seq ((L.map (·.1)).map Value.ref).toArray } = h2 at hob kb ⊢
  have ka : ∀ b o, h'.get? b = some o → h2.get? b = some o := fun b o e => by rw [← hh2]; exact Heap.get?_push_of_some _ e
  have e0 : ∀ (M : List (Addr × Str × Int)), (∀ z ∈ M, z ∈ L) → PySem.W.EachIs (fun v (z : Addr × Str × Int) => ∃ as, Reads h2 v (encI z) as ∧ h'.objs.size ∉ as) ((M.map (·.1)).map Value.ref) M := by
    intro M
    induction M with
    | nil => intro _; exact .nil
    | cons z M ih =>
      intro hM
      obtain ⟨t, t2, hz⟩ := hmem z (hM z (by simp))
      refine .cons ⟨[], ?_, by simp⟩ (ih fun y hy => hM y (List.mem_cons_of_mem _ hy))
      have : Reads h2 (.ref z.1) (.tuple [.str z.2.1, .int z.2.2]) ([] ++ ([] ++ [])) := .tuple (ka _ _ hz) rfl rfl (.cons (.str _ _) (.cons (.int _ _) .nil))
      exact this
  have e1 : ∀ (M : List (Addr × Str × Int)), PySem.W.EachIs (fun v (z : Addr × Str × Int) => v = Value.ref z.1) ((M.map (·.1)).map Value.ref) M := by
    intro M
    induction M with
    | nil => exact .nil
    | cons z M ih => exact .cons rfl ih
  have hsort : L.mergeSort (PySem.W.dataLe false encI) = L := by
    refine List.mergeSort_of_pairwise ?_
    have hr : List.Pairwise (fun (a b : Addr × Str × Int) => a.2.1.cps.toList < b.2.1.cps.toList) L := (List.pairwise_map (f := fun x : Addr × Str × Int => x.2)).mp hrise
    exact hr.imp fun h => encI_le h
  refine PySem.W.list_sort_data (s := { s with heap := h2, toks := tk }) (vs := (L.map (·.1)).map Value.ref) (bs := L) (enc := encI) (R := fun v z => v = Value.ref z.1) hob (e1 L) (e0 L fun _ h => h) (PySem.W.AllAlike.of fun b b' => ?_) (PySem.W.Sortable.tuples fun b => ⟨_, _, rfl⟩) ?_ (fun b _ => ?_) fun out ho eo => ?_
  · simp [encI, PySem.W.alike, PySem.W.alikeAll]
  · rw [List.length_map] at hlen; rw [sizeLine_eq]; omega
  · have : (encI b).depth ≤ 2 := by simp [encI, PyData.depth, PyData.depthAll]
    show X.A.units + 1 + 1 + _ < cLine
    omega
  · rw [hsort] at eo
    have hout : out = (L.map (·.1)).map Value.ref := by
      have : ∀ {o : List Value} {M : List (Addr × Str × Int)}, PySem.W.EachIs (fun v (z : Addr × Str × Int) => v = Value.ref z.1) o M → o = (M.map (·.1)).map Value.ref := by
        intro o M h
        induction h with
        | nil => rfl
        | cons h1 _ ih => rw [h1, ih]; rfl
      exact this eo
    show EP X pins σ Q (.ref h'.objs.size) { s with heap := sortedHeap h2 h'.objs.size ((L.map (·.1)).map Value.ref) out.toArray, toks := tk }
    have kF : ∀ b o, b ≠ h'.objs.size → h2.get? b = some o → (sortedHeap h2 h'.objs.size ((L.map (·.1)).map Value.ref) out.toArray).get? b = some o := fun b o hb e => (PyProof.Rows.sortedHeap_old hb (Heap.lt_size e)).trans e
    have kS : ∀ b o, s.heap.get? b = some o → (sortedHeap h2 h'.objs.size ((L.map (·.1)).map Value.ref) out.toArray).get? b = some o := fun b o e => kF b o (ne0 _ _ (hk b o e)) (kb b o e)
    obtain ⟨eF, heF⟩ := PyProof.Rows.sortedHeap_at (vs := (L.map (·.1)).map Value.ref) (out := out.toArray) hob
    generalize sortedHeap h2 h'.objs.size ((L.map (·.1)).map Value.ref) out.toArray = h3 at kF kS heF ⊢
    have I1 : Inv X pins σ H { s with heap := h3, toks := tk } := I.kept (t' := tk) kS
    have hn0 : H h'.objs.size = none := I.hok.fresh (Nat.le_of_lt hlt)
    have hlen2 : (L.map fun z => V.ref z.1).length ≤ sizeLine := by
      rw [List.length_map] at hlen
      rw [List.length_map, sizeLine_eq]; omega
    have rv : Vals (L.map fun z => V.ref z.1) out := by
      rw [hout, List.map_map]
      exact vals_maps (fun z : Addr × Str × Int => V.ref z.1) (fun z => Value.ref z.1) L fun _ _ => rfl
    have okL : ObjOk X.prog X.w (upd H h'.objs.size (.lst (L.map fun z => V.ref z.1))) h3 h'.objs.size (.lst (L.map fun z => V.ref z.1)) := ⟨hlen2, out, eF, rv, heF⟩
    have I2 : Inv X pins σ (upd H h'.objs.size (.lst (L.map fun z => V.ref z.1))) { s with heap := h3, toks := tk } :=
      I1.take (h' := h3) (t' := tk) (fun b ob _ e => e) (I.fpOk (Nat.le_of_lt hlt) hn0) okL
    have fr : ∀ z ∈ L, s.heap.objs.size ≤ z.1 ∧ H z.1 = none ∧ z.1 ≠ h'.objs.size := fun z hz => by
      have hbl : s.heap.objs.size ≤ z.1 := Nat.le_of_lt (hG.above z.1 (List.mem_map.mpr ⟨z, hz, rfl⟩))
      obtain ⟨t, t2, hg⟩ := hmem z hz
      exact ⟨hbl, I.hok.fresh hbl, ne0 _ _ hg⟩
    refine ⟨.ref h'.objs.size, _, takeP I L _ I2 nd fun z hz => ?_, rfl, q L h'.objs.size rfl nd (fun z hz => (fr z hz).2) hn0⟩
    obtain ⟨f1, f2, f3⟩ := fr z hz
    obtain ⟨t, t2, hg⟩ := hmem z hz
    refine ⟨f1, by rw [upd_ne f3]; exact f2, fun H3 => ?_⟩
    exact ⟨(by rw [sizeLine_eq]; show 2 ≤ 16777216; omega), [Value.str z.2.1 t, Value.int z.2.2 t2], .cons ⟨t, rfl⟩ (.cons ⟨t2, rfl⟩ .nil), ⟨_, kF _ _ f3 (ka _ _ hg), rfl, 0, rfl⟩⟩
theorem ptO_ok {P : Program} {w : World} {H : Hp} {h : Heap} {a : Addr} {vs : List V} {its : List Value} (hv : Vals vs its) (hl : its.length ≤ sizeLine) (e : h.get? a = some ({ cls := .type "tuple", data := .seq its.toArray } : Obj)) : ObjOk P w H h a (PtO a vs) :=
  ⟨⟨its, _, _, hv, hl, e⟩, ⟨_, e⟩, fun h1 h2 ⟨i, n, sl, x1, x2, x3⟩ k => ⟨i, n, sl, x1, x2, k _ x3⟩⟩
def rTupP : List V → Hp → VK → Prop := fun xs H Q => ∃ (p : Addr) (ys : List V), xs = [.ref p] ∧ H p = some (.lst ys) ∧ ∀ l, H l = none → Q (.ref l) (upd H l (PtO l ys))
theorem cr_tupP : CallR X (.type "tuple") rTupP := by
  intro pins s σ H xs us Q I r h
  obtain ⟨p, ys, rfl, hp, q⟩ := h
  obtain ⟨u, rfl, rx⟩ := vals1 r
  cases rx
  obtain ⟨its, r', pl, hz⟩ := I.list (SqL.of hp)
  have hlen := r'.length
  refine call_tuple_list pl.isList (fun h' kp => ?_) (by simp only [List.size_toArray] <;> omega)
  have I1 : Inv X pins σ H { s with heap := h' } := I.kept (t' := s.toks) kp
  have I2 : Inv X pins σ (upd H h'.objs.size (PtO h'.objs.size ys)) { s with heap := h'.push { cls := .type "tuple", data := .seq its.toArray } } :=
    I1.laid (t' := s.toks) (fun b o e => Heap.get?_push_of_some _ e) (Nat.le_refl _) (ptO_ok r' (by omega) (Heap.get?_push_size _ rfl))
  exact ⟨.ref h'.objs.size, _, I2, rfl, q _ (I1.hok.fresh (Nat.le_refl _))⟩
/-- dict(t), t such a tuple -/
def rCpyP (K : PySem.W.Frag) : List V → Hp → VK → Prop := fun xs H Q => ∃ (a : Addr) (ys : List V) (ps : List (Str × V)), xs = [.ref a] ∧ H a = some (PtO a ys) ∧ Paired (fun (y : V) (p : Str × V) => ∃ b, y = .ref b ∧ SqT K H b [.str p.1, p.2]) ys ps ∧
  ∀ p, H p = none → Q (.ref p) (upd H p (.dK (mergeK [] (ps.map fun q => (Sum.inr q.1, q.2)))))
theorem prs_of {pins : List (Addr × Obj)} {σ : L2.St} {H : Hp} {s : Shared} (I : Inv X pins σ H s) : ∀ {ys : List V} {ps : List (Str × V)}, Paired (fun (y : V) (p : Str × V) => ∃ b, y = .ref b ∧ SqT X.K H b [.str p.1, p.2]) ys ps →
    ∃ qs : List (Addr × Tok × Value), ys = qs.map (fun q => V.ref q.1) ∧ Paired (fun (p : Str × V) (q : Addr × Tok × Value) => s.heap.IsTuple q.1 #[.str p.1 q.2.1, q.2.2] ∧ RelV p.2 q.2.2) ps qs
  | _, _, .nil => ⟨[], rfl, .nil⟩
  | _, _, .cons (a := y) (b := p) h t => by
    obtain ⟨qs, e1, e2⟩ := prs_of I t
    obtain ⟨b, rfl, hs⟩ := h
    obtain ⟨its, rv, pl, _⟩ := I.tuple hs
    cases rv with
    | cons r1 r2 =>
      cases r2 with
      | cons r3 r4 =>
        cases r4
        obtain ⟨t, rfl⟩ := (show ∃ t, _ = Value.str p.1 t from r1)
        exact ⟨(b, t, _) :: qs, by rw [e1]; rfl, .cons ⟨pl, r3⟩ e2⟩
theorem kv_prs : ∀ {ps : List (Str × V)} {qs : List (Addr × Tok × Value)} {h : Heap}, Paired (fun (p : Str × V) (q : Addr × Tok × Value) => h.IsTuple q.1 #[.str p.1 q.2.1, q.2.2] ∧ RelV p.2 q.2.2) ps qs →
    ∃ kvs : List (Key × Value), KV (ps.map fun q => ((Sum.inr q.1 : Key), q.2)) kvs ∧ kvs.length = qs.length ∧ ∀ (j : Nat) (q : Addr × Tok × Value), qs[j]? = some q → ∃ x, kvs[j]? = some (Sum.inr x, q.2.2) ∧ h.IsTuple q.1 #[.str x q.2.1, q.2.2]
  | _, _, _, .nil => ⟨[], .nil, rfl, fun j q h => by simp at h⟩
  | _, _, _, .cons (a := p) (b := q) h t => by
    obtain ⟨kvs, e1, e2, e3⟩ := kv_prs t
    refine ⟨(Sum.inr p.1, q.2.2) :: kvs, .cons ⟨rfl, h.2⟩ e1, by rw [List.length_cons, List.length_cons, e2], fun j q' hj => ?_⟩
    cases j with
    | zero =>
      simp only [List.getElem?_cons_zero, Option.some.injEq] at hj
      subst hj
      exact ⟨p.1, rfl, h.1⟩
    | succ j => exact e3 j q' (by simpa using hj)
theorem cr_cpyP (hc : X.calm = true) : CallR X (.type "dict") (rCpyP X.K) := by
  intro pins s σ H xs us Q I r h
  obtain ⟨a, ys, ps, rfl, ha, hps, q⟩ := h
  obtain ⟨u, rfl, rx⟩ := vals1 r
  cases rx
  have hh : X.A.handled = none := I.ok.hd hc
  obtain ⟨⟨its, n, sl, hv, hl, hg⟩, _, _⟩ := (show ObjOk X.prog X.w H s.heap a (PtO a ys) from I.hok a _ ha)
  obtain ⟨qs, e1, e2⟩ := prs_of I hps
  obtain ⟨kvs, k1, k2, k3⟩ := kv_prs e2
  have lq : ys.length = qs.length := by rw [e1, List.length_map]
  have lv := hv.length
  have lp : ps.length = qs.length := Paired.length e2
  have hits : ∀ (j : Nat) (q : Addr × Tok × Value), qs[j]? = some q → its[j]? = some (.ref q.1) := fun j q hj => by
    obtain ⟨u, hu, ru⟩ := hv.get (i := j) (x := .ref q.1) (by rw [e1, List.getElem?_map, hj]; rfl)
    cases ru
    exact hu
  generalize hT : (fun j : Nat => ((qs[j]?).map (fun q : Addr × Tok × Value => q.1)).getD 0) = Ts
  have hTs : ∀ (j : Nat) (q : Addr × Tok × Value), qs[j]? = some q → Ts j = q.1 := fun j q hj => by rw [← hT]; simp [hj]
  generalize hV : kvs.zipWith (fun (k : Key × Value) (q : Addr × Tok × Value) => ((match k.1 with | .inr x => Value.str x q.2.1 | .inl i => Value.int i q.2.1), q.2.2)) qs = vps
  have lV : vps.length = qs.length := by rw [← hV, List.length_zipWith]; omega
  have hVj : ∀ (j : Nat) (p : Value × Value), vps[j]? = some p → ∃ q x, qs[j]? = some q ∧ kvs[j]? = some (Sum.inr x, q.2.2) ∧ p = (.str x q.2.1, q.2.2) ∧ s.heap.IsTuple q.1 #[.str x q.2.1, q.2.2] := fun j p hj => by
    have hjl : j < qs.length := by rw [← lV]; exact (List.getElem?_eq_some_iff.mp hj).1
    obtain ⟨x, x1, x2⟩ := k3 j qs[j] (List.getElem?_eq_getElem hjl)
    refine ⟨qs[j], x, List.getElem?_eq_getElem hjl, x1, ?_, x2⟩
    rw [← hV, List.getElem?_zipWith, x1, List.getElem?_eq_getElem hjl] at hj
    exact (Option.some.inj hj).symm
  have P := PySem.PairArg.tuple (prog := X.prog) (w := X.w) a its.toArray Ts vps
  refine PySem.call_dict_pairs (knd := mixKind X.prog X.w) (kvs := kvs) P hh ⟨⟨_, n, hg, rfl, rfl, rfl⟩, ?_, fun j k v hj => ?_⟩ ⟨?_, fun i key v hr => ?_⟩ ?_ fun h' tk hd hk => ?_
  · simp only [List.size_toArray]; omega
  · obtain ⟨q', x, y1, y2, y3, y4⟩ := hVj j _ hj
    cases y3
    rw [hTs j _ y1]
    exact ⟨by simpa using hits j _ y1, .inl y4⟩
  · omega
  · obtain ⟨q', x, y1, y2, y3, y4⟩ := hVj i _ hr
    cases y3
    exact ⟨_, y2, mixKind_str _ _ _ _⟩
  · omega
  · have hm : (s.heap.objs.size == sysModules) = false := beq_eq_false_iff_ne.mpr (Nat.ne_of_gt I.big)
    have hlen : (mergeK [] (ps.map fun q => ((Sum.inr q.1 : Key), q.2))).length ≤ sizeLine := by
      refine Nat.le_trans (length_mergeK _ []) ?_
      rw [List.length_nil, Nat.zero_add, List.length_map]
      omega
    exact ⟨.ref s.heap.objs.size, _, I.laid (t' := tk) (fun b' o e => hk b' o (by simp) e) (Nat.le_refl _) (show ObjOk X.prog X.w _ _ _ (.dK _) from ⟨hlen, hm, merged [] kvs, KV.merge k1 .nil, hd⟩), rfl, q _ (I.hok.fresh (Nat.le_refl _))⟩
end
end Tw
set_option Elab.async false
set_option linter.all false
set_option maxRecDepth 100000
set_option maxHeartbeats 4000000
/-! C7h: tuple(sorted(d.items())), and a dict of such a tuple, in the plain words. -/
namespace Tw
open PySem L2 PySem.Spec
variable {X : Cx} {CA : CAT} {a : Expr} {ma : Mv} {pos : Pos}
/-- an address of nobody -/
theorem R.nxExtra {K : PySem.W.Frag} {F H : Hp} {φ : List FP} {st : Sto} (r : R K CA F φ st H) {p : Addr} (h : H p = none) (o : HO) : Nx K CA F φ H F φ st (upd H p o) :=
  ⟨Le.rfl, Gr.rfl, fun b u h1 h2 h3 => ⟨by rw [upd_ne (ne_of_none h1 h)]; exact h1, h2, h3⟩, r.extra (r.fresh h).2 (r.fresh h).1⟩
theorem rises_pw : ∀ {q : List (Str × Int)}, rises (q.map (·.1)) = true → riseL q
  | [], _ => .nil
  | [_], _ => .cons (fun _ h => by cases h) .nil
  | x :: y :: r, h => by
    rw [List.map_cons, List.map_cons, rises, Bool.and_eq_true, decide_eq_true_eq] at h
    have ih := rises_pw (q := y :: r) h.2
    refine List.Pairwise.cons (fun z hz => ?_) ih
    rcases List.mem_cons.mp hz with e | hz
    · rw [e]; exact h.1
    · exact List.lt_trans h.1 (List.rel_of_pairwise_cons ih hz)
/-- the pairs, laid -/
theorem laid_ok {K : PySem.W.Frag} {φ : List FP} {st : Sto} : ∀ (L : List (Addr × Str × Int)) {F H : Hp}, R K CA F φ st H → (L.map (·.1)).Nodup → (∀ z ∈ L, H z.1 = none) →
    ∃ F', Nx K CA F φ H F' φ st (laidP H L) ∧ RpA K F' (L.map fun z => V.ref z.1) (L.map fun z => .tuple [.str z.2.1, .int z.2.2])
  | [], F, H, r, _, _ => ⟨F, r.nx, .nil⟩
  | z :: L, F, H, r, nd, h => by
    rw [List.map_cons, List.nodup_cons] at nd
    have n1 := r.nxData (h z (by simp)) (pairO z.2)
    obtain ⟨F', n2, ih⟩ := laid_ok L n1.r nd.2 fun y hy => by
      rw [upd_ne (fun e => nd.1 (by rw [← e]; exact List.mem_map.mpr ⟨y, hy, rfl⟩))]
      exact h y (List.mem_cons_of_mem _ hy)
    refine ⟨F', n1.trans n2, .cons (Rp.le n2.le (.tup (xs := [.str z.2.1, .int z.2.2]) (SqT.of upd_same) (by show 2 ≤ sizeL; unfold sizeL; omega) (.cons (.str _) (.cons (.int _) .nil)))) ih⟩
theorem laidP_none : ∀ (L : List (Addr × Str × Int)) {H : Hp} {p : Addr}, laidP H L p = none → H p = none ∧ ∀ z ∈ L, z.1 ≠ p
  | [], _, _, h => ⟨h, fun _ hz => by cases hz⟩
  | z :: L, H, p, h => by
    obtain ⟨h1, h2⟩ := laidP_none L h
    by_cases e : p = z.1
    · rw [e, upd_same] at h1; cases h1
    · rw [upd_ne e] at h1
      refine ⟨h1, fun y hy => ?_⟩
      rcases List.mem_cons.mp hy with rfl | hy
      · exact fun e' => e e'.symm
      · exact h2 y hy
theorem laidP_get : ∀ (L : List (Addr × Str × Int)) {H : Hp} {p : Addr} {o : HO}, H p = some o → (∀ z ∈ L, z.1 ≠ p) → laidP H L p = some o
  | [], _, _, _, h, _ => h
  | z :: L, H, p, o, h, hz => laidP_get L (by rw [upd_ne (fun e => hz z (by simp) e.symm)]; exact h) fun y hy => hz y (List.mem_cons_of_mem _ hy)
/-- a dict of whole numbers -/
theorem rpk_ints {K : PySem.W.Frag} {F : Hp} : ∀ {q : List (Str × PyData)} {ks : List (Key × V)}, RpK K F ks (q.map fun p => (.str p.1, p.2)) → q.all (fun p => isIntD p.2) = true →
    ∃ ps : List (Str × Int), ks = ps.map entK ∧ q = ps.map fun p => (p.1, .int p.2)
  | [], _, h, _ => by cases h; exact ⟨[], rfl, rfl⟩
  | (k, d) :: q, _, h, hq => by
    cases h with
    | cons h r =>
      rw [List.all_cons, Bool.and_eq_true] at hq
      obtain ⟨ps, e3, e4⟩ := rpk_ints r hq.2
      cases d <;> try (exact absurd hq.1 Bool.false_ne_true)
      rename_i i
      cases h
      exact ⟨(k, i) :: ps, by rw [e3]; rfl, by rw [e4]; rfl⟩
theorem pvPtsi {m : Mv} {p1 p2 apos q1 q2 : Pos} (hm : ∀ ρ st, m ρ st = (ma ρ st).bind fun p => ptsiS p.1 p.2) (hc : X.calm = true) (hu : X.A.units + 64 < cLine) (g1 : Gl X "tuple") (n1 : X.mg "tuple" = none) (g2 : Gl X "sorted") (n2 : X.mg "sorted" = none)
    (ha : PE X a (TV X.K CA ma)) (hbase : attributeBase a "items" X.env (eval a X.env) = eval a X.env) (hline : (apos.endLine == q1.line) = true) :
    PE X (.Call (.Name "tuple" p1) [.Call (.Name "sorted" p2) [.Call (.Attribute a "items" apos) [] [] q1] [] q2] [] pos) (TV X.K CA m) := by
  have h1 := pe_bm0 (cpos := q1) (apos := apos) PySem.F.plainAttrs_dict PySem.F.slot_dict_items PySem.F.type_dict_items mt_itemsK ha hbase hline
  have h2 := pe_callB (p := p2) (pos := q2) (cr_sortK hc hu) g2 n2 PyProof.Rows.boot_sorted (pa_cons h1 pa_nil (starOne rfl _)) (by decide) (by decide) (starOne rfl _) (by rfl)
  refine peWeak (pe_callTy cr_tupP g1 n1 PyProof.Rows.boot_tuple (pa_cons h2 pa_nil (starOne rfl _)) (by decide) (by decide) (starOne rfl _) (by rfl)) fun σ H Q h => ?_
  refine tvOne hm h fun F φ st H u v z st' r rv e q => ?_
  unfold ptsiS at e
  cases v with
  | d _ => cases e
  | f _ _ => cases e
  | s _ => cases e
  | r n =>
    obtain ⟨p, hp, rfl⟩ := rv
    obtain ⟨mo, hmo, om⟩ := r.at hp
    dsimp only at e
    rw [hmo] at e
    cases mo with
    | lst _ => cases e
    | ins _ _ => cases e
    | dead => cases e
    | tab _ => cases e
    | ptup _ => cases e
    | clo _ _ => cases e
    | dct kvs =>
      dsimp only at e
      split at e
      · rename_i hcond
        cases e
        rw [Bool.and_eq_true, Bool.and_eq_true, decide_eq_true_eq] at hcond
        obtain ⟨⟨c1, c2⟩, c3⟩ := hcond
        obtain ⟨ks, hd, hk, _⟩ := om
        obtain ⟨ps, rfl, rfl⟩ := rpk_ints hk c2
        have hri : riseL ps := rises_pw (by rw [List.map_map] at c1; exact c1)
        rw [List.length_map] at c3
        refine ⟨.inr (.inr (.inl ⟨rfl, .inl ⟨_, hd⟩⟩)), p.1, _, rfl, rfl, .inl hd, fun v hv => ?_⟩
        have nv : p.1 ≠ v := ne_of_none hd hv
        refine ⟨v, p.1, ps, rfl, upd_same, .inl (by rw [upd_ne nv]; exact hd), c3, hri, fun L l eL nd hL hl => ?_⟩
        subst eL
        have n1 := r.nxExtra hv (L2.DX.itemsO v p.1)
        have n2 := n1.r.nxExtra hl (.lst (L.map fun z => V.ref z.1))
        obtain ⟨F', n3, hr⟩ := laid_ok L n2.r nd fun z hz => by rw [upd_ne (hL z hz).2]; exact (hL z hz).1
        refine ⟨l, _, rfl, laidP_get L upd_same fun z hz => (hL z hz).2, fun t ht => ?_⟩
        have hr' : RpA X.K F' (L.map fun z => V.ref z.1) ((L.map (·.2)).map (fun p => (p.1, PyData.int p.2)) |>.map fun p => .tuple [.str p.1, p.2]) := by
          rw [List.map_map, List.map_map]; exact hr
        refine q _ _ _ _ ((n1.trans (n2.trans n3)).trans (n3.r.nxEntry (m := .ptup _) ht ⟨rfl, _, upd_same, hr'⟩)) ⟨(t, []), ?_, rfl⟩
        rw [r.len, List.getElem?_append_right (Nat.le_refl _)]; simp
      · cases e
theorem prs_rp {K : PySem.W.Frag} {F H : Hp} (l : Le F H) : ∀ {xs : List PyData} {vs : List V} {q : List (Str × PyData)}, RpA K F vs xs → prsOf xs = some q →
    ∃ ps : List (Str × V), Paired (fun (y : V) (p : Str × V) => ∃ b, y = .ref b ∧ SqT K H b [.str p.1, p.2]) vs ps ∧ RpK K F (ps.map fun p => (Sum.inr p.1, p.2)) (q.map fun p => (.str p.1, p.2))
  | [], _, _, .nil, e => by cases e; exact ⟨[], .nil, .nil⟩
  | x :: xs, _, q, .cons h r, e => by
    have key : ∃ k y, x = .tuple [.str k, y] ∧ (prsOf xs).map ((k, y) :: ·) = some q := by
      unfold prsOf at e
      split at e
      · rename_i heq; cases heq
      · rename_i heq; cases heq; exact ⟨_, _, rfl, e⟩
      · cases e
    obtain ⟨k, y, rfl, e2⟩ := key
    obtain ⟨q', e3, rfl⟩ := Option.map_eq_some_iff.mp e2
    obtain ⟨ps, h1, h2⟩ := prs_rp l r e3
    cases h with
    | tup s1 z1 h3 =>
      cases h3 with
      | cons h4 h5 =>
        cases h4
        cases h5 with
        | cons h6 h7 =>
          cases h7
          exact ⟨(k, _) :: ps, .cons ⟨_, rfl, SqT.le l s1⟩ h1, .cons h6 h2⟩
theorem pvNdcp {m : Mv} {p1 : Pos} (hm : ∀ ρ st, m ρ st = (ma ρ st).bind fun p => ndcpS (some (some p.1)) p.2) (hc : X.calm = true) (g1 : Gl X "dict") (n1 : X.mg "dict" = none) (ha : PE X a (TV X.K CA ma)) (hs : notStar a = true) :
    PE X (.Call (.Name "dict" p1) [a] [] pos) (TV X.K CA m) := by
  refine peWeak (pe_callTy (cr_cpyP hc) g1 n1 PyProof.Rows.boot_dict (pa_cons ha pa_nil (starOne hs _)) (by decide) (by decide) (starOne hs _) (by rfl)) fun σ H Q h => ?_
  refine tvOne (k := fun v st => ndcpS (some (some v)) st) hm h fun F φ st H u v z st' r rv e q => ?_
  unfold ndcpS at e
  cases v with
  | d _ => cases e
  | f _ _ => cases e
  | s _ => cases e
  | r n =>
    obtain ⟨p, hp, rfl⟩ := rv
    obtain ⟨mo, hmo, om⟩ := r.at hp
    dsimp only at e
    rw [hmo] at e
    cases mo with
    | lst _ => cases e
    | ins _ _ => cases e
    | dead => cases e
    | tab _ => cases e
    | dct _ => cases e
    | clo _ _ => cases e
    | ptup xs =>
      obtain ⟨qq, e1, e2⟩ := Option.map_eq_some_iff.mp e
      cases e2
      obtain ⟨_, vs, hH, hv⟩ := om
      obtain ⟨ps, h1, h2⟩ := prs_rp r.sub hv e1
      refine ⟨p.1, vs, ps, rfl, hH, h1, fun t ht => ?_⟩
      refine q _ _ _ _ (r.nxEntry (m := .dct (mergeD [] qq)) ht ⟨_, upd_same, RpK.merge h2 .nil, rfl⟩) ⟨(t, []), ?_, rfl⟩
      rw [r.len, List.getElem?_append_right (Nat.le_refl _)]; simp
end Tw
set_option Elab.async false
set_option linter.all false
set_option maxRecDepth 100000
set_option maxHeartbeats 4000000
/-! C8: the text is the program's own; what holds of every expression. -/
namespace Tw
open PySem L2 LamX NdefX

/-- a class: its __init__, methods, fields -/
structure Cl where
  nm : Str
  ini : Nat
  ms : List (Str × Nat)
  fs : List Str
structure SI where
  P : List Fn
  blts : List Str
  consts : List (Str × PyData)
  cls : List Cl := []
  /-- the table and the made function of the def at hand -/
  me : Option (Nat × Nat) := none
def SI.wm (G : SI) (m : Option (Nat × Nat)) : SI := { G with me := m }
def plainArgs : Arguments → Bool
  | ⟨[], as, none, [], [], none, []⟩ => as.all fun a => a.annotation.isNone
  | _ => false
/-- the captured names of a made function -/
def capN (G : SI) (k : Nat) : List Str := match G.P[k]? with
  | some d => match d.cap with
    | some m => d.ps.drop (d.ps.length - m)
    | none => []
  | none => []
/-- the function that is made in a statement -/
def lamIn : Stmt → Option (Str × Arguments × FuncBody × Scope)
  | .Return (some (.Call _ pes [] _)) _ => match pes.getLast? with
    | some (.Lambda params body scope _) => some ("<lambda>", params, .expr body, scope)
    | _ => none
  | .FunctionDef name params body [] none [] scope none _ _ => some (name, params, .stmts body, scope)
  | _ => none
def callOk (G : SI) (f : Nat) (x : Str) : Bool := match G.P[f]? with
  | some d => decide (d.nm = x) && d.cls.isNone && decide (f < 1000)
  | none => false
def hasFld (G : SI) (c : Nat) (a : Str) : Bool := match G.cls[c]? with
  | some k => k.fs.any fun x => decide (x = a)
  | none => false
def hasMt (G : SI) (c : Nat) (m : Str) (f : Nat) : Bool := match G.cls[c]? with
  | some k => k.ms.any fun q => decide (q.1 = m) && q.2 == f
  | none => false
def hasMk (G : SI) (c : Nat) (x : Str) (f : Nat) : Bool := match G.cls[c]? with
  | some k => decide (k.nm = x) && k.ini == f
  | none => false
def visB (sc : Scope) (x : Str) : Bool := match sc.names.lookup x with
  | some .local => true
  | some .cell => true
  | some .free => true
  | _ => false
def glB (sc : Scope) (x : Str) : Bool := match sc.names.lookup x with
  | some .globalImplicit => true
  | _ => false
def locB (sc : Scope) (x : Str) : Bool := match sc.names.lookup x with
  | some .local => true
  | some .cell => true
  | _ => false
def isLoc (sc : Scope) (x : Str) : Bool := match sc.names.lookup x with
  | some .local => true
  | _ => false
def isCel (sc : Scope) (x : Str) : Bool := match sc.names.lookup x with
  | some .cell => true
  | _ => false
def noDbg (x : Str) : Bool := !(x == ("__debug__" : Str)) && !(x == ("__classdict__" : Str)) && !(decide (x = ("__name__" : Str)))
def cstOk (k : Const) (d : PyData) : Bool := match k, d with
  | .none, .none => true
  | .bool b, .bool b' => b == b'
  | .int i, .int i' => i == i'
  | .str z, .str z' => decide (z = z')
  | _, _ => false
mutual
def eqC : PyData → PyData → Bool
  | .none, .none => true
  | .bool a, .bool b => a == b
  | .int a, .int b => decide (a = b)
  | .str a, .str b => decide (a = b)
  | .tuple xs, .tuple ys => eqCs xs ys
  | _, _ => false
def eqCs : List PyData → List PyData → Bool
  | [], [] => true
  | x :: xs, y :: ys => eqC x y && eqCs xs ys
  | _, _ => false
end
mutual
theorem eqC_eq : ∀ (x y : PyData), eqC x y = true → x = y
  | .none, y, h => by cases y <;> simp [eqC] at h <;> rfl
  | .bool a, y, h => by cases y <;> simp [eqC] at h; rw [h]
  | .int a, y, h => by cases y <;> simp [eqC] at h; rw [h]
  | .str a, y, h => by cases y <;> simp [eqC] at h; rw [h]
  | .list a, y, h => by cases y <;> simp [eqC] at h
  | .dict a, y, h => by cases y <;> simp [eqC] at h
  | .tuple a, y, h => by
    cases y <;> simp [eqC] at h
    rw [eqCs_eq a _ h]
theorem eqCs_eq : ∀ (xs ys : List PyData), eqCs xs ys = true → xs = ys
  | [], ys, h => by cases ys <;> simp [eqCs] at h; rfl
  | x :: xs, ys, h => by
    cases ys <;> simp [eqCs] at h
    rw [eqC_eq x _ h.1, eqCs_eq xs _ h.2]
end
def bopOk (o : Bop) (p : Operator) : Bool := match o, p with
  | .add, .Add => true
  | .sub, .Sub => true
  | .mul, .Mult => true
  | .fdiv, .FloorDiv => true
  | .mod, .Mod => true
  | _, _ => false
def copOk (o : Cop) (p : CmpOp) : Bool := match o, p with
  | .eq, .Eq => true
  | .ne, .NotEq => true
  | .lt, .Lt => true
  | .le, .LtE => true
  | .gt, .Gt => true
  | .ge, .GtE => true
  | .inn, .In => true
  | .nin, .NotIn => true
  | _, _ => false
def ltLe : Cop → Bool
  | .lt => true
  | .le => true
  | _ => false
/-- no set, no star, no slice by itself, no set or dict comprehension -/
def okX : Expr → Bool
  | .Starred _ _ => false
  | .Slice _ _ _ _ => false
  | .Set _ _ _ => false
  | .SetComp _ _ _ _ => false
  | .DictComp _ _ _ _ _ => false
  | _ => true
def noLc : Expr → Bool
  | .ListComp _ _ _ _ => false
  | e => okX e
/-- a receiver whose value is asked plainly -/
def abOk : Expr → Bool
  | .Name _ _ => true
  | .Attribute _ _ _ => true
  | .Constant _ _ _ => true
  | .Subscript _ _ _ => true
  | _ => false
def abOk2 : Expr → Bool
  | .Call (.Name _ _) (_ :: _) _ _ => true
  | e => abOk e
def f1Nm : F1 → String
  | .len => "len" | .sum => "sum" | .any => "any" | .all => "all" | .srt => "sorted" | .int => "int" | .str => "str" | .lst => "list" | .tup => "tuple" | .lenset => "" | .srtset => "" | .srtitems => "" | .dctd => "" | .dctz => ""
def f2Nm : F1 → String
  | .lenset => "len" | .srtset => "sorted" | _ => ""
def m1Nm : M1 → String
  | .app => "append" | .ext => "extend" | .join => "join" | .upd => "update" | .starts => "startswith" | _ => ""
def isIdx : M1 → Bool
  | .index => true
  | _ => false
def isGlb (y : Str) : E → Bool
  | .glb x _ => decide (x = y)
  | _ => false
def mNs (N : List Str) (sc : Scope) : List Nat → List Expr → Bool
  | [], [] => true
  | i :: is, .Name x _ :: es => decide (N[i]? = some x) && locB sc x && mNs N sc is es
  | _, _ => false
def mTg (N : List Str) (sc : Scope) (tg : Tg) (pt : Expr) : Bool := match tg, pt with
  | .nm i, .Name x _ => decide (N[i]? = some x) && locB sc x
  | .tp is, .Tuple es _ _ => mNs N sc is es
  | _, _ => false
def tgNames (N : List Str) (tg : Tg) : List (Str × Nat) := (tgIs tg).filterMap fun i => (N[i]?).map fun x => (x, i)
section
variable (G : SI) (N : List Str)
mutual
def mE (sc : Scope) : E → Expr → Bool
  | .var i, pe => match pe with
    | .Name x _ => decide (N[i]? = some x) && visB sc x && noDbg x
    | _ => false
  | .cst c, pe => match pe with
    | .Constant k _ _ => cstOk k c
    | _ => false
  | .glb x c, pe => match pe with
    | .Name y _ => decide (x = y) && glB sc x && noDbg x && (G.consts.any fun p => decide (p.1 = x) && eqC p.2 c)
    | _ => false
  | .tup es, pe => match pe with
    | .Tuple pes _ _ => mEs sc es pes
    | _ => false
  | .lst es, pe => match pe with
    | .List pes _ => mEs sc es pes
    | _ => false
  | .nlst es, pe => match pe with
    | .List pes _ => mEs sc es pes
    | _ => false
  | .nadd a b, pe => match pe with
    | .BinOp pa .Add pb _ => mE sc a pa && mE sc b pb
    | _ => false
  | .bin o a b, pe => match pe with
    | .BinOp pa po pb _ => bopOk o po && mE sc a pa && mE sc b pb
    | _ => false
  | .neg a, pe => match pe with
    | .UnaryOp .USub pa _ => mE sc a pa
    | _ => false
  | .cmp o a b, pe => match pe with
    | .Compare pa [po] [pb] _ => copOk o po && okX pb && mE sc a pa && mE sc b pb
    | _ => false
  | .chn o p a b c, pe => match pe with
    | .Compare pa [po, pp] [pb, pc] _ => ltLe o && ltLe p && copOk o po && copOk p pp && okX pc && mE sc a pa && mE sc b pb && mE sc c pc
    | _ => false
  | .isn p a, pe => match pe with
    | .Compare pa [.Is] [.Constant .none _ _] _ => p && mE sc a pa
    | .Compare pa [.IsNot] [.Constant .none _ _] _ => !p && mE sc a pa
    | _ => false
  | .ix a b, pe => match pe with
    | .Subscript pa pb _ => okX pb && mE sc a pa && mE sc b pb
    | _ => false
  | .sl a lo hi, pe => match pe with
    | .Subscript pa (.Slice plo phi none _) _ => mE sc a pa && mO sc lo plo && mO sc hi phi
    | _ => false
  | .isi t a, pe => match pe with
    | .Call (.Name x _) [pa, .Name y _] [] _ => decide (x = Str.ofString "isinstance") && decide (y = Str.ofString t) && isiT t && glB sc x && glB sc y && G.blts.contains x && G.blts.contains y && okX pa && mE sc a pa
    | _ => false
  | .fn1 f a, pe => (match pe with
    | .Call (.Name x _) [pa] [] _ => decide (x = Str.ofString (f1Nm f)) && !(f1Nm f == "") && glB sc x && G.blts.contains x && okX pa && mE sc a pa
    | _ => false) || (match pe with
    | .Call (.Name x _) [.Call (.Name y _) [pa] [] _] [] _ => decide (x = Str.ofString (f2Nm f)) && !(f2Nm f == "") && decide (y = Str.ofString "set") && glB sc x && G.blts.contains x && glB sc y && G.blts.contains y && okX pa && mE sc a pa
    | _ => false)
  | .band a es, pe => match pe with
    | .BoolOp .And (pa :: pes) _ => mE sc a pa && mEn sc es pes
    | _ => false
  | .bor a es, pe => match pe with
    | .BoolOp .Or (pa :: pes) _ => mE sc a pa && mEn sc es pes
    | _ => false
  | .nt a, pe => match pe with
    | .UnaryOp .Not pa _ => mE sc a pa
    | _ => false
  | .call f es, pe => match pe with
    | .Call (.Name x _) (pa :: pes) [] _ => (match G.P[f]? with | some d => decide (d.nm = x) && d.cls.isNone && decide (f < 1000) | none => false) && glB sc x && noDbg x && mEs sc es (pa :: pes)
    | _ => false
  | .calln f es, pe => match pe with
    | .Call (.Name x _) (pa :: pes) [] _ => (match G.P[f]? with | some d => decide (d.nm = x) && d.cls.isNone && decide (f < 1000) | none => false) && glB sc x && noDbg x && mEs sc es (pa :: pes)
    | _ => false
  | .ptsi a, pe => match pe with
    | .Call (.Name x _) [.Call (.Name y _) [.Call (.Attribute pa z ap) [] [] q] [] _] [] _ => decide (x = Str.ofString "tuple") && decide (y = Str.ofString "sorted") && decide (z = Str.ofString "items") && glB sc x && G.blts.contains x && glB sc y && G.blts.contains y && abOk pa && (ap.endLine == q.line) && mE sc a pa
    | _ => false
  | .ndcp i, pe => match pe with
    | .Call (.Name x _) [.Name y _] [] _ => decide (x = Str.ofString "dict") && glB sc x && G.blts.contains x && decide (N[i]? = some y) && visB sc y && noDbg y
    | _ => false
  | .callv i es, pe => match pe with
    | .Call (.Name x _) (pa :: pes) [] _ => decide (N[i]? = some x) && visB sc x && noDbg x && mEs sc es (pa :: pes)
    | _ => false
  | .mt1 m o a, pe => (match pe with
    | .Call (.Attribute po x ap) [pa] [] p => decide (x = Str.ofString (m1Nm m)) && !(m1Nm m == "") && abOk po && okX pa && (ap.endLine == p.line) && mE sc o po && mE sc a pa
    | _ => false) || (match pe with
    | .Call (.Attribute (.Name y yp) x ap) [pa] [] p => decide (x = Str.ofString "index") && isIdx m && isGlb y o && abOk (.Name y yp) && okX pa && (ap.endLine == p.line) && mE sc o (.Name y yp) && mE sc a pa
    | _ => false)
  | .mt0 m o, pe => match pe with
    | .Call (.Attribute po x ap) [] [] p => decide (x = Str.ofString "pop") && abOk po && (ap.endLine == p.line) && mE sc o po
    | _ => false
  | .get o k v, pe => match pe with
    | .Call (.Attribute po x ap) [pk, pv] [] p => decide (x = Str.ofString "get") && abOk po && okX pk && okX pv && (ap.endLine == p.line) && mE sc o po && mE sc k pk && mE sc v pv
    | _ => false
  | .comp elt tg it cond, pe => match pe with
    | .ListComp pelt [⟨ptg, pit, pifs, 0⟩] scope _ => (mI sc ptg it pit || mK sc it pit) && blkC N sc scope (tgNames N tg) && decide ((tgNames N tg).map (·.2) = tgIs tg) && mTg N scope tg ptg && mE (relS scope sc) elt pelt && mC (relS scope sc) cond pifs
    | _ => false
  | .ndct es, pe => match pe with
    | .Dict pks pvs _ => decide (pks.length ≤ 15) && mD sc es pks pvs
    | _ => false
  | .ndc1 a, pe => match pe with
    | .Call (.Name x _) [pa] [] _ => decide (x = Str.ofString "dict") && glB sc x && G.blts.contains x && okX pa && mE sc a pa
    | _ => false
  | .ndcz a b, pe => match pe with
    | .Call (.Name x _) [.Call (.Name y _) [.Call (.Name z _) [pa, pb] [] _] [] _] [] _ => decide (x = Str.ofString "dict") && decide (y = Str.ofString "list") && decide (z = Str.ofString "zip") && glB sc x && glB sc y && glB sc z && G.blts.contains x && G.blts.contains y && G.blts.contains z && okX pa && okX pb && mE sc a pa && mE sc b pb
    | _ => false
  | .rev a, pe => match pe with
    | .Subscript pa (.Slice none none (some (.UnaryOp .USub (.Constant (.int 1) _ _) _)) _) _ => mE sc a pa
    | _ => false
  | .meth o c m f es, pe => match pe with
    | .Call (.Attribute po x ap) pes [] p => decide (x = m) && hasMt G c m f && abOk2 po && (ap.endLine == p.line) && decide (pes.length < 30) && mE sc o po && mEs sc es pes
    | _ => false
  | .make c f es, pe => match pe with
    | .Call (.Name x _) (pa :: pes) [] _ => hasMk G c x f && glB sc x && noDbg x && mEs sc es (pa :: pes)
    | _ => false
  | .fld c o a, pe => match pe with
    | .Attribute po x _ => decide (x = a) && hasFld G c a && abOk po && mE sc o po
    | _ => false
def mEs (sc : Scope) : Es → List Expr → Bool
  | .nil, pes => match pes with
    | [] => true
    | _ => false
  | .cons e es, pes => match pes with
    | pe :: pes => okX pe && mE sc e pe && mEs sc es pes
    | _ => false
/-- a display's pairs -/
def mD (sc : Scope) : Es → List (Option Expr) → List Expr → Bool
  | .nil, pks, pvs => match pks, pvs with
    | [], [] => true
    | _, _ => false
  | .cons _ .nil, _, _ => false
  | .cons k (.cons v r), pks, pvs => match pks, pvs with
    | some pk :: pks, pv :: pvs => mE sc k pk && mE sc v pv && mD sc r pks pvs
    | _, _ => false
/-- the keys that are walked -/
def mK (sc : Scope) : Iv → Expr → Bool
  | .keys e, pe => okX pe && mE sc e pe
  | .seq _, _ => false
  | .rng _ _ _, _ => false
  | .enm _, _ => false
  | .zip _ _, _ => false
/-- the rest of an and, an or: not empty -/
def mEn (sc : Scope) : Es → List Expr → Bool
  | .nil, _ => false
  | .cons e es, pes => match pes with
    | [pe] => (match es with | .nil => true | _ => false) && mE sc e pe
    | pe :: pe2 :: pes => mE sc e pe && mEn sc es (pe2 :: pes)
    | _ => false
def mO (sc : Scope) : Oe → Option Expr → Bool
  | .none, pe => match pe with
    | none => true
    | _ => false
  | .some e, pe => match pe with
    | some pe => mE sc e pe
    | _ => false
def mC (sc : Scope) : Oe → List Expr → Bool
  | .none, pe => match pe with
    | [] => true
    | _ => false
  | .some e, pe => match pe with
    | [pe] => mE sc e pe
    | _ => false
def mI (sc : Scope) (ptg : Expr) : Iv → Expr → Bool
  | .seq e, pe => okX pe && mE sc e pe
  | .keys _, _ => false
  | .rng .none .none e, pe => match pe with
    | .Call (.Name x _) [pa] [] _ => decide (x = Str.ofString "range") && glB sc x && G.blts.contains x && okX pa && mE sc e pa
    | _ => false
  | .rng (.some a) .none e, pe => match pe with
    | .Call (.Name x _) [pa, pb] [] _ => decide (x = Str.ofString "range") && glB sc x && G.blts.contains x && okX pa && okX pb && mE sc a pa && mE sc e pb
    | _ => false
  | .rng _ (.some _) _, _ => false
  | .enm e, pe => match pe with
    | .Call (.Name x _) [pa] [] _ => decide (x = Str.ofString "enumerate") && glB sc x && G.blts.contains x && okX pa && mE sc e pa && (match ptg with | .Tuple _ _ _ => true | _ => false)
    | _ => false
  | .zip a b, pe => match pe with
    | .Call (.Name x _) [pa, pb] [] _ => decide (x = Str.ofString "zip") && glB sc x && G.blts.contains x && okX pa && okX pb && mE sc a pa && mE sc b pb && (match ptg with | .Tuple _ _ _ => true | _ => false)
    | _ => false
end
def isFrz : S → Bool
  | .frz _ => true
  | _ => false
def isMk : S → Bool
  | .retl _ _ _ _ _ => true
  | .retd _ _ _ _ _ _ => true
  | _ => false
def hasMks : Ss → Bool
  | .nil => false
  | .cons s ss => isMk s || hasMks ss
/-- def g(..): ..; return f(.., g) -/
def mRd (sc : Scope) : S → Ss → List Stmt → Bool
  | .retd f es j k js i, .nil, [.FunctionDef name params body [] none [] scope none name2 _, .Return (some (.Call (.Name x _) pes [] _)) _] =>
    decide (name2 = name) && (match pes.getLast? with | some (.Name y _) => decide (y = name) | _ => false) && callOk G f x && glB sc x && noDbg x && mEs G N sc es pes.dropLast && decide (G.me = some (j, k)) && plainArgs params && ndefB sc scope (capN G k) && decide (js.map (fun i => N[i]?) = (capN G k).map some) &&
      decide (N[i]? = some name) && locB sc name && noDbg name && !js.contains i
  | _, _, _ => false
def noKeys : E → Bool
  | .comp _ _ (.keys _) _ => false
  | _ => true
mutual
def mS (sc : Scope) : S → Stmt → Bool
  | .asg i e, ps => match ps with
    | .Assign [.Name x px] pe _ => decide (N[i]? = some x) && locB sc x && mE G N sc e pe && okX pe && (match pe with
      | .ListComp _ _ scope pp => isCel sc x || noKeys e && isLoc sc x && (px.line == pp.line) && !(scope.names.any fun (n, k) => n == x && (k == .local || k == .cell))
      | _ => true)
    | _ => false
  | .unp is e, ps => match ps with
    | .Assign [.Tuple es _ _] pe _ => mNs N sc is es && noLc pe && (match pe with | .Tuple _ _ _ => false | _ => true) && mE G N sc e pe
    | _ => false
  | .seti o k v, ps => match ps with
    | .Assign [.Subscript po pk _] pv _ => noLc pv && mE G N sc o po && mE G N sc k pk && mE G N sc v pv
    | _ => false
  | .exp e, ps => match ps with
    | .Expr pe _ => noLc pe && mE G N sc e pe
    | _ => false
  | .ret e, ps => match ps with
    | .Return (some pe) _ => mE G N sc e pe
    | _ => false
  | .retN, ps => match ps with
    | .Return none _ => true
    | _ => false
  | .retl f es j k js, ps => match ps with
    | .Return (some (.Call (.Name x _) pes [] _)) _ => match pes.getLast? with
      | some (.Lambda params body scope _) => callOk G f x && glB sc x && noDbg x && mEs G N sc es pes.dropLast && decide (G.me = some (j, k)) && plainArgs params && ndefB sc scope (capN G k) && decide (js.map (fun i => N[i]?) = (capN G k).map some)
      | _ => false
    | _ => false
  | .retd _ _ _ _ _ _, _ => false
  | .ite c a b, ps => match ps with
    | .If pc pa pb _ => mE G N sc c pc && (!hasMks a && mSs sc a pa) && (!hasMks b && mSs sc b pb)
    | _ => false
  | .fors tg it b, ps => match ps with
    | .For ptg pit pb [] _ => okX pit && mI G N sc ptg it pit && mTg N sc tg ptg && (!hasMks b && mSs sc b pb)
    | _ => false
  | .whl _ c b, ps => match ps with
    | .While pc pb [] _ => mE G N sc c pc && (!hasMks b && mSs sc b pb)
    | _ => false
  | .brk, ps => match ps with
    | .Break _ => true
    | _ => false
  | .cnt, ps => match ps with
    | .Continue _ => true
    | _ => false
  | .pas, ps => match ps with
    | .Pass _ => true
    | _ => false
  | .setf c o a e, ps => match ps with
    | .Assign [.Attribute po x _] pe _ => decide (x = a) && hasFld G c a && noLc pe && mE G N sc o po && mE G N sc e pe
    | _ => false
  | .setl c o a, ps => match ps with
    | .Assign [.Attribute po x _] (.List [] _) _ => decide (x = a) && hasFld G c a && !(decide (a = ⟨#[]⟩)) && mE G N sc o po
    | _ => false
  | .frz _, _ => false
def mSs (sc : Scope) : Ss → List Stmt → Bool
  | .nil, ps => match ps with
    | [] => true
    | _ => false
  | .cons s ss, ps => (isFrz s && mSs sc ss ps) || mRd G N sc s ss ps || match ps with
    | p :: ps => mS sc s p && mSs sc ss ps
    | _ => false
end
/-- the text of a made function -/
def mBody (sc : Scope) (b : Ss) : FuncBody → Bool
  | .stmts ps => mSs G N sc b ps
  | .expr pe => match b with
    | .cons (.ret e) .nil => mE G N sc e pe
    | _ => false
end

/-! ### what is known where code runs -/
structure XW (G : SI) (CA : CAT) (n : Nat) (N : List Str) (sc : Scope) (X : Cx) : Prop where
  hN : X.N = N
  hsc : X.env.scope = sc
  nd : N.Nodup
  calm : X.calm = true
  room : Room n X.A
  cls : ∀ c k, G.cls[c]? = some k → X.mg k.nm = some (.ref (CA c)) ∧ Cls X.K (CA c) ∧ (∀ a ∈ k.fs, NoAttr X.K (CA c) a) ∧
    (∀ q ∈ k.ms, q.2 < 1000 ∧ ∃ d fa fd, Meth X.K (CA c) q.1 fa ∧ Binds X.K fd d [] ∧ FnOk X.prog X.w X.K X.mg X.base CX0 n fa fd d (spF X.K CA (run G.P n) q.2)) ∧
    (2 ≤ n → k.ini < 1000 ∧ ∃ d fa fd, Mk X.K (CA c) fa ∧ Binds X.K fd d [] ∧ FnOk X.prog X.w X.K X.mg X.base CX0 1 fa fd d (spF X.K CA (ini G.P) k.ini))
  fns : ∀ f d, G.P[f]? = some d → d.cls = none → ∃ fa fd, X.mg d.nm = some (.ref fa) ∧ PySem.W.keepIn X.K (.ref fa) = true ∧ Binds X.K fd d.ps [] ∧ FnOk X.prog X.w X.K X.mg X.base CX0 n fa fd d.ps (spF X.K CA (run G.P n) f)
  blt : ∀ x ∈ G.blts, X.mg x = none
  cst : ∀ x c, (x, c) ∈ G.consts → ∃ v u, X.mg x = some u ∧ RelV v u ∧ Rp X.K (fun _ => none) v c ∧ KTp X.K v
  clo : ∀ f d m, G.P[f]? = some d → d.cap = some m → d.ps = (CA.cw f).ps ++ (CA.cw f).fr ∧ (CA.cw f).fr.length = m ∧ CloOk X.prog X.w X.K X.mg X.base CA n (run G.P n) f ∧ CA.ck f = true
  ckd : ∀ f, CA.ck f = true → f < 1000 ∧ ∃ d m, G.P[f]? = some d ∧ d.cap = some m
theorem XW.blk {G : SI} {CA : CAT} {n : Nat} {N : List Str} {sc scope : Scope} {X : Cx} (W : XW G CA n N sc X) (s : Shared) (H : Hp) (C : Addr) (cl : List (Str × Addr)) (fp : List Addr) :
    XW G CA n N (relS scope sc) (X.blk s H scope (compEnvC scope cl C X.env) fp) := by
  refine ⟨W.hN, ?_, W.nd, W.calm, W.room, W.cls, W.fns, W.blt, W.cst, W.clo, W.ckd⟩
  rw [← W.hsc]; rfl
/-- the def at hand makes functions: its code, its table -/
structure Crt (G : SI) (CA : CAT) (X : Cx) : Prop where
  ok : ∀ j k, G.me = some (j, k) → TabB X.base X.mg (CA.tc j) (CA.tb j) ∧ X.env.code = .ref (CA.tc j) ∧ ∀ y, X.fn y = true
  has : ∀ j k, G.me = some (j, k) → ∃ d m, G.P[k]? = some d ∧ d.cap = some m
/-- what a statement makes has the words that are told -/
def Mks (G : SI) (CA : CAT) (X : Cx) (st : Stmt) : Prop := ∀ j k, G.me = some (j, k) → ∀ nm pa b sc, lamIn st = some (nm, pa, b, sc) → X.env.qual ++ nm = CA.tq j ∧ (CA.cw k).W = ⟨nm, pa, b, sc, CA.tq j⟩
theorem capN_ok {G : SI} {CA : CAT} {n : Nat} {N : List Str} {sc : Scope} {X : Cx} (W : XW G CA n N sc X) {k : Nat} {d : Fn} {m : Nat} (h1 : G.P[k]? = some d) (h2 : d.cap = some m) : capN G k = (CA.cw k).fr := by
  obtain ⟨e1, e2, _⟩ := W.clo k d m h1 h2
  unfold capN
  rw [h1]
  dsimp only
  rw [h2]
  dsimp only
  rw [e1, List.length_append, e2, Nat.add_sub_cancel, List.drop_left]
theorem plain_def {pa : Arguments} {env : Env} (h : plainArgs pa = true) : defaultsOf pa env = ([], []) ∧ pa.defaults = [] ∧ pa.kw_defaults = [] ∧ annTrees pa none env = [] := by
  unfold plainArgs at h
  split at h
  · rename_i as
    refine ⟨rfl, rfl, rfl, ?_⟩
    unfold annTrees
    have : ∀ l : List Arg, l.all (fun a => a.annotation.isNone) = true → annotationsOf l env = [] := fun l => by
      induction l with
      | nil => intro _; rfl
      | cons a l ih =>
        intro h
        rw [List.all_cons, Bool.and_eq_true] at h
        obtain ⟨x, an, p⟩ := a
        cases an with
        | none => exact ih h.2
        | some e => cases h.1
    show annotationsOf (as ++ [] ++ [] ++ [] ++ []) env ++ _ = []
    simp only [List.append_nil]
    rw [this as h]
    rfl
  · cases h
theorem last_app {es : List Expr} {e : Expr} (h : es.getLast? = some e) : es = es.dropLast ++ [e] := by
  have hn : es ≠ [] := fun z => by rw [z] at h; cases h
  rw [List.getLast?_eq_some_getLast hn] at h
  cases h
  exact (List.dropLast_concat_getLast hn).symm
end Tw
set_option Elab.async false
set_option linter.all false
set_option maxRecDepth 100000
set_option maxHeartbeats 4000000
/-! C9: every expression that matches is read by its evaluation. -/
namespace Tw
open PySem L2

/-! ### what leaves the store -/
section
variable {C I : CallF}
mutual
theorem pureE_st : ∀ (e : E), pureE e = true → ∀ ρ st x st', evE C I e ρ st = some (x, st') → st' = st
  | .var i, _, ρ, st, x, st', h => by
    simp only [evE] at h
    split at h
    · cases h; rfl
    · cases h
  | .cst c, _, ρ, st, x, st', h => by simp only [evE] at h; cases h; rfl
  | .glb z c, _, ρ, st, x, st', h => by simp only [evE] at h; cases h; rfl
  | .tup es, hp, ρ, st, x, st', h => by
    simp only [evE] at h
    obtain ⟨⟨vs, s1⟩, e1, h⟩ := Option.bind_eq_some_iff.mp h
    split at h
    · obtain ⟨ys, e2, e3⟩ := Option.map_eq_some_iff.mp h
      cases e3
      exact pureEs_st es (by simpa [pureE] using hp) ρ st vs _ e1
    · cases h
  | .lst es, hp, ρ, st, x, st', h => by
    simp only [evE] at h
    obtain ⟨⟨vs, s1⟩, e1, h⟩ := Option.bind_eq_some_iff.mp h
    split at h
    · obtain ⟨ys, e2, e3⟩ := Option.map_eq_some_iff.mp h
      cases e3
      exact pureEs_st es (by simpa [pureE] using hp) ρ st vs _ e1
    · cases h
  | .nlst es, hp, ρ, st, x, st', h => by simp [pureE] at hp
  | .ndct _, hp, _, _, _, _, _ => by simp [pureE] at hp
  | .nadd _ _, hp, _, _, _, _, _ => by simp [pureE] at hp
  | .ndc1 _, hp, _, _, _, _, _ => by simp [pureE] at hp
  | .ndcz _ _, hp, _, _, _, _, _ => by simp [pureE] at hp
  | .call _ _, hp, _, _, _, _, _ => by simp [pureE] at hp
  | .calln _ _, hp, _, _, _, _, _ => by simp [pureE] at hp
  | .meth _ _ _ _ _, hp, _, _, _, _, _ => by simp [pureE] at hp
  | .make _ _ _, hp, _, _, _, _, _ => by simp [pureE] at hp
  | .mt1 _ _ _, hp, _, _, _, _, _ => by simp [pureE] at hp
  | .mt0 _ _, hp, _, _, _, _, _ => by simp [pureE] at hp
  | .comp _ _ _ _, hp, _, _, _, _, _ => by simp [pureE] at hp
  | .bin o a b, hp, ρ, st, x, st', h => by
    simp only [pureE, Bool.and_eq_true] at hp
    simp only [evE] at h
    obtain ⟨⟨v1, s1⟩, e1, h⟩ := Option.bind_eq_some_iff.mp h
    obtain ⟨⟨v2, s2⟩, e2, h⟩ := Option.bind_eq_some_iff.mp h
    obtain ⟨x1, e3, h⟩ := Option.bind_eq_some_iff.mp h
    obtain ⟨y1, e4, h⟩ := Option.bind_eq_some_iff.mp h
    obtain ⟨z, e5, e6⟩ := Option.map_eq_some_iff.mp h
    cases e6
    have h1 := pureE_st a hp.1 ρ st _ _ e1
    have h2 := pureE_st b hp.2 ρ s1 _ _ e2
    exact h2.trans h1
  | .neg a, hp, ρ, st, x, st', h => by
    simp only [pureE] at hp
    simp only [evE] at h
    obtain ⟨⟨v1, s1⟩, e1, h⟩ := Option.bind_eq_some_iff.mp h
    obtain ⟨z, e5, e6⟩ := Option.map_eq_some_iff.mp h
    cases e6
    exact pureE_st a hp ρ st _ _ e1
  | .cmp o a b, hp, ρ, st, x, st', h => by
    simp only [pureE, Bool.and_eq_true] at hp
    simp only [evE] at h
    obtain ⟨⟨v1, s1⟩, e1, h⟩ := Option.bind_eq_some_iff.mp h
    obtain ⟨⟨v2, s2⟩, e2, h⟩ := Option.bind_eq_some_iff.mp h
    obtain ⟨x1, e3, h⟩ := Option.bind_eq_some_iff.mp h
    obtain ⟨y1, e4, h⟩ := Option.bind_eq_some_iff.mp h
    obtain ⟨z, e5, e6⟩ := Option.map_eq_some_iff.mp h
    cases e6
    have h1 := pureE_st a hp.1 ρ st _ _ e1
    have h2 := pureE_st b hp.2 ρ s1 _ _ e2
    exact h2.trans h1
  | .chn o o' a b c, hp, ρ, st, x, st', h => by
    simp only [pureE, Bool.and_eq_true] at hp
    simp only [evE] at h
    obtain ⟨⟨v1, s1⟩, e1, h⟩ := Option.bind_eq_some_iff.mp h
    obtain ⟨⟨v2, s2⟩, e2, h⟩ := Option.bind_eq_some_iff.mp h
    obtain ⟨x1, e3, h⟩ := Option.bind_eq_some_iff.mp h
    obtain ⟨y1, e4, h⟩ := Option.bind_eq_some_iff.mp h
    obtain ⟨k, e5, h⟩ := Option.bind_eq_some_iff.mp h
    have h1 := pureE_st a hp.1.1 ρ st _ _ e1
    have h2 := pureE_st b hp.1.2 ρ s1 _ _ e2
    split at h
    · obtain ⟨⟨v3, s3⟩, e6, h⟩ := Option.bind_eq_some_iff.mp h
      obtain ⟨z1, e7, h⟩ := Option.bind_eq_some_iff.mp h
      obtain ⟨k', e8, e9⟩ := Option.map_eq_some_iff.mp h
      cases e9
      exact (pureE_st c hp.2 ρ s2 _ _ e6).trans (h2.trans h1)
    · cases h
      exact h2.trans h1
  | .isn p a, hp, ρ, st, x, st', h => by
    simp only [pureE] at hp
    simp only [evE] at h
    obtain ⟨⟨v1, s1⟩, e1, e2⟩ := Option.map_eq_some_iff.mp h
    cases e2
    exact pureE_st a hp ρ st _ _ e1
  | .ix a b, hp, ρ, st, x, st', h => by
    simp only [pureE, Bool.and_eq_true] at hp
    simp only [evE] at h
    obtain ⟨⟨v1, s1⟩, e1, h⟩ := Option.bind_eq_some_iff.mp h
    obtain ⟨⟨v2, s2⟩, e2, h⟩ := Option.bind_eq_some_iff.mp h
    have h1 := pureE_st a hp.1 ρ st _ _ e1
    have h2 := pureE_st b hp.2 ρ s1 _ _ e2
    dsimp only at h
    unfold ixS at h
    split at h
    · split at h
      · obtain ⟨z, _, e6⟩ := Option.map_eq_some_iff.mp h
        cases e6
        exact h2.trans h1
      · cases h
    · obtain ⟨x1, e3, h⟩ := Option.bind_eq_some_iff.mp h
      obtain ⟨y1, e4, h⟩ := Option.bind_eq_some_iff.mp h
      obtain ⟨z, e5, e6⟩ := Option.map_eq_some_iff.mp h
      cases e6
      exact h2.trans h1
  | .sl a lo hi, hp, ρ, st, x, st', h => by
    simp only [pureE, Bool.and_eq_true] at hp
    simp only [evE] at h
    obtain ⟨⟨v1, s1⟩, e1, h⟩ := Option.bind_eq_some_iff.mp h
    obtain ⟨⟨v2, s2⟩, e2, h⟩ := Option.bind_eq_some_iff.mp h
    obtain ⟨⟨v3, s3⟩, e3, h⟩ := Option.bind_eq_some_iff.mp h
    obtain ⟨x1, e4, h⟩ := Option.bind_eq_some_iff.mp h
    obtain ⟨z, e5, e6⟩ := Option.map_eq_some_iff.mp h
    cases e6
    exact (pureO_st hi hp.2 ρ s2 _ _ e3).trans ((pureO_st lo hp.1.2 ρ s1 _ _ e2).trans (pureE_st a hp.1.1 ρ st _ _ e1))
  | .rev a, hp, ρ, st, x, st', h => by
    simp only [pureE] at hp
    simp only [evE] at h
    obtain ⟨⟨v1, s1⟩, e1, h⟩ := Option.bind_eq_some_iff.mp h
    dsimp only at h
    split at h
    · cases h; exact pureE_st a hp ρ st _ _ e1
    · cases h
  | .isi t a, hp, ρ, st, x, st', h => by
    simp only [pureE] at hp
    simp only [evE] at h
    obtain ⟨⟨v1, s1⟩, e1, h⟩ := Option.bind_eq_some_iff.mp h
    obtain ⟨z, e5, e6⟩ := Option.map_eq_some_iff.mp h
    cases e6
    exact pureE_st a hp ρ st _ _ e1
  | .fn1 f a, hp, ρ, st, x, st', h => by
    simp only [pureE] at hp
    simp only [evE] at h
    obtain ⟨⟨v1, s1⟩, e1, h⟩ := Option.bind_eq_some_iff.mp h
    have h1 := pureE_st a hp ρ st _ _ e1
    dsimp only at h
    unfold fn1S at h
    split at h
    · cases h; exact h1
    · obtain ⟨x1, e4, h⟩ := Option.bind_eq_some_iff.mp h
      obtain ⟨z, e5, e6⟩ := Option.map_eq_some_iff.mp h
      cases e6
      exact h1
  | .band a es, hp, ρ, st, x, st', h => by
    simp only [pureE, Bool.and_eq_true] at hp
    simp only [evE] at h
    obtain ⟨⟨v1, s1⟩, e1, h⟩ := Option.bind_eq_some_iff.mp h
    obtain ⟨k, e2, h⟩ := Option.bind_eq_some_iff.mp h
    have h1 := pureE_st a hp.1 ρ st _ _ e1
    split at h
    · exact (pureAnd_st es hp.2 ρ s1 _ _ h).trans h1
    · cases h; exact h1
  | .bor a es, hp, ρ, st, x, st', h => by
    simp only [pureE, Bool.and_eq_true] at hp
    simp only [evE] at h
    obtain ⟨⟨v1, s1⟩, e1, h⟩ := Option.bind_eq_some_iff.mp h
    obtain ⟨k, e2, h⟩ := Option.bind_eq_some_iff.mp h
    have h1 := pureE_st a hp.1 ρ st _ _ e1
    split at h
    · cases h; exact h1
    · exact (pureOr_st es hp.2 ρ s1 _ _ h).trans h1
  | .nt a, hp, ρ, st, x, st', h => by
    simp only [pureE] at hp
    simp only [evE] at h
    obtain ⟨⟨v1, s1⟩, e1, h⟩ := Option.bind_eq_some_iff.mp h
    obtain ⟨z, e5, e6⟩ := Option.map_eq_some_iff.mp h
    cases e6
    exact pureE_st a hp ρ st _ _ e1
  | .fld c a f, hp, ρ, st, x, st', h => by
    simp only [pureE] at hp
    simp only [evE] at h
    obtain ⟨⟨v1, s1⟩, e1, h⟩ := Option.bind_eq_some_iff.mp h
    have h1 := pureE_st a hp ρ st _ _ e1
    dsimp only at h
    unfold fldS at h
    split at h
    · split at h
      · split at h
        · split at h
          · cases h; exact h1
          · cases h; exact h1
          · cases h
        · cases h
      · cases h
    · cases h
  | .get a b c, hp, ρ, st, x, st', h => by
    simp only [pureE, Bool.and_eq_true] at hp
    simp only [evE] at h
    obtain ⟨⟨v1, s1⟩, e1, h⟩ := Option.bind_eq_some_iff.mp h
    split at h
    · obtain ⟨⟨v2, s2⟩, e2, h⟩ := Option.bind_eq_some_iff.mp h
      obtain ⟨⟨v3, s3⟩, e3, h⟩ := Option.bind_eq_some_iff.mp h
      obtain ⟨x1, e4, h⟩ := Option.bind_eq_some_iff.mp h
      dsimp only at h
      unfold getS at h
      split at h
      · obtain ⟨z, e5, e6⟩ := Option.map_eq_some_iff.mp h
        cases e6
        exact (pureE_st c hp.2 ρ s2 _ _ e3).trans ((pureE_st b hp.1.2 ρ s1 _ _ e2).trans (pureE_st a hp.1.1 ρ st _ _ e1))
      · cases h
    · cases h
theorem pureEs_st : ∀ (es : Es), pureEs es = true → ∀ ρ st x st', evEs C I es ρ st = some (x, st') → st' = st
  | .nil, _, ρ, st, x, st', h => by simp only [evEs] at h; cases h; rfl
  | .cons e es, hp, ρ, st, x, st', h => by
    simp only [pureEs, Bool.and_eq_true] at hp
    simp only [evEs] at h
    obtain ⟨⟨v1, s1⟩, e1, h⟩ := Option.bind_eq_some_iff.mp h
    obtain ⟨⟨v2, s2⟩, e2, e3⟩ := Option.map_eq_some_iff.mp h
    cases e3
    exact (pureEs_st es hp.2 ρ s1 _ _ e2).trans (pureE_st e hp.1 ρ st _ _ e1)
theorem pureAnd_st : ∀ (es : Es), pureEs es = true → ∀ ρ st x st', evAnd C I es ρ st = some (x, st') → st' = st
  | .nil, _, ρ, st, x, st', h => by simp only [evAnd] at h; cases h
  | .cons e es, hp, ρ, st, x, st', h => by
    simp only [pureEs, Bool.and_eq_true] at hp
    rw [evAnd] at h
    obtain ⟨⟨v1, s1⟩, e1, h⟩ := Option.bind_eq_some_iff.mp h
    have h1 := pureE_st e hp.1 ρ st _ _ e1
    cases es with
    | nil => cases h; exact h1
    | cons e2 es2 =>
      obtain ⟨k, e3, h⟩ := Option.bind_eq_some_iff.mp h
      split at h
      · exact (pureAnd_st (.cons e2 es2) hp.2 ρ s1 _ _ h).trans h1
      · cases h; exact h1
theorem pureOr_st : ∀ (es : Es), pureEs es = true → ∀ ρ st x st', evOr C I es ρ st = some (x, st') → st' = st
  | .nil, _, ρ, st, x, st', h => by simp only [evOr] at h; cases h
  | .cons e es, hp, ρ, st, x, st', h => by
    simp only [pureEs, Bool.and_eq_true] at hp
    rw [evOr] at h
    obtain ⟨⟨v1, s1⟩, e1, h⟩ := Option.bind_eq_some_iff.mp h
    have h1 := pureE_st e hp.1 ρ st _ _ e1
    cases es with
    | nil => cases h; exact h1
    | cons e2 es2 =>
      obtain ⟨k, e3, h⟩ := Option.bind_eq_some_iff.mp h
      split at h
      · cases h; exact h1
      · exact (pureOr_st (.cons e2 es2) hp.2 ρ s1 _ _ h).trans h1
theorem pureO_st : ∀ (o : Oe), pureO o = true → ∀ ρ st x st', evO C I o ρ st = some (x, st') → st' = st
  | .none, _, ρ, st, x, st', h => by simp only [evO] at h; cases h; rfl
  | .some e, hp, ρ, st, x, st', h => by
    simp only [pureO] at hp
    simp only [evO] at h
    obtain ⟨⟨v1, s1⟩, e1, h⟩ := Option.bind_eq_some_iff.mp h
    obtain ⟨z, e5, e6⟩ := Option.map_eq_some_iff.mp h
    cases e6
    exact pureE_st e hp ρ st _ _ e1
end
theorem pureC_st (o : Oe) (hp : pureO o = true) (ρ : En) (st : Sto) (x : Bool) (st' : Sto) (h : evC C I o ρ st = some (x, st')) : st' = st := by
  cases o with
  | none => simp only [evC] at h; cases h; rfl
  | some e =>
    simp only [pureO] at hp
    simp only [evC] at h
    obtain ⟨⟨v1, s1⟩, e1, h⟩ := Option.bind_eq_some_iff.mp h
    obtain ⟨z, e5, e6⟩ := Option.map_eq_some_iff.mp h
    cases e6
    exact pureE_st e hp ρ st _ _ e1
theorem pureF_st {tg : Tg} {elt : E} {cond : Oe} (hp : (pureE elt && pureO cond) = true) (ρ : En) (x : PyData) (st : Sto) (y : Option PyData) (st' : Sto) (h : compF tg (evC C I cond) (evE C I elt) ρ x st = some (y, st')) : st' = st := by
  rw [Bool.and_eq_true] at hp
  unfold compF at h
  obtain ⟨ρ', e1, h⟩ := Option.bind_eq_some_iff.mp h
  obtain ⟨⟨b, s1⟩, e2, h⟩ := Option.bind_eq_some_iff.mp h
  have h1 := pureC_st cond hp.2 ρ' st b s1 e2
  dsimp only at h
  split at h
  · obtain ⟨⟨v2, s2⟩, e3, h⟩ := Option.bind_eq_some_iff.mp h
    obtain ⟨z, e5, e6⟩ := Option.map_eq_some_iff.mp h
    cases e6
    exact (pureE_st elt hp.1 ρ' s1 _ _ e3).trans h1
  · cases h; exact h1
end
end Tw
set_option Elab.async false
set_option linter.all false
set_option maxRecDepth 100000
set_option maxHeartbeats 4000000
/-! C10: every expression that matches is read by its evaluation, further. -/
namespace Tw
open PySem L2
section
variable {X : Cx} {CA : CAT} {a b c : Expr} {pos : Pos} {ma mb mc mr : Mv}
theorem pvIn {neg : Bool} {m : Mv} (hm : ∀ ρ st, m ρ st = (ma ρ st).bind fun p => (mb ρ p.2).bind fun q => (dat q.2 p.1).bind fun x => (dat q.2 q.1).bind fun y => (cmpD (if neg then .nin else .inn) x y).map fun z => (.d (.bool z), q.2)) (hu : X.A.units + 150 < cLine)
    (ha : PE X a (TV X.K CA ma)) (hb : PE X b (TV X.K CA mb)) (hb' : ∀ op, behindInMarks op b = false) :
    PE X (.Compare a [if neg then .NotIn else .In] [b] pos) (TV X.K CA m) ∧ PT X (.Compare a [if neg then .NotIn else .In] [b] pos) (TB X.K CA m) := by
  have w : ∀ σ H Q, TV X.K CA m σ H Q → (tOp (if neg then rNinA X.K else rInA X.K) (TV X.K CA ma) (TV X.K CA mb) σ H Q ∨ (if neg then tDNotIn (TV X.K CA ma) (TV X.K CA mb) else tDIn (TV X.K CA ma) (TV X.K CA mb)) σ H Q) := fun σ H Q ⟨F, φ, st, ρ, x, st', r, re, e, q⟩ => by
    rw [hm] at e
    obtain ⟨⟨v1, st1⟩, e1, e⟩ := Option.bind_eq_some_iff.mp e
    obtain ⟨⟨v2, st2⟩, e2, e⟩ := Option.bind_eq_some_iff.mp e
    obtain ⟨x1, e3, e⟩ := Option.bind_eq_some_iff.mp e
    obtain ⟨y1, e4, e⟩ := Option.bind_eq_some_iff.mp e
    obtain ⟨z, e5, e6⟩ := Option.map_eq_some_iff.mp e
    cases e6
    dsimp only at e3 e4 q
    by_cases hd : ∃ kvs, y1 = .dict kvs
    · obtain ⟨kvs, rfl⟩ := hd
      refine .inr ?_
      have hk : ∃ k, x1 = .str k ∧ (toKv kvs).map (fun q => (if neg then !(lookD q k).isSome else (lookD q k).isSome)) = some z := by
        cases x1 with
        | str k => refine ⟨k, rfl, ?_⟩; cases neg <;> exact e5
        | _ => cases neg <;> cases e5
      obtain ⟨k, rfl, e5'⟩ := hk
      obtain ⟨qs, e7, e8⟩ := Option.map_eq_some_iff.mp e5'
      have fin : ∀ F2 φ2 H2 u1 u2, Nx X.K CA F φ H F2 φ2 st2 H2 → RV X.K F2 φ2 u1 v1 → RV X.K F2 φ2 u2 v2 → ∃ a o, u2 = .ref a ∧ DGet H2 a u1 o ∧ Q (.bl (if neg then !o.isSome else o.isSome)) H2 := fun F2 φ2 H2 u1 u2 n2 rv1 rv2 => by
        have t1 : Rp X.K F2 u1 (.str k) := n2.r.reads rv1 e3
        cases t1
        obtain ⟨a1, ks, rfl, g1, g2, g3⟩ := dget_ok (k := k) (n2.r.reads rv2 e4) e7
        refine ⟨a1, _, rfl, g2, ?_⟩
        rcases g3 with ⟨g4, g5⟩ | ⟨w, y, g4, g5, g6⟩
        · rw [g5]; rw [g4] at e8; subst e8; exact q _ _ _ _ n2 (.bl _)
        · rw [g5]; rw [g4] at e8; subst e8; exact q _ _ _ _ n2 (.bl _)
      cases neg
      · refine ⟨F, φ, st, ρ, v1, st1, r, re, e1, fun F1 φ1 H1 u1 n1 rv1 => ?_⟩
        refine ⟨F1, φ1, st1, ρ, v2, st2, n1.r, re.le n1.le n1.gr, e2, fun F2 φ2 H2 u2 n2 rv2 => ?_⟩
        exact fin F2 φ2 H2 u1 u2 (n1.trans n2) (rv1.le n2.le n2.gr) rv2
      · refine ⟨F, φ, st, ρ, v1, st1, r, re, e1, fun F1 φ1 H1 u1 n1 rv1 => ?_⟩
        refine ⟨F1, φ1, st1, ρ, v2, st2, n1.r, re.le n1.le n1.gr, e2, fun F2 φ2 H2 u2 n2 rv2 => ?_⟩
        exact fin F2 φ2 H2 u1 u2 (n1.trans n2) (rv1.le n2.le n2.gr) rv2
    · refine .inl ⟨F, φ, st, ρ, v1, st1, r, re, e1, fun F1 φ1 H1 u1 n1 rv1 => ?_⟩
      refine ⟨F1, φ1, st1, ρ, v2, st2, n1.r, re.le n1.le n1.gr, e2, fun F2 φ2 H2 u2 n2 rv2 => ?_⟩
      have t1 := n2.r.reads (rv1.le n2.le n2.gr) e3
      have t2 := n2.r.reads rv2 e4
      have nd : ∀ kvs, y1 ≠ .dict kvs := fun kvs hk => hd ⟨kvs, hk⟩
      cases neg
      · exact in_ok n2.r t1 t2 nd e5 fun F3 H3 v n3 rv => q _ _ _ _ ((n1.trans n2).trans n3) rv
      · exact nin_ok n2.r t1 t2 nd e5 fun F3 H3 v n3 rv => q _ _ _ _ ((n1.trans n2).trans n3) rv
  cases neg
  · exact ⟨peWeak (peOr (pe_cmpR (op_inA hu) ha hb (hb' _)) (pe_cmp (pc_din (by omega) ha hb) (hb' _))) w, tbOfT (t := fun σ H Q => tOp (rInA X.K) (TV X.K CA ma) (TV X.K CA mb) σ H Q ∨ tDIn (TV X.K CA ma) (TV X.K CA mb) σ H Q) (ptOr (pt_cmpR (op_inA hu) ha hb (hb' _)) (pt_cmp (pc_din (by omega) ha hb) (hb' _))) w⟩
  · exact ⟨peWeak (peOr (pe_cmpR (op_ninA hu) ha hb (hb' _)) (pe_cmp (pc_dnotin (by omega) ha hb) (hb' _))) w, tbOfT (t := fun σ H Q => tOp (rNinA X.K) (TV X.K CA ma) (TV X.K CA mb) σ H Q ∨ tDNotIn (TV X.K CA ma) (TV X.K CA mb) σ H Q) (ptOr (pt_cmpR (op_ninA hu) ha hb (hb' _)) (pt_cmp (pc_dnotin (by omega) ha hb) (hb' _))) w⟩
end
/-! ### the side conditions -/
theorem visB_ok {sc : Scope} {x : Str} (h : visB sc x = true) : Vis sc x := by
  unfold visB at h
  split at h
  · exact .inl (by assumption)
  · exact .inr (.inl (by assumption))
  · exact .inr (.inr (by assumption))
  · cases h
theorem glB_ok {sc : Scope} {x : Str} (h : glB sc x = true) : sc.names.lookup x = some .globalImplicit := by
  unfold glB at h
  split at h
  · assumption
  · cases h
theorem locB_ok {sc : Scope} {x : Str} (h : locB sc x = true) : Loc sc x := by
  unfold locB at h
  split at h
  · exact .inl (by assumption)
  · exact .inr (by assumption)
  · cases h
theorem noDbg_ok {x : Str} (h : noDbg x = true) : (x == ("__debug__" : Str)) = false ∧ (x == ("__classdict__" : Str)) = false ∧ x ≠ ("__name__" : Str) := by
  simp only [noDbg, Bool.and_eq_true, Bool.not_eq_true', decide_eq_false_iff_not] at h
  exact ⟨h.1.1, h.1.2, h.2⟩
theorem okX_star {e : Expr} (h : okX e = true) : notStar e = true := by cases e <;> first | rfl | cases h
theorem okX_marks {e : Expr} (h : okX e = true) (op : CmpOp) : behindInMarks op e = false := by cases e <;> first | rfl | cases h
theorem okX_ix {e : Expr} (h : okX e = true) : ∀ o i, subscripted e false o i = operate [o, i] (getItem o i) := by
  intro o i
  cases e <;> first | rfl | cases h
theorem okX_set {e : Expr} {env : Env} (h : okX e = true) : ∀ x, foldedSetIterable e env x = pure x := by
  intro x
  cases e <;> first | rfl | cases h
theorem abOk_base {e : Expr} {env : Env} {x : Str} (h : abOk e = true) : attributeBase e x env (eval e env) = eval e env := by cases e <;> first | rfl | cases h
theorem abOk2_base {e : Expr} {env : Env} {x : Str} (h : abOk2 e = true) : attributeBase e x env (eval e env) = eval e env := by
  unfold abOk2 at h
  split at h
  · rfl
  · exact abOk_base h
theorem noLc_swap {e : Expr} {env : Env} {t : Option Expr} {l : Nat} (h : noLc e = true) : swapsWith e t l env = pure false := by cases e <;> first | rfl | cases h
theorem noLc_ok {e : Expr} (h : noLc e = true) : okX e = true := by cases e <;> first | rfl | cases h
theorem cstOk_ok {k : Const} {d : PyData} (h : cstOk k d = true) : cstRel k d := by
  unfold cstOk at h
  split at h
  · trivial
  · rename_i a b; exact (eq_of_beq h : a = b)
  · rename_i a b; exact (eq_of_beq h : a = b)
  · rename_i a b; exact (of_decide_eq_true h : a = b)
  · cases h
section
variable {G : SI} {CA : CAT} {n : Nat} {N : List Str} {sc : Scope} {X : Cx}
theorem XW.gl (W : XW G CA n N sc X) {x : Str} (h : glB sc x = true) : Gl X x := by
  have := glB_ok h
  rw [← W.hsc] at this
  exact this
theorem XW.bl (W : XW G CA n N sc X) {x : Str} (h : G.blts.contains x = true) : X.mg x = none := W.blt x (by simpa using h)
theorem XW.u1 (W : XW G CA n N sc X) : X.A.units + 1 < cLine := hu_of W.room
theorem XW.u150 (W : XW G CA n N sc X) : X.A.units + 150 < cLine := by have := W.room.un; omega
theorem mNs_nm : ∀ {is : List Nat} {es : List Expr}, mNs N sc is es = true → allNm es = true ∧ es.length = is.length
  | [], [], _ => ⟨rfl, rfl⟩
  | i :: is, .Name x p :: es, h => by
    simp only [mNs, Bool.and_eq_true] at h
    obtain ⟨h1, h2⟩ := mNs_nm h.2
    exact ⟨h1, by rw [List.length_cons, List.length_cons, h2]⟩
  | [], _ :: _, h => by cases h
  | _ :: _, [], h => by cases h
  | i :: is, .BoolOp .. :: _, h | i :: is, .NamedExpr .. :: _, h | i :: is, .BinOp .. :: _, h | i :: is, .UnaryOp .. :: _, h | i :: is, .Lambda .. :: _, h | i :: is, .IfExp .. :: _, h | i :: is, .Dict .. :: _, h | i :: is, .Set .. :: _, h | i :: is, .ListComp .. :: _, h
  | i :: is, .SetComp .. :: _, h | i :: is, .DictComp .. :: _, h | i :: is, .GeneratorExp .. :: _, h | i :: is, .Await .. :: _, h | i :: is, .Yield .. :: _, h | i :: is, .YieldFrom .. :: _, h | i :: is, .Compare .. :: _, h | i :: is, .Call .. :: _, h | i :: is, .FormattedValue .. :: _, h
  | i :: is, .JoinedStr .. :: _, h | i :: is, .Constant .. :: _, h | i :: is, .Attribute .. :: _, h | i :: is, .Subscript .. :: _, h | i :: is, .Starred .. :: _, h | i :: is, .List .. :: _, h | i :: is, .Tuple .. :: _, h | i :: is, .Slice .. :: _, h => by cases h
/-- names that may be written here -/
def Wr (X : Cx) (sc : Scope) : Prop := ∀ x, locB sc x = true → Loc X.env.scope x ∧ (X.fn x = true ∨ X.env.scope.names.lookup x = some .local)
theorem mNs_ok (hN : X.N = N) (nd : N.Nodup) (wr : Wr X sc) : ∀ {is : List Nat} {es : List Expr}, mNs N sc is es = true → PGs X es (TGa X.K CA is)
  | [], [], _ => pgaNil
  | i :: is, .Name x p :: es, h => by
    simp only [mNs, Bool.and_eq_true, decide_eq_true_eq] at h
    obtain ⟨h1, h2⟩ := wr x h.1.2
    exact pgaCons (by rw [hN]; exact nd) (by rw [hN]; exact h.1.1) h1 h2 (mNs_ok hN nd wr h.2)
  | [], _ :: _, h => by cases h
  | _ :: _, [], h => by cases h
  | i :: is, .BoolOp .. :: _, h | i :: is, .NamedExpr .. :: _, h | i :: is, .BinOp .. :: _, h | i :: is, .UnaryOp .. :: _, h | i :: is, .Lambda .. :: _, h | i :: is, .IfExp .. :: _, h | i :: is, .Dict .. :: _, h | i :: is, .Set .. :: _, h | i :: is, .ListComp .. :: _, h
  | i :: is, .SetComp .. :: _, h | i :: is, .DictComp .. :: _, h | i :: is, .GeneratorExp .. :: _, h | i :: is, .Await .. :: _, h | i :: is, .Yield .. :: _, h | i :: is, .YieldFrom .. :: _, h | i :: is, .Compare .. :: _, h | i :: is, .Call .. :: _, h | i :: is, .FormattedValue .. :: _, h
  | i :: is, .JoinedStr .. :: _, h | i :: is, .Constant .. :: _, h | i :: is, .Attribute .. :: _, h | i :: is, .Subscript .. :: _, h | i :: is, .Starred .. :: _, h | i :: is, .List .. :: _, h | i :: is, .Tuple .. :: _, h | i :: is, .Slice .. :: _, h => by cases h
theorem mTg_ok (hN : X.N = N) (nd : N.Nodup) (hc : X.calm = true) (wr : Wr X sc) {tg : Tg} {pt : Expr} (h : mTg N sc tg pt = true) : PG X pt (TGo X.K CA tg) := by
  unfold mTg at h
  split at h
  · simp only [Bool.and_eq_true, decide_eq_true_eq] at h
    obtain ⟨h1, h2⟩ := wr _ h.2
    exact pgNm (by rw [hN]; exact nd) (by rw [hN]; exact h.1) h1 h2
  · obtain ⟨h1, h2⟩ := mNs_nm h
    exact pgTp hc (mNs_ok hN nd wr h) h1 h2
  · cases h
theorem wrBlk (s : Shared) (H : Hp) (C : Addr) (cl : List (Str × Addr)) (fp : List Addr) (scope : Scope) : Wr (X.blk s H scope (compEnvC scope cl C X.env) fp) scope := by
  intro x h
  have e : (compEnvC scope cl C X.env).scope = relS scope X.env.scope := rfl
  unfold locB at h
  split at h
  · rename_i hl
    have := lookup_relS_keep (sc := X.env.scope) (x := x) (k := .local) (by decide) hl
    exact ⟨.inl this, .inr this⟩
  · rename_i hl
    have := lookup_relS_keep (sc := X.env.scope) (x := x) (k := .cell) (by decide) hl
    refine ⟨.inr this, .inl ?_⟩
    show (scope.names.lookup x == some .cell) = true
    rw [hl]; rfl
  · cases h
end
end Tw
set_option Elab.async false
set_option linter.all false
set_option maxRecDepth 100000
set_option maxHeartbeats 8000000
/-! C11: the induction over expressions. -/
namespace Tw
open PySem L2
section
variable {G : SI} {CA : CAT} {n : Nat} {N : List Str}
theorem both {X : Cx} {a : Expr} {m : Mv} (h : PE X a (TV X.K CA m)) (he : ∀ whole, isTrue a X.env whole = (do let v ← whole; standAt a.pos; holding [v] (truthy v))) : PE X a (TV X.K CA m) ∧ PT X a (TB X.K CA m) := ⟨h, tbOf h he⟩
def rInt1 : List V → Hp → VK → Prop := fun xs H Q => (∃ i, xs = [.int i] ∧ Q (.int i) H) ∨ ∃ k, xs = [.bl k] ∧ Q (.int (if k then 1 else 0)) H
def rLst1 (K : PySem.W.Frag) : List V → Hp → VK → Prop := fun xs H Q => ∃ p ys, xs = [V.ref p] ∧ (SqL K H p ys ∨ SqT K H p ys) ∧ ∀ l, H l = none → Q (.ref l) (upd H l (.lst ys))
def rTup1 (K : PySem.W.Frag) : List V → Hp → VK → Prop := fun xs H Q => ∃ p ys, xs = [V.ref p] ∧ ((SqL K H p ys ∧ ∀ l, H l = none → Q (.ref l) (upd H l (.tup ys))) ∨ (SqT K H p ys ∧ Q (.ref p) H))
theorem f1_ok {X : Cx} {sc : Scope} (W : XW G CA n N sc X) {f : F1} {x : Str} {p pos : Pos} {a : Expr} {ma m : Mv} (hm : ∀ ρ st, m ρ st = (ma ρ st).bind fun p => fn1S f p.1 p.2) (hx : x = Str.ofString (f1Nm f)) (h1 : (f1Nm f == "") = false) (hg : Gl X x) (hn : X.mg x = none)
    (ho : okX a = true) (ha : PE X a (TV X.K CA ma)) : PE X (.Call (.Name x p) [a] [] pos) (TV X.K CA m) := by
  have hs := fun es => starOne (env := X.env) (okX_star ho) es
  have rd : ∀ {rr : List V → Hp → VK → Prop}, f ≠ .len → (∀ F φ st H u x y Q, R X.K CA F φ st H → Rt X.K F H u x → fn1D f x = some y → PostD X.K CA F φ st H y Q → rr [u] H Q) →
      ∀ F φ st H u v z st' Q, R X.K CA F φ st H → RV X.K F φ u v → fn1S f v st = some (z, st') → PostV X.K CA F φ H z st' Q → rr [u] H Q := fun hl hh F φ st H u v z st' Q r rv e q => by
    rw [fn1S_read hl] at e
    exact rdOk r rv e q fun x y rx e1 q1 => hh F φ st H u x y Q r rx e1 q1
  cases f with
  | len => subst hx; exact pvFnB (k := fn1S .len) hm call_len PySem.boot_len (fun F φ st H u v z st' Q r rv e q => lenOk r rv e q) ha hg hn (by decide +kernel) (by decide +kernel) hs
  | sum => subst hx; exact pvFnB (k := fn1S .sum) hm (cr_sum W.calm) PyProof.Rows.boot_sum (rd (by intro h; cases h) fun F φ st H u x y Q r rx e q => sum_ok r rx e q) ha hg hn (by decide +kernel) (by decide +kernel) hs
  | any => subst hx; exact pvFnB (k := fn1S .any) hm (cr_any W.calm) PyProof.Rows.boot_any (rd (by intro h; cases h) fun F φ st H u x y Q r rx e q => any_ok r rx e q) ha hg hn (by decide +kernel) (by decide +kernel) hs
  | all => subst hx; exact pvFnB (k := fn1S .all) hm (cr_all W.calm) PyProof.Rows.boot_all (rd (by intro h; cases h) fun F φ st H u x y Q r rx e q => all_ok r rx e q) ha hg hn (by decide +kernel) (by decide +kernel) hs
  | int => subst hx; exact pvFnT (rr := rInt1) (k := fn1S .int) hm call_int1 PyProof.Rows.boot_int (rd (by intro h; cases h) fun F φ st H u x y Q r rx e q => int_ok r rx e q) ha hg hn (by decide +kernel) (by decide +kernel) hs
  | str => subst hx; exact pvFnT (k := fn1S .str) hm call_strA PyProof.Rows.boot_str (rd (by intro h; cases h) fun F φ st H u x y Q r rx e q => str_ok r rx e q) ha hg hn (by decide +kernel) (by decide +kernel) hs
  | lst => subst hx; exact pvFnT (rr := rLst1 X.K) (k := fn1S .lst) hm call_list_of PyProof.Rows.boot_list (rd (by intro h; cases h) fun F φ st H u x y Q r rx e q => lst_ok r rx e q) ha hg hn (by decide +kernel) (by decide +kernel) hs
  | tup => subst hx; exact pvFnT (rr := rTup1 X.K) (k := fn1S .tup) hm call_tuple_of PyProof.Rows.boot_tuple (rd (by intro h; cases h) fun F φ st H u x y Q r rx e q => tup_ok r rx e q) ha hg hn (by decide +kernel) (by decide +kernel) hs
  | srt => subst hx; exact pvFnB (k := fn1S .srt) hm (cr_sortedAny (by have := W.u150; omega)) PyProof.Rows.boot_sorted (rd (by intro h; cases h) fun F φ st H u x y Q r rx e q => srt_ok r rx e q) ha hg hn (by decide +kernel) (by decide +kernel) hs
  | _ => exact absurd h1 (by decide)
theorem m1_ok {X : Cx} {m1 : M1} {x : Str} {ap pos : Pos} {o a : Expr} {mo ma m : Mv} (hm : ∀ ρ st, m ρ st = (mo ρ st).bind fun p => if rcvOk m1 p.1 p.2 then (ma ρ p.2).bind fun q => mt1S m1 p.1 q.1 q.2 else none) (hx : x = Str.ofString (m1Nm m1)) (h1 : (m1Nm m1 == "") = false)
    (hb : abOk o = true) (ho : okX a = true) (hl : (ap.endLine == pos.line) = true) (hO : PE X o (TV X.K CA mo)) (ha : PE X a (TV X.K CA ma)) : PE X (.Call (.Attribute o x ap) [a] [] pos) (TV X.K CA m) := by
  have hs := fun es => starOne (env := X.env) (okX_star ho) es
  cases m1 with
  | app => subst hx; exact pvMtL (g := rcvOk .app) (k := mt1S .app) hm PySem.F.plainAttrs_list PySem.F.slot_list_append PySem.F.type_list_append mt_append hO ha (fun F φ st H u v r rv e => rcvList (.inl rfl) r rv e) (fun F φ st H u w v v' z st' Q r rv rv' e q => (app_okV r rv rv' e q).2) (abOk_base hb) hs hl
  | ext => subst hx; exact pvMtL (g := rcvOk .ext) (k := mt1S .ext) hm PySem.F.plainAttrs_list PySem.F.slot_list_extend PySem.F.type_list_extend mt_extendA hO ha (fun F φ st H u v r rv e => rcvList (.inr rfl) r rv e) (fun F φ st H u w v v' z st' Q r rv rv' e q => (ext_okV r rv rv' e q).2) (abOk_base hb) hs hl
  | join =>
    subst hx
    refine pvMtS (g := rcvOk .join) (k := mt1S .join) hm PySem.F.slot_str_join PySem.F.type_str_join mt_join hO ha (fun F φ st H u v r rv e => rcvStr (.inl rfl) r rv e) (fun F φ st H u w v v' z st' Q r rv rv' e q => ?_) (abOk_base hb) hs hl
    obtain ⟨x1, e1, e⟩ := Option.bind_eq_some_iff.mp (show (dat st v).bind _ = _ from e)
    obtain ⟨y1, e2, e⟩ := Option.bind_eq_some_iff.mp e
    obtain ⟨z1, e3, e4⟩ := Option.map_eq_some_iff.mp e
    cases e4
    exact (join_ok r (r.reads rv e1) (r.reads rv' e2) e3 (PostV.data q)).2
  | upd => subst hx; exact pvMtL (g := rcvOk .upd) (k := mt1S .upd) hm PySem.F.plainAttrs_dict PySem.F.slot_dict_update PySem.F.type_dict_update mtd_upd hO ha (fun F φ st H u v r rv e => rcvDct r rv e) (fun F φ st H u w v v' z st' Q r rv rv' e q => upd_okV r rv rv' e q) (abOk_base hb) hs hl
  | starts =>
    subst hx
    refine pvMtS (g := rcvOk .starts) (k := mt1S .starts) hm PySem.F.slot_str_startswith PySem.F.type_str_startswith mt_startswith hO ha (fun F φ st H u v r rv e => rcvStr (.inr (.inl rfl)) r rv e) (fun F φ st H u w v v' z st' Q r rv rv' e q => ?_) (abOk_base hb) hs hl
    obtain ⟨x1, e1, e⟩ := Option.bind_eq_some_iff.mp (show (dat st v).bind _ = _ from e)
    obtain ⟨y1, e2, e⟩ := Option.bind_eq_some_iff.mp e
    obtain ⟨z1, e3, e4⟩ := Option.map_eq_some_iff.mp e
    cases e4
    exact starts_ok r (r.reads rv e1) (r.reads rv' e2) e3 (PostV.data q)
  | _ => exact absurd h1 (by decide)
theorem pe_none {X : Cx} {e : Expr} : PE X e (fun _ _ _ => False) := ⟨fun _ _ _ _ _ _ h => h.elim⟩
theorem mD_nil {sc : Scope} {es : Es} {pvs : List Expr} (h : mD G N sc es [] pvs = true) : es = .nil ∧ pvs = [] := by
  cases es with
  | nil =>
    unfold mD at h
    cases pvs with
    | nil => exact ⟨rfl, rfl⟩
    | cons _ _ => cases h
  | cons k es =>
    cases es with
    | nil => unfold mD at h; cases h
    | cons v r => unfold mD at h; cases h
/-- __init__ of a class is run where there is room for it -/
abbrev iniF (P : List Fn) (n : Nat) : CallF := if 2 ≤ n then ini P else noC
mutual
theorem sndE : ∀ (e : E) {X : Cx} {sc : Scope} {pe : Expr}, XW G CA n N sc X → mE G N sc e pe = true → PE X pe (TV X.K CA (evE (run G.P n) (iniF G.P n) e)) ∧ PT X pe (TB X.K CA (evE (run G.P n) (iniF G.P n) e))
  | .var i, X, sc, pe, W, h => by
    unfold mE at h
    split at h
    · rename_i x pos
      simp only [Bool.and_eq_true, decide_eq_true_eq] at h
      obtain ⟨d1, d2, _⟩ := noDbg_ok h.2
      have hv := visB_ok h.1.2
      rw [← W.hsc] at hv
      exact both (pvVar (i := i) (fun ρ st => by rw [evE] <;> rfl) (by rw [W.hN]; exact h.1.1) hv d1 d2) (fun _ => rfl)
    · cases h
  | .cst c, X, sc, pe, W, h => by
    unfold mE at h
    split at h
    · exact both (pvCst (fun ρ st => by rw [evE] <;> rfl) (cstOk_ok h)) (fun _ => rfl)
    · cases h
  | .glb x c, X, sc, pe, W, h => by
    unfold mE at h
    split at h
    · rename_i y pos
      simp only [Bool.and_eq_true, decide_eq_true_eq, List.any_eq_true] at h
      obtain ⟨⟨⟨rfl, h2⟩, h3⟩, ⟨x', c'⟩, h4, h5, h6⟩ := h
      dsimp only at h5 h6
      subst h5
      have := eqC_eq _ _ h6
      subst this
      obtain ⟨v, u, g1, g2, g3, _⟩ := W.cst _ _ h4
      exact both (pvGlb (fun ρ st => by rw [evE] <;> rfl) (W.gl h2) g1 g2 g3 (noDbg_ok h3).1) (fun _ => rfl)
    · cases h
  | .tup es, X, sc, pe, W, h => by
    unfold mE at h
    split at h
    · exact both (pvTup (fun ρ st => by rw [evE] <;> rfl) (sndEs es W h)) (fun _ => rfl)
    · cases h
  | .lst es, X, sc, pe, W, h => by
    unfold mE at h
    split at h
    · exact both (pvLst (fun ρ st => by rw [evE] <;> rfl) (sndEs es W h)) (fun _ => rfl)
    · cases h
  | .nlst es, X, sc, pe, W, h => by
    unfold mE at h
    split at h
    · exact both (pvNlst (fun ρ st => by rw [evE] <;> rfl) (sndEs es W h)) (fun _ => rfl)
    · cases h
  | .nadd a b, X, sc, pe, W, h => by
    unfold mE at h
    split at h
    · simp only [Bool.and_eq_true] at h
      exact both (pvNadd (fun ρ st => by rw [evE] <;> rfl) (sndE a W h.1).1 (sndE b W h.2).1) (fun _ => rfl)
    · cases h
  | .ndct es, X, sc, pe, W, h => by
    unfold mE at h
    split at h
    · rename_i pks pvs pos
      simp only [Bool.and_eq_true, decide_eq_true_eq] at h
      refine both ?_ (fun _ => rfl)
      cases pks with
      | nil =>
        obtain ⟨rfl, rfl⟩ := mD_nil h.2
        exact pvDisp0 (fun ρ st => by rw [evE] <;> rfl)
      | cons pk pks =>
        obtain ⟨g1, g2, g3⟩ := sndD es W h.2 (pos := pos)
        exact peWeak (pe_disp g1 g2 g3 (by simp) h.1) fun σ H Q hq => disp_ok (fun ρ st => by rw [evE] <;> rfl) hq
    · cases h
  | .ndc1 a, X, sc, pe, W, h => by
    unfold mE at h
    split at h
    · simp only [Bool.and_eq_true, decide_eq_true_eq] at h
      obtain ⟨⟨⟨⟨rfl, h2⟩, h3⟩, h4⟩, h5⟩ := h
      exact both (pvFnT (k := dicS) (fun ρ st => by rw [evE] <;> rfl) (cr_dic W.calm) PyProof.Rows.boot_dict (fun F φ st H u v z st' Q r rv e q => dic_ok r rv e q) (sndE a W h5).1 (W.gl h2) (W.bl h3) (by decide +kernel) (by decide +kernel) (fun es => starOne (okX_star h4) es)) (fun _ => rfl)
    · cases h
  | .ndcz a b, X, sc, pe, W, h => by
    unfold mE at h
    split at h
    · simp only [Bool.and_eq_true, decide_eq_true_eq] at h
      obtain ⟨⟨⟨⟨⟨⟨⟨⟨⟨⟨⟨⟨rfl, rfl⟩, rfl⟩, h4⟩, h5⟩, h6⟩, h7⟩, h8⟩, h9⟩, h10⟩, h11⟩, h12⟩, h13⟩ := h
      exact both (pvNdcz (fun ρ st => by rw [evE] <;> rfl) W.calm (W.gl h4) (W.bl h7) (W.gl h5) (W.bl h8) (W.gl h6) (W.bl h9) (sndE a W h12).1 (sndE b W h13).1 (okX_star h10) (okX_star h11)) (fun _ => rfl)
    · cases h
  | .bin o a b, X, sc, pe, W, h => by
    unfold mE at h
    split at h
    · rename_i pa po pb pos
      simp only [Bool.and_eq_true] at h
      have ha := (sndE a W h.1.2).1
      have hb := (sndE b W h.2).1
      refine both ?_ (fun _ => rfl)
      have hop := h.1.1
      unfold bopOk at hop
      split at hop
      · exact pvBin (o := .add) (fun ρ st => by rw [evE] <;> rfl) op_addA (fun F φ st H u w x y z Q r rx ry e q => add_ok r rx ry e q) ha hb
      · exact pvBin (o := .sub) (fun ρ st => by rw [evE] <;> rfl) op_sub (fun F φ st H u w x y z Q r rx ry e q => sub_ok r rx ry e q) ha hb
      · exact pvBin (o := .mul) (fun ρ st => by rw [evE] <;> rfl) op_mulA (fun F φ st H u w x y z Q r rx ry e q => mul_ok r rx ry e q) ha hb
      · exact pvBin (o := .fdiv) (fun ρ st => by rw [evE] <;> rfl) op_fdiv (fun F φ st H u w x y z Q r rx ry e q => fdiv_ok r rx ry e q) ha hb
      · exact pvBin (o := .mod) (fun ρ st => by rw [evE] <;> rfl) op_mod (fun F φ st H u w x y z Q r rx ry e q => mod_ok r rx ry e q) ha hb
      · cases hop
    · cases h
  | .neg a, X, sc, pe, W, h => by
    unfold mE at h
    split at h
    · exact both (pvNeg (fun ρ st => by rw [evE] <;> rfl) (sndE a W h).1) (fun _ => rfl)
    · cases h
  | .cmp o a b, X, sc, pe, W, h => by
    unfold mE at h
    split at h
    · rename_i pa po pb pos
      simp only [Bool.and_eq_true] at h
      have ha := (sndE a W h.1.2).1
      have hb := (sndE b W h.2).1
      have hm := fun op => okX_marks h.1.1.2 op
      have hop := h.1.1.1
      unfold copOk at hop
      split at hop
      · exact pvCmp (o := .eq) (fun ρ st => by rw [evE] <;> rfl) (op_eqA W.u150) (fun F φ st H u w x y z Q r rx ry e q => eq_ok r rx ry e q) ha hb (hm _)
      · refine pvCmp (o := .ne) (fun ρ st => by rw [evE] <;> rfl) (op_neA W.u150) (fun F φ st H u w x y z Q r rx ry e q => ?_) ha hb (hm _)
        obtain ⟨b', e1, rfl⟩ := Option.map_eq_some_iff.mp (show (eqD x y).map (!·) = some z from e)
        exact ne_ok r rx ry e1 q
      · exact pvCmp (o := .lt) (fun ρ st => by rw [evE] <;> rfl) op_lt (fun F φ st H u w x y z Q r rx ry e q => ord_ok r rx ry (.inl rfl) e q) ha hb (hm _)
      · exact pvCmp (o := .le) (fun ρ st => by rw [evE] <;> rfl) op_leA (fun F φ st H u w x y z Q r rx ry e q => le_ok r rx ry e q) ha hb (hm _)
      · exact pvCmp (o := .gt) (fun ρ st => by rw [evE] <;> rfl) op_gt (fun F φ st H u w x y z Q r rx ry e q => ord_ok r rx ry (.inr (.inl rfl)) e q) ha hb (hm _)
      · exact pvCmp (o := .ge) (fun ρ st => by rw [evE] <;> rfl) op_ge (fun F φ st H u w x y z Q r rx ry e q => ord_ok r rx ry (.inr (.inr rfl)) e q) ha hb (hm _)
      · exact pvIn (neg := false) (fun ρ st => by rw [evE] <;> rfl) W.u150 ha hb hm
      · exact pvIn (neg := true) (fun ρ st => by rw [evE] <;> rfl) W.u150 ha hb hm
      · cases hop
    · cases h
  | .chn o p a b c, X, sc, pe, W, h => by
    unfold mE at h
    split at h
    · rename_i pa po pp pb pc pos
      simp only [Bool.and_eq_true] at h
      have ha := (sndE a W h.1.1.2).1
      have hb := (sndE b W h.1.2).1
      have hc := (sndE c W h.2).1
      have hm := okX_marks h.1.1.1.2 pp
      have ok : ∀ (o : Cop) (po : CmpOp), ltLe o = true → copOk o po = true → ∃ r, OpR X (compareOp po) r ∧ ∀ F φ st H u w x y z Q, R X.K CA F φ st H → Rt X.K F H u x → Rt X.K F H w y → cmpD o x y = some z → PostD X.K CA F φ st H (.bool z) Q → r u w H Q := by
        intro o po hh h
        cases o <;> first | cases hh | skip
        · cases po <;> first | exact ⟨_, op_lt, fun F φ st H u w x y z Q r rx ry e q => ord_ok r rx ry (.inl rfl) e q⟩ | cases h
        · cases po <;> first | exact ⟨_, op_leA, fun F φ st H u w x y z Q r rx ry e q => le_ok r rx ry e q⟩ | cases h
      obtain ⟨r1, g1, g2⟩ := ok o po h.1.1.1.1.1.1.1 h.1.1.1.1.1.2
      obtain ⟨r2, g3, g4⟩ := ok p pp h.1.1.1.1.1.1.2 h.1.1.1.1.2
      exact pvChn (o := o) (o' := p) (fun ρ st => by rw [evE] <;> rfl) g1 g3 g2 g4 ha hb hc hm
    · cases h
  | .isn p a, X, sc, pe, W, h => by
    unfold mE at h
    split at h
    · simp only [Bool.and_eq_true] at h
      obtain ⟨rfl, h⟩ := h
      exact pvIsn (p := true) (fun ρ st => by rw [evE] <;> rfl) (sndE a W h).1
    · simp only [Bool.and_eq_true, Bool.not_eq_true'] at h
      obtain ⟨rfl, h⟩ := h
      exact pvIsn (p := false) (fun ρ st => by rw [evE] <;> rfl) (sndE a W h).1
    · cases h
  | .ix a b, X, sc, pe, W, h => by
    unfold mE at h
    split at h
    · simp only [Bool.and_eq_true] at h
      exact both (pvIx (fun ρ st => by rw [evE] <;> rfl) W.u1 (sndE a W h.1.2).1 (sndE b W h.2).1 (okX_ix h.1.1)) (fun _ => rfl)
    · cases h
  | .sl a lo hi, X, sc, pe, W, h => by
    unfold mE at h
    split at h
    · simp only [Bool.and_eq_true] at h
      exact both (pvSl (fun ρ st => by rw [evE] <;> rfl) (sndE a W h.1.1).1 (sndO lo W h.1.2) (sndO hi W h.2)) (fun _ => rfl)
    · cases h
  | .rev a, X, sc, pe, W, h => by
    unfold mE at h
    split at h
    · exact both (pvRev (fun ρ st => by rw [evE] <;> rfl) (sndE a W h).1) (fun _ => rfl)
    · cases h
  | .isi t a, X, sc, pe, W, h => by
    unfold mE at h
    split at h
    · simp only [Bool.and_eq_true, decide_eq_true_eq] at h
      obtain ⟨⟨⟨⟨⟨⟨⟨⟨rfl, rfl⟩, h3⟩, h4⟩, h5⟩, h6⟩, h7⟩, h8⟩, h9⟩ := h
      exact both (pvIsi (fun ρ st => by rw [evE] <;> rfl) h3 (sndE a W h9).1 (W.gl h4) (W.bl h6) (W.gl h5) (W.bl h7) (fun es => starOne (okX_star h8) es)) (fun _ => rfl)
    · cases h
  | .fn1 f a, X, sc, pe, W, h => by
    unfold mE at h
    rw [Bool.or_eq_true] at h
    rcases h with h | h
    case inr =>
      split at h
      · simp only [Bool.and_eq_true, decide_eq_true_eq, Bool.not_eq_true'] at h
        obtain ⟨⟨⟨⟨⟨⟨⟨⟨h1, h2⟩, rfl⟩, h4⟩, h5⟩, h6⟩, h7⟩, h8⟩, h9⟩ := h
        cases f with
        | lenset => subst h1; exact both (pvLenset (fun ρ st => by rw [evE] <;> rfl) W.calm (W.gl h4) (W.bl h5) (W.gl h6) (W.bl h7) (sndE a W h9).1 (okX_star h8)) (fun _ => rfl)
        | srtset => subst h1; exact both (pvSrtset (fun ρ st => by rw [evE] <;> rfl) W.calm (by have := W.u150; omega) (W.gl h4) (W.bl h5) (W.gl h6) (W.bl h7) (sndE a W h9).1 (okX_star h8)) (fun _ => rfl)
        | _ => exact absurd h2 (by decide)
      · cases h
    split at h
    · simp only [Bool.and_eq_true, decide_eq_true_eq, Bool.not_eq_true'] at h
      obtain ⟨⟨⟨⟨⟨h1, h2⟩, h4⟩, h5⟩, h6⟩, h7⟩ := h
      exact both (f1_ok W (fun ρ st => by rw [evE] <;> rfl) h1 h2 (W.gl h4) (W.bl h5) h6 (sndE a W h7).1) (fun _ => rfl)
    · cases h
  | .band a es, X, sc, pe, W, h => by
    unfold mE at h
    split at h
    · rename_i pa pes pos
      simp only [Bool.and_eq_true] at h
      obtain ⟨ha, ht⟩ := sndE a W h.1
      cases pes with
      | nil => cases es <;> simp [mEn] at h
      | cons pb pes =>
        have := pvAnd (m := evE (run G.P n) (iniF G.P n) (.band a es)) (fun ρ st => by rw [evE] <;> rfl) ha ht (sndAnd (pos := pos) es W h.2)
        exact ⟨this.1, this.2.pt⟩
    · cases h
  | .bor a es, X, sc, pe, W, h => by
    unfold mE at h
    split at h
    · rename_i pa pes pos
      simp only [Bool.and_eq_true] at h
      obtain ⟨ha, ht⟩ := sndE a W h.1
      cases pes with
      | nil => cases es <;> simp [mEn] at h
      | cons pb pes =>
        have := pvOr (m := evE (run G.P n) (iniF G.P n) (.bor a es)) (fun ρ st => by rw [evE] <;> rfl) ha ht (sndOr (pos := pos) es W h.2)
        exact ⟨this.1, this.2.pt⟩
    · cases h
  | .nt a, X, sc, pe, W, h => by
    unfold mE at h
    split at h
    · exact pvNot (fun ρ st => by rw [evE] <;> rfl) (sndE a W h).1 (sndE a W h).2
    · cases h
  | .call f es, X, sc, pe, W, h => by
    unfold mE at h
    split at h
    · rename_i x p pa pes pos
      simp only [Bool.and_eq_true] at h
      obtain ⟨⟨⟨h1, h2⟩, h3⟩, h4⟩ := h
      split at h1
      · rename_i d hd
        simp only [Bool.and_eq_true, decide_eq_true_eq, Option.isNone_iff_eq_none] at h1
        obtain ⟨⟨rfl, hcl⟩, hf⟩ := h1
        obtain ⟨fa, fd, g1, g2, g3, g4⟩ := W.fns f d hd hcl
        exact both (pvCall (fun ρ st => by rw [evE] <;> rfl) g4 hf W.room (W.gl h2) g1 g2 g3 (noDbg_ok h3).1 (sndEs es W h4) (mEs_star es h4)) (fun _ => rfl)
      · cases h1
    · cases h
  | .calln f es, X, sc, pe, W, h => by
    unfold mE at h
    split at h
    · rename_i x p pa pes pos
      simp only [Bool.and_eq_true] at h
      obtain ⟨⟨⟨h1, h2⟩, h3⟩, h4⟩ := h
      split at h1
      · rename_i d hd
        simp only [Bool.and_eq_true, decide_eq_true_eq, Option.isNone_iff_eq_none] at h1
        obtain ⟨⟨rfl, hcl⟩, hf⟩ := h1
        obtain ⟨fa, fd, g1, g2, g3, g4⟩ := W.fns f d hd hcl
        exact both (pvCalln (fun ρ st => by rw [evE] <;> rfl) g4 hf W.room (W.gl h2) g1 g2 g3 (noDbg_ok h3).1 (sndEs es W h4) (mEs_star es h4)) (fun _ => rfl)
      · cases h1
    · cases h
  | .meth o c nm f es, X, sc, pe, W, h => by
    unfold mE at h
    split at h
    · simp only [Bool.and_eq_true, decide_eq_true_eq] at h
      obtain ⟨⟨⟨⟨⟨⟨rfl, h2⟩, h3⟩, h4⟩, h5⟩, h6⟩, h7⟩ := h
      unfold hasMt at h2
      split at h2
      · rename_i k hk
        simp only [List.any_eq_true, Bool.and_eq_true, decide_eq_true_eq, beq_iff_eq] at h2
        obtain ⟨q, hq, rfl, rfl⟩ := h2
        obtain ⟨_, c2, _, c4, _⟩ := W.cls c k hk
        obtain ⟨m0, d, fa, fd, m1, m2, m3⟩ := c4 q hq
        refine both (pvMeth (fun ρ st => by rw [evE] <;> rfl) c2 m1 m3 m0 W.room m2 (sndE o W h6).1 (abOk2_base h3) (sndEs es W h7) (fun hn ρ st => ?_) (mEs_star es h7) h5 h4) (fun _ => rfl)
        subst hn
        cases es with
        | nil => rw [evEs]
        | cons e es => unfold mEs at h7; cases h7
      · cases h2
    · cases h
  | .make c f es, X, sc, pe, W, h => by
    unfold mE at h
    split at h
    · simp only [Bool.and_eq_true] at h
      obtain ⟨⟨⟨h1, h2⟩, h3⟩, h4⟩ := h
      unfold hasMk at h1
      split at h1
      · rename_i k hk
        simp only [Bool.and_eq_true, decide_eq_true_eq, beq_iff_eq] at h1
        obtain ⟨rfl, rfl⟩ := h1
        obtain ⟨c1, c2, c3, c4, c5⟩ := W.cls c k hk
        by_cases hn : 2 ≤ n
        · obtain ⟨m0, d, fa, fd, m1, m2, m3⟩ := c5 hn
          refine both (pvMake (C := ini G.P) (fun ρ st => ?_) m1 m3 m0 (W.room.mono hn) m2 (W.gl h2) c1 (noDbg_ok h3).1 (sndEs es W h4) (mEs_star es h4)) (fun _ => rfl)
          rw [evE, iniF, if_pos hn] <;> rfl
        · refine both (peWeak pe_none fun σ H Q ⟨F, φ, st, ρ, y, st', r, re, e, q⟩ => ?_) (fun _ => rfl)
          rw [evE, iniF, if_neg hn] at e
          obtain ⟨⟨vs, st1⟩, e1, e2⟩ := Option.bind_eq_some_iff.mp e
          cases e2
      · cases h1
    · cases h
  | .fld c o a, X, sc, pe, W, h => by
    unfold mE at h
    split at h
    · simp only [Bool.and_eq_true, decide_eq_true_eq] at h
      obtain ⟨⟨⟨rfl, h2⟩, h3⟩, h4⟩ := h
      unfold hasFld at h2
      split at h2
      · rename_i k hk
        simp only [List.any_eq_true, decide_eq_true_eq] at h2
        obtain ⟨x, hx, rfl⟩ := h2
        obtain ⟨_, c2, c3, _⟩ := W.cls c k hk
        exact both (pvFld (fun ρ st => by rw [evE] <;> rfl) c2 (c3 _ hx) (sndE o W h4).1 (abOk_base h3)) (fun _ => rfl)
      · cases h2
    · cases h
  | .mt1 m o a, X, sc, pe, W, h => by
    unfold mE at h
    rw [Bool.or_eq_true] at h
    rcases h with h | h
    case inr =>
      split at h
      · rename_i y yp x ap pa p
        simp only [Bool.and_eq_true, decide_eq_true_eq] at h
        obtain ⟨⟨⟨⟨⟨⟨⟨rfl, h2⟩, h3⟩, h4⟩, h5⟩, h6⟩, h7⟩, h8⟩ := h
        have hm : m = .index := by cases m <;> first | rfl | exact absurd h2 Bool.false_ne_true
        subst hm
        have ho : ∃ c, o = .glb y c := by
          unfold isGlb at h3
          split at h3
          · rename_i x' c'
            have := of_decide_eq_true h3
            subst this
            exact ⟨c', rfl⟩
          · exact absurd h3 Bool.false_ne_true
        obtain ⟨c, rfl⟩ := ho
        unfold mE at h7
        simp only [Bool.and_eq_true, decide_eq_true_eq, List.any_eq_true] at h7
        obtain ⟨⟨⟨_, k2⟩, k3⟩, ⟨x', c'⟩, k4, k5, k6⟩ := h7
        dsimp only at k5 k6
        subst k5
        have := eqC_eq _ _ k6
        subst this
        obtain ⟨v, u, g1, g2, g3, g4⟩ := W.cst _ _ k4
        exact both (pvIdx (fun ρ st => by rw [evE, evE] <;> rfl) (W.gl k2) g1 g2 g3 (noDbg_ok k3).1 g4 (sndE a W h8).1 (abOk_base h4) (fun es => starOne (okX_star h5) es) h6) (fun _ => rfl)
      · cases h
    split at h
    · simp only [Bool.and_eq_true, decide_eq_true_eq, Bool.not_eq_true'] at h
      obtain ⟨⟨⟨⟨⟨⟨h1, h2⟩, h3⟩, h4⟩, h5⟩, h6⟩, h7⟩ := h
      exact both (m1_ok (fun ρ st => by rw [evE] <;> rfl) h1 h2 h3 h4 h5 (sndE o W h6).1 (sndE a W h7).1) (fun _ => rfl)
    · cases h
  | .mt0 m o, X, sc, pe, W, h => by
    unfold mE at h
    split at h
    · simp only [Bool.and_eq_true, decide_eq_true_eq] at h
      obtain ⟨⟨⟨rfl, h2⟩, h3⟩, h4⟩ := h
      cases m
      exact both (pvMt0 (k := mt0S .pop) (fun ρ st => by rw [evE] <;> rfl) PySem.F.plainAttrs_list PySem.F.slot_list_pop PySem.F.type_list_pop mt_pop (sndE o W h4).1 (fun F φ st H u v z st' Q r rv e q => pop_okV r rv e q) (abOk_base h2) h3) (fun _ => rfl)
    · cases h
  | .get o k v, X, sc, pe, W, h => by
    unfold mE at h
    split at h
    · rename_i po x ap pk pv p
      simp only [Bool.and_eq_true, decide_eq_true_eq] at h
      obtain ⟨⟨⟨⟨⟨⟨⟨rfl, h2⟩, h3⟩, h4⟩, h5⟩, h6⟩, h7⟩, h8⟩ := h
      have s1 := fun es => starOne (env := X.env) (okX_star h3) es
      have s2 := fun es => starOne (env := X.env) (okX_star h4) es
      refine both (pvGet (fun ρ st => by rw [evE] <;> rfl) W.u1 (sndE o W h6).1 (sndE k W h7).1 (sndE v W h8).1 ⟨abOk_base h2, ?_, h5, ?_⟩) (fun _ => rfl)
      · rw [s1, s2]; rfl
      · rw [s1, s2]; rfl
    · cases h
  | .ptsi a, X, sc, pe, W, h => by
    unfold mE at h
    split at h
    · simp only [Bool.and_eq_true, decide_eq_true_eq] at h
      obtain ⟨⟨⟨⟨⟨⟨⟨⟨⟨rfl, rfl⟩, rfl⟩, h4⟩, h5⟩, h6⟩, h7⟩, h8⟩, h9⟩, h10⟩ := h
      exact both (pvPtsi (fun ρ st => by rw [evE] <;> rfl) W.calm (by have := W.u150; omega) (W.gl h4) (W.bl h5) (W.gl h6) (W.bl h7) (sndE a W h10).1 (abOk_base h8) h9) (fun _ => rfl)
    · cases h
  | .ndcp i, X, sc, pe, W, h => by
    unfold mE at h
    split at h
    · simp only [Bool.and_eq_true, decide_eq_true_eq] at h
      obtain ⟨⟨⟨⟨⟨rfl, h2⟩, h3⟩, h4⟩, h5⟩, h6⟩ := h
      obtain ⟨d1, d2, _⟩ := noDbg_ok h6
      have hv := visB_ok h5
      rw [← W.hsc] at hv
      refine both (pvNdcp (ma := evE (run G.P n) (iniF G.P n) (.var i)) (fun ρ st => ?_) W.calm (W.gl h2) (W.bl h3) (pvVar (i := i) (fun ρ st => by rw [evE] <;> rfl) (by rw [W.hN]; exact h4) hv d1 d2) rfl) (fun _ => rfl)
      rw [evE, evE]
      cases e : ρ[i]? with
      | none => rfl
      | some o =>
        cases o with
        | none => rfl
        | some v => rfl
    · cases h
  | .callv i es, X, sc, pe, W, h => by
    unfold mE at h
    split at h
    · rename_i x p pa pes pos
      simp only [Bool.and_eq_true, decide_eq_true_eq] at h
      obtain ⟨⟨⟨h1, h2⟩, h3⟩, h4⟩ := h
      obtain ⟨d1, d2, _⟩ := noDbg_ok h3
      have hv := visB_ok h2
      rw [← W.hsc] at hv
      refine both (pvCallv (fun ρ st => by rw [evE] <;> rfl) (fun f hf => ?_) W.room (by rw [W.hN]; exact h1) hv d1 d2 (sndEs es W h4) (mEs_star es h4)) (fun _ => rfl)
      obtain ⟨hlt, d, m, hd, hc⟩ := W.ckd f hf
      obtain ⟨e1, e2, e3, _⟩ := W.clo f d m hd hc
      refine ⟨e3, fun xs st y st' e => ?_⟩
      cases n with
      | zero => cases e
      | succ n =>
        have e : evF _ _ G.P f xs st = some (y, st') := e
        unfold evF at e
        rw [Nat.mod_eq_of_lt hlt, hd] at e
        dsimp only at e
        split at e
        · rename_i hl
          rw [hl, e1, List.length_append]
        · cases e
    · cases h
  | .comp elt tg it cond, X, sc, pe, W, h => by
    unfold mE at h
    split at h
    · rename_i pelt ptg pit pifs scope pos
      simp only [Bool.and_eq_true, decide_eq_true_eq] at h
      obtain ⟨⟨⟨⟨⟨h1, h2⟩, h3⟩, h4⟩, h5⟩, h6⟩ := h
      have bk : BlkOk X.N X.env.scope scope (tgNames N tg) := by rw [W.hN, W.hsc]; exact blkOk_by h2
      simp only [Bool.or_eq_true] at h1
      rcases h1 with h1 | h1
      · have hI := sndI it (ptg := ptg) W h1
        refine both (pvComp (tgt := tg) (mi := evI (run G.P n) (iniF G.P n) it) (mt := evC (run G.P n) (iniF G.P n) cond) (me := evE (run G.P n) (iniF G.P n) elt) (pure? := pureE elt && pureO cond) (fun ρ st => by rw [evE] <;> rfl) (fun hp => pureF_st hp) W.calm (by rw [W.hN]; exact W.nd) hI.1 bk h3
          (fun s H C cl fp => ?_) (fun s H C cl fp => ?_) (fun s H C cl fp => ?_) hI.2) (fun _ => rfl)
        · exact mTg_ok (X := X.blk s H scope (compEnvC scope cl C X.env) fp) W.hN W.nd W.calm (wrBlk s H C cl fp scope) h4
        · exact sndC cond (W.blk s H C cl fp) h6
        · exact (sndE elt (W.blk s H C cl fp) h5).1
      · obtain ⟨ma, k1, k2, k3⟩ := sndK it W h1
        refine both (pvCompK (tgt := tg) (ma := ma) (mt := evC (run G.P n) (iniF G.P n) cond) (me := evE (run G.P n) (iniF G.P n) elt) (pure? := pureE elt && pureO cond) (fun ρ st => by rw [evE, k2] <;> rfl) (fun hp => pureF_st hp) W.calm (by rw [W.hN]; exact W.nd) k1 bk h3
          (fun s H C cl fp => ?_) (fun s H C cl fp => ?_) (fun s H C cl fp => ?_) k3) (fun _ => rfl)
        · exact mTg_ok (X := X.blk s H scope (compEnvC scope cl C X.env) fp) W.hN W.nd W.calm (wrBlk s H C cl fp scope) h4
        · exact sndC cond (W.blk s H C cl fp) h6
        · exact (sndE elt (W.blk s H C cl fp) h5).1
    · cases h
theorem sndK : ∀ (it : Iv) {X : Cx} {sc : Scope} {pe : Expr}, XW G CA n N sc X → mK G N sc it pe = true → ∃ ma : Mv, PE X pe (TV X.K CA ma) ∧ (∀ ρ st, evI (run G.P n) (iniF G.P n) it ρ st = (ma ρ st).bind fun p => (keysOf p.1).map fun q => ((q, true), p.2)) ∧ ∀ x, foldedSetIterable pe X.env x = pure x
  | .keys e, X, sc, pe, W, h => by
    unfold mK at h
    simp only [Bool.and_eq_true] at h
    exact ⟨_, (sndE e W h.2).1, fun ρ st => by rw [evI] <;> rfl, okX_set h.1⟩
  | .seq _, X, sc, pe, W, h => by unfold mK at h; cases h
  | .rng _ _ _, X, sc, pe, W, h => by unfold mK at h; cases h
  | .enm _, X, sc, pe, W, h => by unfold mK at h; cases h
  | .zip _ _, X, sc, pe, W, h => by unfold mK at h; cases h
theorem sndEs : ∀ (es : Es) {X : Cx} {sc : Scope} {pes : List Expr}, XW G CA n N sc X → mEs G N sc es pes = true → PA X pes (TL X.K CA (evEs (run G.P n) (iniF G.P n) es))
  | .nil, X, sc, pes, W, h => by
    unfold mEs at h
    split at h
    · exact pvNil (fun ρ st => by rw [evEs] <;> rfl)
    · cases h
  | .cons e es, X, sc, pes, W, h => by
    unfold mEs at h
    split at h
    · simp only [Bool.and_eq_true] at h
      exact pvCons (fun ρ st => by rw [evEs] <;> rfl) (sndE e W h.1.2).1 (sndEs es W h.2) (starOne (okX_star h.1.1) _)
    · cases h
theorem sndEz : ∀ (es : Es) {X : Cx} {sc : Scope} {pes : List Expr}, XW G CA n N sc X → mEs G N sc es pes = true → PAz X pes (TL X.K CA (evEs (run G.P n) (iniF G.P n) es))
  | .nil, X, sc, pes, W, h => by
    unfold mEs at h
    split at h
    · exact pzNil (fun ρ st => by rw [evEs] <;> rfl)
    · cases h
  | .cons e es, X, sc, pes, W, h => by
    unfold mEs at h
    split at h
    · simp only [Bool.and_eq_true] at h
      exact pzCons (fun ρ st => by rw [evEs] <;> rfl) (sndE e W h.1.2).1 (sndEz es W h.2) (starOne (okX_star h.1.1) _)
    · cases h
theorem sndD : ∀ (es : Es) {X : Cx} {sc : Scope} {pks : List (Option Expr)} {pvs : List Expr} {pos : Pos}, XW G CA n N sc X → mD G N sc es pks pvs = true → PPs X pos pks pvs (trsOf X.K CA (run G.P n) (iniF G.P n) es) ∧ pks.all (·.isSome) = true ∧ pks.length = pvs.length
  | .nil, X, sc, pks, pvs, pos, W, h => by
    unfold mD at h
    split at h
    · exact ⟨pps_nil, rfl, rfl⟩
    · cases h
  | .cons _ .nil, X, sc, pks, pvs, pos, W, h => by unfold mD at h; cases h
  | .cons k (.cons v r), X, sc, pks, pvs, pos, W, h => by
    unfold mD at h
    split at h
    · simp only [Bool.and_eq_true] at h
      obtain ⟨g1, g2, g3⟩ := sndD r W h.2 (pos := pos)
      refine ⟨pps_cons (sndE k W h.1.1).1 (sndE v W h.1.2).1 g1, ?_, ?_⟩
      · rw [List.all_cons, g2]; rfl
      · rw [List.length_cons, List.length_cons, g3]
    · cases h
theorem sndAnd : ∀ (es : Es) {X : Cx} {sc : Scope} {pe : Expr} {pes : List Expr} {pos : Pos}, XW G CA n N sc X → mEn G N sc es (pe :: pes) = true → PE X (.BoolOp .And (pe :: pes) pos) (TV X.K CA (evAnd (run G.P n) (iniF G.P n) es)) ∧ PW X (.BoolOp .And (pe :: pes) pos) (TB X.K CA (evAnd (run G.P n) (iniF G.P n) es))
  | .nil, X, sc, pe, pes, pos, W, h => by unfold mEn at h; cases h
  | .cons e es, X, sc, pe, pes, pos, W, h => by
    cases pes with
    | nil =>
      unfold mEn at h
      simp only [Bool.and_eq_true] at h
      cases es with
      | cons e2 es2 => cases h.1
      | nil =>
        obtain ⟨ha, ht⟩ := sndE e W h.2
        have := pvOne (pos := pos) (op := .And) ha ht
        have eq : evAnd (run G.P n) (iniF G.P n) (.cons e .nil) = evE (run G.P n) (iniF G.P n) e := by
          funext ρ st
          rw [evAnd]
          cases evE (run G.P n) (iniF G.P n) e ρ st <;> rfl
        rw [eq]; exact this
    | cons pb pes =>
      unfold mEn at h
      simp only [Bool.and_eq_true] at h
      obtain ⟨ha, ht⟩ := sndE e W h.1
      cases es with
      | nil => simp [mEn] at h
      | cons e2 es2 => exact pvAnd (fun ρ st => by rw [evAnd] <;> rfl) ha ht (sndAnd (.cons e2 es2) W h.2)
theorem sndOr : ∀ (es : Es) {X : Cx} {sc : Scope} {pe : Expr} {pes : List Expr} {pos : Pos}, XW G CA n N sc X → mEn G N sc es (pe :: pes) = true → PE X (.BoolOp .Or (pe :: pes) pos) (TV X.K CA (evOr (run G.P n) (iniF G.P n) es)) ∧ PW X (.BoolOp .Or (pe :: pes) pos) (TB X.K CA (evOr (run G.P n) (iniF G.P n) es))
  | .nil, X, sc, pe, pes, pos, W, h => by unfold mEn at h; cases h
  | .cons e es, X, sc, pe, pes, pos, W, h => by
    cases pes with
    | nil =>
      unfold mEn at h
      simp only [Bool.and_eq_true] at h
      cases es with
      | cons e2 es2 => cases h.1
      | nil =>
        obtain ⟨ha, ht⟩ := sndE e W h.2
        have := pvOne (pos := pos) (op := .Or) ha ht
        have eq : evOr (run G.P n) (iniF G.P n) (.cons e .nil) = evE (run G.P n) (iniF G.P n) e := by
          funext ρ st
          rw [evOr]
          cases evE (run G.P n) (iniF G.P n) e ρ st <;> rfl
        rw [eq]; exact this
    | cons pb pes =>
      unfold mEn at h
      simp only [Bool.and_eq_true] at h
      obtain ⟨ha, ht⟩ := sndE e W h.1
      cases es with
      | nil => simp [mEn] at h
      | cons e2 es2 => exact pvOr (fun ρ st => by rw [evOr] <;> rfl) ha ht (sndOr (.cons e2 es2) W h.2)
theorem sndO : ∀ (o : Oe) {X : Cx} {sc : Scope} {pe : Option Expr}, XW G CA n N sc X → mO G N sc o pe = true → PO X pe (TOo X.K CA (evO (run G.P n) (iniF G.P n) o))
  | .none, X, sc, pe, W, h => by
    unfold mO at h
    split at h
    · exact poNone (fun ρ st => by rw [evO] <;> rfl)
    · cases h
  | .some e, X, sc, pe, W, h => by
    unfold mO at h
    split at h
    · exact poSome (fun ρ st => by rw [evO] <;> rfl) (sndE e W h).1
    · cases h
theorem sndC : ∀ (o : Oe) {X : Cx} {sc : Scope} {pe : List Expr}, XW G CA n N sc X → mC G N sc o pe = true → PTs X pe (TCt X.K CA (evC (run G.P n) (iniF G.P n) o))
  | .none, X, sc, pe, W, h => by
    unfold mC at h
    split at h
    · exact ptsNil (fun ρ st => by rw [evC] <;> rfl)
    · cases h
  | .some e, X, sc, pe, W, h => by
    unfold mC at h
    split at h
    · exact ptsOne (fun ρ st => by rw [evC] <;> rfl) (sndE e W h).2
    · cases h
theorem sndI : ∀ (it : Iv) {X : Cx} {sc : Scope} {ptg pe : Expr}, XW G CA n N sc X → mI G N sc ptg it pe = true → PI X ptg pe (TIv X.K CA (evI (run G.P n) (iniF G.P n) it)) ∧ ∀ x, foldedSetIterable pe X.env x = pure x
  | .seq e, X, sc, ptg, pe, W, h => by
    unfold mI at h
    simp only [Bool.and_eq_true] at h
    exact ⟨piSeq (fun ρ st => by rw [evI] <;> rfl) (sndE e W h.2).1, okX_set h.1⟩
  | .keys _, X, sc, ptg, pe, W, h => by unfold mI at h; cases h
  | .rng .none .none e, X, sc, ptg, pe, W, h => by
    unfold mI at h
    split at h
    · simp only [Bool.and_eq_true, decide_eq_true_eq] at h
      obtain ⟨⟨⟨⟨rfl, h2⟩, h3⟩, h4⟩, h5⟩ := h
      exact ⟨piRng (fun ρ st => by rw [evI] <;> rfl) (sndE e W h5).1 (okX_star h4) (W.gl h2) (W.bl h3), fun _ => rfl⟩
    · cases h
  | .rng (.some a) .none e, X, sc, ptg, pe, W, h => by
    unfold mI at h
    split at h
    · simp only [Bool.and_eq_true, decide_eq_true_eq] at h
      obtain ⟨⟨⟨⟨⟨⟨rfl, h2⟩, h3⟩, h4⟩, h5⟩, h6⟩, h7⟩ := h
      exact ⟨piRng2 (fun ρ st => by rw [evI] <;> rfl) (sndE a W h6).1 (sndE e W h7).1 (okX_star h4) (okX_star h5) (W.gl h2) (W.bl h3), fun _ => rfl⟩
    · cases h
  | .rng .none (.some _) _, X, sc, ptg, pe, W, h => by unfold mI at h; cases h
  | .rng (.some _) (.some _) _, X, sc, ptg, pe, W, h => by unfold mI at h; cases h
  | .enm e, X, sc, ptg, pe, W, h => by
    unfold mI at h
    split at h
    · simp only [Bool.and_eq_true, decide_eq_true_eq] at h
      obtain ⟨⟨⟨⟨⟨rfl, h2⟩, h3⟩, h4⟩, h5⟩, h6⟩ := h
      split at h6
      · exact ⟨piEnm (fun ρ st => by rw [evI] <;> rfl) (sndE e W h5).1 (okX_star h4) (W.gl h2) (W.bl h3), fun _ => rfl⟩
      · cases h6
    · cases h
  | .zip a b, X, sc, ptg, pe, W, h => by
    unfold mI at h
    split at h
    · simp only [Bool.and_eq_true, decide_eq_true_eq] at h
      obtain ⟨⟨⟨⟨⟨⟨⟨rfl, h2⟩, h3⟩, h4⟩, h5⟩, h6⟩, h7⟩, h8⟩ := h
      split at h8
      · exact ⟨piZip (fun ρ st => by rw [evI] <;> rfl) (sndE a W h6).1 (sndE b W h7).1 (okX_star h4) (okX_star h5) (W.gl h2) (W.bl h3), fun _ => rfl⟩
      · cases h8
    · cases h
theorem mEs_star : ∀ (es : Es) {sc : Scope} {pes : List Expr}, mEs G N sc es pes = true → pes.all notStar = true
  | .nil, sc, pes, h => by
    unfold mEs at h
    split at h
    · rfl
    · cases h
  | .cons e es, sc, pes, h => by
    unfold mEs at h
    split at h
    · simp only [Bool.and_eq_true] at h
      rw [List.all_cons, okX_star h.1.1, mEs_star es h.2]
      rfl
    · cases h
end
end
end Tw
set_option Elab.async false
set_option linter.all false
set_option maxRecDepth 100000
set_option maxHeartbeats 8000000
/-! C12: statements, defs, the law. -/
namespace Tw
open PySem L2 LamX NdefX
section
variable {G : SI} {CA : CAT} {n : Nat} {N : List Str}
theorem mE_lc {sc : Scope} {e : E} {a : Expr} {gs : List Comprehension} {s : Scope} {p : Pos} (h : mE G N sc e (.ListComp a gs s p) = true) : ∃ elt tg it cond, e = .comp elt tg it cond := by
  cases e <;> first | exact ⟨_, _, _, _, rfl⟩ | (unfold mE at h; cases h)
theorem swLc {a : Expr} {gs : List Comprehension} {s : Scope} {p py : Pos} {y : Str} {l : Nat} {env : Env} (hk : env.scope.kind = .function) (hy : env.scope.names.lookup y = some .local) (hl : (py.line == p.line) = true)
    (ha : (s.names.any fun (n, k) => n == y && (k == .local || k == .cell)) = false) : swapsWith (.ListComp a gs s p) (some (.Name y py)) l env = pure true := sw_true hk hy hl ha
theorem swLcF {a : Expr} {gs : List Comprehension} {s : Scope} {p py : Pos} {y : Str} {l : Nat} {env : Env} (hy : env.scope.names.lookup y = some .cell) : swapsWith (.ListComp a gs s p) (some (.Name y py)) l env = pure false := by
  have e : (env.kindOf y == some .local) = false := by
    show (env.scope.names.lookup y == some .local) = false
    rw [hy]; rfl
  unfold swapsWith
  simp [e]
theorem mkOk {X : Cx} {sc : Scope} {j k : Nat} (W : XW G CA n N sc X) (cr : Crt G CA X) (h : G.me = some (j, k)) : capN G k = (CA.cw k).fr ∧ CA.ck k = true := by
  obtain ⟨d, m, h1, h2⟩ := cr.has j k h
  exact ⟨capN_ok W h1 h2, (W.clo k d m h1 h2).2.2.2⟩
theorem sndRd {X : Cx} {sc : Scope} {s : S} {ss : Ss} {ps : List Stmt} (W : XW G CA n N sc X) (wr : Wr X sc) (cr : Crt G CA X) (mk : hasMks (.cons s ss) = true → ∀ p ∈ ps, Mks G CA X p) (h : mRd G N sc s ss ps = true) : PSs X ps (TSv X.K CA (evSs (run G.P n) (iniF G.P n) (.cons s ss))) := by
  unfold mRd at h
  split at h
  case h_2 => cases h
  rename_i f es j k js i name params body scope name2 dpos x p pes cpos pos
  simp only [Bool.and_eq_true, decide_eq_true_eq, Bool.not_eq_true'] at h
  obtain ⟨⟨⟨⟨⟨⟨⟨⟨⟨⟨⟨⟨⟨h0, hl⟩, h1⟩, h2⟩, h3⟩, h4⟩, h5⟩, h6⟩, h7⟩, h8⟩, h9⟩, h10⟩, h11⟩, h12⟩ := h
  subst h0
  obtain ⟨np, hl⟩ : ∃ np, pes.getLast? = some (.Name name2 np) := by
    split at hl
    · rename_i y np he
      have := of_decide_eq_true hl
      subst this
      exact ⟨np, he⟩
    · cases hl
  obtain ⟨t1, t2, t3⟩ := cr.ok j k h5
  obtain ⟨w1, w2⟩ := mk rfl _ (List.mem_cons_self ..) j k h5 name2 params (.stmts body) scope rfl
  rw [last_app hl]
  unfold callOk at h1
  split at h1
  case h_2 => cases h1
  rename_i d hd
  simp only [Bool.and_eq_true, decide_eq_true_eq, Option.isNone_iff_eq_none] at h1
  obtain ⟨⟨rfl, hcl⟩, hf⟩ := h1
  obtain ⟨fa, fd, g1, g2, g3, g4⟩ := W.fns f d hd hcl
  obtain ⟨_, p2, p3, p4⟩ := plain_def (env := X.env) h6
  have hcw := mkOk W cr h5
  rw [hcw.1] at h7 h8
  rw [← W.hsc] at h7
  rw [← W.hN] at h8
  obtain ⟨l1, l2⟩ := wr name2 h10
  obtain ⟨d1, d2, _⟩ := noDbg_ok h11
  refine pssRetd (i := i) (fun ρ st => ?_) g4 hf W.room (W.gl h2) g1 g2 g3 (noDbg_ok h3).1 (sndEz es W h4) (mEs_star (CA := CA) (n := n) es h4) (by rw [W.hN]; exact W.nd) (by rw [W.hN]; exact h9) l1 d1 d2 t1 t2 w1 w2 t3 hcw.2 p2 p3 p4 h7 h8 (by simpa using h12)
  rw [evSs, evS]
  split
  · cases evEs (run G.P n) (iniF G.P n) es ρ st with
    | none => rfl
    | some q =>
      show Option.bind (Option.map _ (retlS _ _ _ _ _ q.1 q.2)) _ = Option.map _ (retlS _ _ _ _ _ q.1 q.2)
      cases retlS (run G.P n) f j k (capD ρ js) q.1 q.2 <;> rfl
  · rfl
theorem noMks {ss : Ss} {p : Prop} (h : (!hasMks ss) = true) : hasMks ss = true → p := fun z => by rw [z] at h; cases h
mutual
theorem sndS : ∀ (s : S) {X : Cx} {sc : Scope} {ps : Stmt}, XW G CA n N sc X → Wr X sc → PassesOwn (model X.prog X.w) X.A X.env X.xe → X.env.scope.kind = .function → Crt G CA X → (isMk s = true → Mks G CA X ps) → mS G N sc s ps = true → PS X ps (TSv X.K CA (evS (run G.P n) (iniF G.P n) s))
  | .asg i e, X, sc, ps, W, wr, hp, hk, cr, mk, h => by
    unfold mS at h
    split at h
    · rename_i x px pe pos
      simp only [Bool.and_eq_true, decide_eq_true_eq] at h
      obtain ⟨⟨⟨⟨h1, h2⟩, h3⟩, h4⟩, h5⟩ := h
      obtain ⟨w1, w2⟩ := wr x h2
      cases hpe : noLc pe with
      | true => exact psAsg (fun ρ st => by rw [evS] <;> rfl) (by rw [W.hN]; exact W.nd) (by rw [W.hN]; exact h1) w1 (sndE e W h3).1 (noLc_swap hpe) w2
      | false =>
        cases hcel : isCel sc x with
        | true =>
          have hcl : X.env.scope.names.lookup x = some .cell := by
            rw [W.hsc]
            unfold isCel at hcel
            split at hcel
            · assumption
            · cases hcel
          refine psAsg (fun ρ st => by rw [evS] <;> rfl) (by rw [W.hN]; exact W.nd) (by rw [W.hN]; exact h1) w1 (sndE e W h3).1 ?_ w2
          cases pe with
          | ListComp pelt gs scope pp => exact swLcF hcl
          | _ => first | (cases hpe; done) | (cases h4; done)
        | false =>
        rw [hcel] at h5
        cases pe with
        | ListComp pelt gs scope pp =>
          obtain ⟨elt, tg, it, cond, rfl⟩ := mE_lc h3
          unfold mE at h3
          split at h3
          · rename_i pelt' ptg pit pifs scope' pos' hq
            cases hq
            simp only [Bool.false_or, Bool.and_eq_true, decide_eq_true_eq, Bool.not_eq_true'] at h3 h5
            obtain ⟨⟨⟨⟨⟨k1, k2⟩, k3⟩, k4⟩, k5⟩, k6⟩ := h3
            obtain ⟨⟨⟨j0, j1⟩, j2⟩, j3⟩ := h5
            have k1 : mI G N sc ptg it pit = true := by
              simp only [Bool.or_eq_true] at k1
              rcases k1 with k1 | k1
              · exact k1
              · cases it <;> first | (unfold mK at k1; cases k1; done) | cases j0
            have hI := sndI it  (ptg := ptg) W k1
            have bk : BlkOk X.N X.env.scope scope (tgNames N tg) := by rw [W.hN, W.hsc]; exact blkOk_by k2
            have hloc : X.env.scope.names.lookup x = some .local := by
              rw [W.hsc]
              unfold isLoc at j1
              split at j1
              · assumption
              · cases j1
            refine psAsgLc (ma := evE (run G.P n) (iniF G.P n) (.comp elt tg it cond)) (tgt := tg) (mi := evI (run G.P n) (iniF G.P n) it) (mt := evC (run G.P n) (iniF G.P n) cond) (me := evE (run G.P n) (iniF G.P n) elt) (pure? := pureE elt && pureO cond) (fun ρ st => by rw [evS] <;> rfl) (fun ρ st => by rw [evE] <;> rfl) (fun hp => pureF_st hp) W.calm
              (by rw [W.hN]; exact W.nd) (by rw [W.hN]; exact h1) hloc (swLc hk hloc j2 j3) hI.1 bk k3 (fun s H C cl fp => ?_) (fun s H C cl fp => ?_) (fun s H C cl fp => ?_) hI.2
            · exact mTg_ok (X := X.blk s H scope (compEnvC scope cl C X.env) fp) W.hN W.nd W.calm (wrBlk s H C cl fp scope) k4
            · exact sndC cond (W.blk s H C cl fp) k6
            · exact (sndE elt (W.blk s H C cl fp) k5).1
          · cases h3
        | _ => first | (cases hpe; done) | (cases h4; done)
    · cases h
  | .unp is e, X, sc, ps, W, wr, hp, hk, cr, mk, h => by
    unfold mS at h
    split at h
    · rename_i es k tp pe pos
      simp only [Bool.and_eq_true] at h
      obtain ⟨⟨⟨h1, h2⟩, h3⟩, h4⟩ := h
      obtain ⟨a1, a2⟩ := mNs_nm h1
      refine psUnp (fun ρ st => by rw [evS] <;> rfl) (sndE e W h4).1 (pgTp W.calm (mNs_ok W.hN W.nd wr h1) a1 a2) (show swapsWith pe (some (.Tuple es k tp)) pos.line X.env = pure false from noLc_swap h2) ?_
      cases pe <;> first | rfl | cases h3
    · cases h
  | .seti o k v, X, sc, ps, W, wr, hp, hk, cr, mk, h => by
    unfold mS at h
    split at h
    · simp only [Bool.and_eq_true] at h
      obtain ⟨⟨⟨h1, h2⟩, h3⟩, h4⟩ := h
      exact psSeti (fun ρ st => by rw [evS] <;> rfl) W.u1 (sndE v W h4).1 (sndE o W h2).1 (sndE k W h3).1 (noLc_swap h1)
    · cases h
  | .setf c o a e, X, sc, ps, W, wr, hp, hk, cr, mk, h => by
    unfold mS at h
    split at h
    · simp only [Bool.and_eq_true, decide_eq_true_eq] at h
      obtain ⟨⟨⟨⟨rfl, h2⟩, h3⟩, h4⟩, h5⟩ := h
      unfold hasFld at h2
      split at h2
      · rename_i k hkk
        simp only [List.any_eq_true, decide_eq_true_eq] at h2
        obtain ⟨x, hx, rfl⟩ := h2
        obtain ⟨_, c2, c3, _⟩ := W.cls c k hkk
        exact psSetf (fun ρ st => by rw [evS] <;> rfl) c2 (c3 _ hx) (sndE e W h5).1 (sndE o W h4).1 (noLc_swap h3)
      · cases h2
    · cases h
  | .setl c o a, X, sc, ps, W, wr, hp, hk, cr, mk, h => by
    unfold mS at h
    split at h
    · simp only [Bool.and_eq_true, decide_eq_true_eq, Bool.not_eq_true', decide_eq_false_iff_not] at h
      obtain ⟨⟨⟨rfl, h2⟩, h3⟩, h4⟩ := h
      unfold hasFld at h2
      split at h2
      · rename_i k hkk
        simp only [List.any_eq_true, decide_eq_true_eq] at h2
        obtain ⟨x, hx, rfl⟩ := h2
        obtain ⟨_, c2, c3, _⟩ := W.cls c k hkk
        exact psSetl (fun ρ st => by rw [evS] <;> rfl) c2 (c3 _ hx) h3 (sndE o W h4).1
      · cases h2
    · cases h
  | .frz _, X, sc, ps, W, wr, hp, hk, cr, mk, h => by unfold mS at h; cases h
  | .exp e, X, sc, ps, W, wr, hp, hk, cr, mk, h => by
    unfold mS at h
    split at h
    · simp only [Bool.and_eq_true] at h
      exact psExp (fun ρ st => by rw [evS] <;> rfl) (sndE e W h.2).1 (noLc_swap h.1)
    · cases h
  | .ret e, X, sc, ps, W, wr, hp, hk, cr, mk, h => by
    unfold mS at h
    split at h
    · exact psRet (fun ρ st => by rw [evS] <;> rfl) (sndE e W h).1
    · cases h
  | .retN, X, sc, ps, W, wr, hp, hk, cr, mk, h => by
    unfold mS at h
    split at h
    · exact psRetN (fun ρ st => by rw [evS] <;> rfl)
    · cases h
  | .retd _ _ _ _ _ _, X, sc, ps, W, wr, hp, hk, cr, mk, h => by unfold mS at h; cases h
  | .retl f es j k js, X, sc, ps, W, wr, hp, hk, cr, mk, h => by
    unfold mS at h
    split at h
    case h_2 => cases h
    rename_i x p pes cpos pos
    split at h
    case h_2 => cases h
    rename_i params body scope lpos hl
    simp only [Bool.and_eq_true, decide_eq_true_eq] at h
    obtain ⟨⟨⟨⟨⟨⟨⟨h1, h2⟩, h3⟩, h4⟩, h5⟩, h6⟩, h7⟩, h8⟩ := h
    obtain ⟨t1, t2, t3⟩ := cr.ok j k h5
    have hlam : lamIn (.Return (some (.Call (.Name x p) pes [] cpos)) pos) = some (Str.ofString "<lambda>", params, FuncBody.expr body, scope) := by
      simp only [lamIn, hl]
    obtain ⟨w1, w2⟩ := mk rfl j k h5 _ _ _ _ hlam
    rw [last_app hl]
    unfold callOk at h1
    split at h1
    case h_2 => cases h1
    rename_i d hd
    simp only [Bool.and_eq_true, decide_eq_true_eq, Option.isNone_iff_eq_none] at h1
    obtain ⟨⟨rfl, hcl⟩, hf⟩ := h1
    obtain ⟨fa, fd, g1, g2, g3, g4⟩ := W.fns f d hd hcl
    obtain ⟨p1, _, _, _⟩ := plain_def (env := X.env) h6
    have hcw : capN G k = (CA.cw k).fr ∧ CA.ck k = true := mkOk W cr h5
    rw [hcw.1] at h7 h8
    rw [← W.hsc] at h7
    rw [← W.hN] at h8
    exact psRet (fun ρ st => by rw [evS]; show _ = Option.map _ (Option.bind _ _); rw [Option.map_bind]; congr 1; funext q; simp [Function.comp_def, Option.map_map]) (peRetl (fun ρ st => rfl) g4 hf W.room (W.gl h2) g1 g2 g3 (noDbg_ok h3).1 (sndEz es W h4) (mEs_star (CA := CA) (n := n) es h4) t1 t2 w1 w2 t3 hcw.2 p1 h7 h8)
  | .ite c a b, X, sc, ps, W, wr, hp, hk, cr, mk, h => by
    unfold mS at h
    split at h
    · simp only [Bool.and_eq_true] at h
      exact psIte (fun ρ st => by rw [evS] <;> rfl) (sndE c W h.1.1).2 (sndSs a W wr hp hk cr (noMks h.1.2.1) h.1.2.2) (sndSs b W wr hp hk cr (noMks h.2.1) h.2.2)
    · cases h
  | .fors tg it b, X, sc, ps, W, wr, hp, hk, cr, mk, h => by
    unfold mS at h
    split at h
    · simp only [Bool.and_eq_true] at h
      obtain ⟨⟨⟨h1, h2⟩, h3⟩, h4⟩ := h
      have hI := sndI it  W h2
      exact psFor (fun ρ st => by rw [evS] <;> rfl) hp W.calm hI.1 (mTg_ok W.hN W.nd W.calm wr h3) (sndSs b W wr hp hk cr (noMks h4.1) h4.2) hI.2
    · cases h
  | .whl k c b, X, sc, ps, W, wr, hp, hk, cr, mk, h => by
    unfold mS at h
    split at h
    · simp only [Bool.and_eq_true] at h
      exact psWhl (fun ρ st => by rw [evS] <;> rfl) hp (sndE c W h.1).2 (sndSs b W wr hp hk cr (noMks h.2.1) h.2.2)
    · cases h
  | .brk, X, sc, ps, W, wr, hp, hk, cr, mk, h => by
    unfold mS at h
    split at h
    · exact psSimple (fun ρ st => by rw [evS] <;> rfl) (.inr (.inl ⟨rfl, rfl⟩))
    · cases h
  | .cnt, X, sc, ps, W, wr, hp, hk, cr, mk, h => by
    unfold mS at h
    split at h
    · exact psSimple (fun ρ st => by rw [evS] <;> rfl) (.inr (.inr ⟨rfl, rfl⟩))
    · cases h
  | .pas, X, sc, ps, W, wr, hp, hk, cr, mk, h => by
    unfold mS at h
    split at h
    · exact psSimple (fun ρ st => by rw [evS] <;> rfl) (.inl ⟨rfl, rfl⟩)
    · cases h
theorem sndSs : ∀ (ss : Ss) {X : Cx} {sc : Scope} {ps : List Stmt}, XW G CA n N sc X → Wr X sc → PassesOwn (model X.prog X.w) X.A X.env X.xe → X.env.scope.kind = .function → Crt G CA X → (hasMks ss = true → ∀ p ∈ ps, Mks G CA X p) → mSs G N sc ss ps = true → PSs X ps (TSv X.K CA (evSs (run G.P n) (iniF G.P n) ss))
  | .nil, X, sc, ps, W, wr, hp, hk, cr, mk, h => by
    unfold mSs at h
    split at h
    · exact pssNil (fun ρ st => by rw [evSs] <;> rfl)
    · cases h
  | .cons s ss, X, sc, ps, W, wr, hp, hk, cr, mk, h => by
    unfold mSs at h
    rw [Bool.or_eq_true, Bool.or_eq_true] at h
    rcases h with (h | h) | h
    case inl.inr => exact sndRd W wr cr mk h
    · simp only [Bool.and_eq_true] at h
      cases s with
      | frz i =>
        refine pssFrz (i := i) (m' := evSs (run G.P n) (iniF G.P n) ss) (fun ρ st => ?_) (sndSs ss W wr hp hk cr (fun z => mk (by unfold hasMks; rw [z]; exact Bool.or_true _)) h.2)
        rw [evSs, evS]
        cases frzS ρ st ρ[i]? <;> rfl
      | _ => cases h.1
    · split at h
      · simp only [Bool.and_eq_true] at h
        exact pssCons (fun ρ st => by rw [evSs] <;> rfl) (sndS s W wr hp hk cr (fun z => mk (by unfold hasMks; rw [z]; rfl) _ (List.mem_cons_self ..)) h.1) (sndSs ss W wr hp hk cr (fun z p hp' => mk (by unfold hasMks; rw [z]; exact Bool.or_true _) p (List.mem_cons_of_mem _ hp')) h.2)
      · cases h
end
end
/-! ### defs -/
theorem startRE {K : PySem.W.Frag} {F : Hp} {φ : List FP} {N : List Str} {vs : List V} {xs : List Vl} (h : RVs K F φ vs xs) : RE K F φ (L2.start N vs) (startE N xs) := by
  have hl := h.length
  refine ⟨by unfold L2.start startE; rw [List.length_append, List.length_append, List.length_map, List.length_map, List.length_replicate, List.length_replicate, hl], fun i x e => ?_⟩
  unfold startE at e
  have hi : i < xs.length := by
    by_cases hi : i < xs.length
    · exact hi
    · rw [List.getElem?_append_right (by simpa using hi), List.getElem?_replicate] at e
      split at e <;> cases e
  rw [List.getElem?_append_left (by simpa using hi), List.getElem?_map] at e
  have e' : xs[i]? = some x := by
    cases q : xs[i]? with
    | none => rw [q] at e; cases e
    | some y => rw [q] at e; cases e; rfl
  have get : ∀ {vs : List V} {xs : List Vl} {i : Nat} {x : Vl}, RVs K F φ vs xs → xs[i]? = some x → ∃ v, vs[i]? = some v ∧ RV K F φ v x := by
    intro vs xs i x h
    induction h generalizing i with
    | nil => intro e; simp at e
    | cons h1 _ ih =>
      intro e
      cases i with
      | zero => simp at e; subst e; exact ⟨_, rfl, h1⟩
      | succ i =>
        obtain ⟨v, g1, g2⟩ := ih (i := i) (by simpa using e)
        exact ⟨v, by simpa using g1, g2⟩
  obtain ⟨v, g1, g2⟩ := get h e'
  refine ⟨v, ?_, g2⟩
  unfold L2.start
  rw [List.getElem?_append_left (by rw [List.length_map, hl]; exact hi), List.getElem?_map, g1]
  rfl
theorem RVs.app {K : PySem.W.Frag} {F : Hp} {φ : List FP} : ∀ {vs us : List V} {xs ys : List Vl}, RVs K F φ vs xs → RVs K F φ us ys → RVs K F φ (vs ++ us) (xs ++ ys)
  | _, _, _, _, .nil, h => h
  | _, _, _, _, .cons a r, h => .cons a (RVs.app r h)
theorem RVs.ofA {K : PySem.W.Frag} {F : Hp} {φ : List FP} : ∀ {vs : List V} {ds : List PyData}, RpA K F vs ds → RVs K F φ vs (ds.map .d)
  | _, _, .nil => .nil
  | _, _, .cons h r => .cons h (RVs.ofA r)
/-- a def, with its code object -/
theorem funOk {P : Program} {w : World} {K : PySem.W.Frag} {mg : Str → Option Value} {base : Heap} {x qual : Str} {st : Stmt} {f : Addr} {fd : FuncData} {N ps : List Str} {k : Nat} {sp : Sp} (F : Fun K x qual st f fd) (S : FnScope N ps (defScope st)) (len : ∀ vs H Q E, sp vs H Q E → vs.length = ps.length)
    (hbody : ∀ (cdv : Value), fd.code = cdv → ∀ (A : Around) (outer : List Env) (s : Shared) (H : Hp) (vs : List V) (Q : VK) (E : XK), Room k (A.deeper (PyProof.Rows.envOfC qual (defScope st) s.heap.objs.size f cdv)) → sp vs H Q E →
      ∃ t, PSs (cxOf CX0 P w K mg base N qual (defScope st) f cdv A outer s H E).nox (defBody st) t ∧ t { nx := fun _ H' => Q .non H', rt := Q } (L2.start N vs) H) : FnOk P w K mg base CX0 (k + 1) f fd ps sp := by
  obtain ⟨oc, od, kV, doc, pm, an, cdv, ct, osl, rfl, lk, hcd⟩ := F.ex
  refine fn_of lk hcd S len fun A outer s H vs Q E hr hsp => ?_
  obtain ⟨t, h, q⟩ := hbody cdv rfl A outer s H vs Q E hr hsp
  exact ⟨t, h.nox, q⟩
/-- what the top has left of the defs -/
structure PF (G : SI) (K : PySem.W.Frag) (mg : Str → Option Value) (CA : CAT) (FA : Nat → Addr) (FD : Nat → FuncData) : Prop where
  cls : ∀ c k, G.cls[c]? = some k → mg k.nm = some (.ref (CA c)) ∧ Cls K (CA c) ∧ (∀ a ∈ k.fs, NoAttr K (CA c) a) ∧ (∀ q ∈ k.ms, q.2 < 1000 ∧ (∃ d, G.P[q.2]? = some d ∧ d.cap = none) ∧ Meth K (CA c) q.1 (FA q.2)) ∧ k.ini < 1000 ∧ (∃ d, G.P[k.ini]? = some d ∧ d.cap = none) ∧ Mk K (CA c) (FA k.ini)
  fn : ∀ f d, G.P[f]? = some d → d.cap = none → (∃ x qual st, Fun K x qual st (FA f) (FD f) ∧ FnScope d.N d.ps (defScope st) ∧ mSs (G.wm d.crt) d.N (defScope st) d.body (defBody st) = true ∧
    ∀ j k, d.crt = some (j, k) → (FD f).code = .ref (CA.tc j) ∧ (∃ d' m, G.P[k]? = some d' ∧ d'.cap = some m) ∧ ∀ p ∈ defBody st, ∀ nm pa b sc, lamIn p = some (nm, pa, b, sc) → qual ++ ".<locals>." ++ nm = CA.tq j ∧ (CA.cw k).W = ⟨nm, pa, b, sc, CA.tq j⟩) ∧ Binds K (FD f) d.ps [] ∧ (d.cls = none → mg d.nm = some (.ref (FA f)))
  clo : ∀ f d m, G.P[f]? = some d → d.cap = some m → d.ps = (CA.cw f).ps ++ (CA.cw f).fr ∧ (CA.cw f).fr.length = m ∧ CA.ck f = true ∧ d.cls ≠ none ∧ NScope d.N (CA.cw f).ps (CA.cw f).fr (CA.cw f).W.scope ∧
    (∀ (cl : List (Str × Addr)) (c : Addr) (doc pm ctv : Value) (us : List Value), us.length = (CA.cw f).ps.length → bindArgs (cfd (CA.cw f).W cl c doc pm ctv) ⟨us, []⟩ = pure ((CA.cw f).ps.zip us)) ∧ mBody (G.wm none) d.N (CA.cw f).W.scope d.body (CA.cw f).W.body = true
  ckd : ∀ f, CA.ck f = true → f < 1000 ∧ ∃ d m, G.P[f]? = some d ∧ d.cap = some m
  blt : ∀ x ∈ G.blts, mg x = none
  cst : ∀ x c, (x, c) ∈ G.consts → ∃ v u, mg x = some u ∧ RelV v u ∧ Rp K (fun _ => none) v c ∧ KTp K v
/-- the tables that defs may ask -/
def TabsB (G : SI) (CA : CAT) (base : Heap) (mg : Str → Option Value) : Prop := ∀ (f : Nat) (d : Fn) (j k : Nat), G.P[f]? = some d → d.crt = some (j, k) → TabB base mg (CA.tc j) (CA.tb j)
section
variable {G : SI} {CA : CAT} {prog : Program} {w : World} {K : PySem.W.Frag} {mg : Str → Option Value} {base : Heap} {FA : Nat → Addr} {FD : Nat → FuncData}
/-- a call's end: what is told, what the store then is -/
theorem finOk {F H F' H' : Hp} {φ φ' : List FP} {st st2 st' : Sto} {o : Out} {ρ' : En} {y : PyData} {Q : VK} (r : R K CA F φ st H) (nx : Nx K CA F φ H F' φ' st2 H') (e2 : finS st.length (o, ρ', st2) = some (y, st')) (q : PostV K CA F φ H (.d y) st' Q) :
    match o with | .nx => Q .non H' | .ret v => ∀ u, RV K F' φ' u v → Q u H' | _ => False := by
  have hL : st.length = φ.length := r.len
  have nxT : Nx K CA F φ H F' (φ'.take st.length) (st2.take st.length) H' := by
    refine ⟨nx.le, by rw [hL]; exact nx.gr.take, fun p u h1 h2 h3 => ?_, nx.r.take _⟩
    obtain ⟨g1, g2, g3⟩ := nx.off p u h1 h2 h3
    refine ⟨g1, g2, fun z => g3 ?_⟩
    obtain ⟨w, hw, hz⟩ := List.mem_flatMap.mp z
    exact List.mem_flatMap.mpr ⟨w, List.mem_of_mem_take hw, hz⟩
  cases o with
  | nx =>
    cases e2
    exact q _ _ _ _ nxT Rp.non
  | brk => cases e2
  | cnt => cases e2
  | ret v =>
    obtain ⟨z, e3, e4⟩ := Option.map_eq_some_iff.mp (show (retD st.length st2 v).map _ = _ from e2)
    cases e4
    intro u hu
    cases v with
    | d z' =>
      cases e3
      exact q _ _ _ _ nxT hu
    | f _ _ => cases e3
    | s _ => cases e3
    | r k =>
      have e3 : (if st.length ≤ k then dat st2 (.r k) else none) = some _ := e3
      split at e3
      · rename_i hk
        obtain ⟨p, hp, rfl⟩ := hu
        have t := nx.r.reads (v := .ref p.1) (x := .r k) ⟨p, hp, rfl⟩ e3
        obtain ⟨m, hm, om⟩ := nx.r.at hp
        have hfz : p.2 = [] → ∀ o, H' p.1 = some o → F' p.1 = none ∧ Nx K CA F φ H (upd F' p.1 o) (φ'.take st.length) (st2.take st.length) H' := fun h2 o ho => by
          have hpa : p.1 ∈ fpA p := by rw [fpA_nil h2]; simp
          have hF : F' p.1 = none := nx.r.dis _ (mem_fps_of hp hpa)
          refine ⟨hF, nx.le.trans (Le.upd hF), nxT.gr, fun b u h1 h2 h3 => ?_, nx.r.freeze _ hk hp hpa ho⟩
          obtain ⟨g1, g2, g3⟩ := nx.off b u h1 h2 h3
          have ne : b ≠ p.1 := fun z => g3 (z ▸ mem_fps_of hp hpa)
          exact ⟨g1, by rw [upd_ne ne]; exact g2, (nxT.off b u h1 h2 h3).2.2⟩
        simp only [dat, hm] at e3
        cases m with
        | lst ys =>
          cases e3
          obtain ⟨_, _, _, _, o2⟩ := om
          obtain ⟨a, ws, ea, g1, g2, g3⟩ := t
          cases ea
          obtain ⟨hF, n2⟩ := hfz o2 _ g1
          exact q _ _ _ _ n2 (Rp.lst upd_same g2 (g3.le (Le.upd hF)))
        | dct kvs =>
          cases e3
          obtain ⟨ks, o1, o3, o2⟩ := om
          obtain ⟨hF, n2⟩ := hfz o2 _ o1
          exact q _ _ _ _ n2 (Rp.dct (.inl upd_same) (o3.le (Le.upd hF)))
        | ins c fs => cases e3
        | dead => cases e3
        | tab _ => cases e3
        | ptup _ => cases e3
        | clo _ _ => cases e3
      · cases e3
theorem wOf {X : Cx} {N : List Str} {sc : Scope} {n : Nat} {me : Option (Nat × Nat)} (hP : PF G K mg CA FA FD) (hK : X.K = K) (hw : X.w = w) (hp : X.prog = prog) (hm : X.mg = mg) (hb : X.base = base) (hN : X.N = N) (hs : X.env.scope = sc) (nd : N.Nodup) (hc : X.calm = true) (hr : Room n X.A)
    (F1 : ∀ f d, G.P[f]? = some d → d.cap = none → FnOk prog w K mg base CX0 n (FA f) (FD f) d.ps (spF K CA (run G.P n) f)) (F2 : 2 ≤ n → ∀ f d, G.P[f]? = some d → d.cap = none → FnOk prog w K mg base CX0 1 (FA f) (FD f) d.ps (spF K CA (run G.P 1) f))
    (F3 : ∀ f d m, G.P[f]? = some d → d.cap = some m → CloOk prog w K mg base CA n (run G.P n) f) : XW (G.wm me) CA n N sc X := by
  subst hK; subst hw; subst hp; subst hm; subst hb
  refine ⟨hN, hs, nd, hc, hr, fun c k hk => ?_, fun f' d' hd' hc' => ?_, hP.blt, hP.cst, fun f d m hd hm => ?_, hP.ckd⟩
  · obtain ⟨c1, c2, c3, c4, c5, c6, c7⟩ := hP.cls c k hk
    refine ⟨c1, c2, c3, fun q hq => ?_, fun hn => ?_⟩
    · obtain ⟨m0, ⟨d', hd', hn'⟩, m2⟩ := c4 q hq
      obtain ⟨_, b', _⟩ := hP.fn q.2 d' hd' hn'
      exact ⟨m0, d'.ps, FA q.2, FD q.2, m2, b', F1 q.2 d' hd' hn'⟩
    · obtain ⟨d', hd', hn'⟩ := c6
      obtain ⟨_, b', _⟩ := hP.fn k.ini d' hd' hn'
      exact ⟨c5, d'.ps, FA k.ini, FD k.ini, c7, b', F2 hn k.ini d' hd' hn'⟩
  · have hn' : d'.cap = none := by
      cases z : d'.cap with
      | none => rfl
      | some m => exact absurd hc' (hP.clo f' d' m hd' z).2.2.2.1
    obtain ⟨⟨x', q', st', F', _, _⟩, b', m'⟩ := hP.fn f' d' hd' hn'
    exact ⟨FA f', FD f', m' hc', F'.kp, b', F1 f' d' hd' hn'⟩
  · obtain ⟨e1, e2, e3, _⟩ := hP.clo f d m hd hm
    exact ⟨e1, e2, F3 f d m hd hm, e3⟩
theorem lenOf {n f : Nat} {d : Fn} {xs : List Vl} {st st' : Sto} {y : PyData} (hf : f < 1000) (hd : G.P[f]? = some d) (e : run G.P (n + 1) f xs st = some (y, st')) : ∃ o, xs.length = d.ps.length ∧ evSs (run G.P n) (if 2 ≤ n then ini G.P else noC) d.body (startE d.N xs) st = some o ∧ finS st.length o = some (y, st') := by
  have e : evF (run G.P n) (if 2 ≤ n then ini G.P else noC) G.P f xs st = some (y, st') := e
  unfold evF at e
  rw [Nat.mod_eq_of_lt hf, hd] at e
  dsimp only at e
  split at e
  case isFalse => cases e
  rename_i hl
  obtain ⟨o, e1, e2⟩ := Option.bind_eq_some_iff.mp e
  rw [finF, if_pos hf] at e2
  exact ⟨o, hl, e1, e2⟩
theorem allOk (hP : PF G K mg CA FA FD) (hT : TabsB G CA base mg) : ∀ n : Nat, (∀ (f : Nat) (d : Fn), G.P[f]? = some d → d.cap = none → FnOk prog w K mg base CX0 n (FA f) (FD f) d.ps (spF K CA (run G.P n) f)) ∧
    ∀ (f : Nat) (d : Fn) (m : Nat), G.P[f]? = some d → d.cap = some m → CloOk prog w K mg base CA n (run G.P n) f
  | 0 => by
    refine ⟨fun f d hd hcap => ?_, fun f d m hd hcap A outer s H us vs ws Q fa cl c _ _ _ _ _ _ _ h => ?_⟩
    · have no : ∀ vs H Q E, ¬ spF K CA (run G.P 0) f vs H Q E := fun vs H Q E h => by
        obtain ⟨_, ⟨F, φ, st, xs, x, st', _, _, e, _⟩ | ⟨F, φ, st, xs, x, st', _, _, e, _⟩⟩ := h <;> cases e
      exact ⟨fun vs H Q E h => absurd h (no vs H Q E), fun A outer s H args us vs Q E _ _ _ _ h => absurd h (no vs H Q E)⟩
    · obtain ⟨_, _, _, _, _, _, _, _, _, _, _, _, e, _⟩ := h
      cases e
  | n + 1 => by
    have ih := allOk hP hT n
    have ih1 : 2 ≤ n → ∀ f d, G.P[f]? = some d → d.cap = none → FnOk prog w K mg base CX0 1 (FA f) (FD f) d.ps (spF K CA (run G.P 1) f) := fun _ => (allOk hP hT 1).1
    refine ⟨fun f d hd hcap => ?_, fun f d m hd hcap A outer s H us vs ws Q fa cl c hr e0 hfa hco C rr hlv h => ?_⟩
    case refine_2 =>
      obtain ⟨F, φ, st, xs, us0, wd, y, st', r, rv, rfl, rw', e, q⟩ := h
      obtain ⟨c1, c2, c3, c4, S, hb, hM⟩ := hP.clo f d m hd hcap
      have hlt := (hP.ckd f c3).1
      obtain ⟨⟨o, ρ', st2⟩, hl, e1, e2⟩ := lenOf hlt hd e
      refine cloRun (k := n) S (hb cl c) hr e0 hfa hco C rr hlv fun hr' => ?_
      generalize hX : (ncx CX0 prog w K mg base d.N (nfOf (CA.cw f).W cl c) fa A outer s H E0).nox = X
      have W : XW (G.wm none) CA n d.N (CA.cw f).W.scope X := by
        subst hX
        exact wOf hP rfl rfl rfl rfl rfl rfl rfl S.nd rfl hr' ih.1 ih1 ih.2
      have hK : X.K = K := by subst hX; rfl
      have se : RE K F φ (startF d.N vs (us0.map some)) (startE d.N (xs ++ wd.map .d)) := by
        have q1 : RVs K F φ (vs ++ us0) (xs ++ wd.map .d) := rv.app (RVs.ofA rw')
        have q2 := startRE (N := d.N) q1
        have eq : L2.start d.N (vs ++ us0) = startF d.N vs (us0.map some) := by
          unfold L2.start startF
          rw [List.map_append, List.append_assoc, List.length_append, List.length_map, Nat.sub_sub]
        rw [eq] at q2
        exact q2
      cases hB : (CA.cw f).W.body with
      | stmts b =>
        rw [hB] at hM
        have hM : mSs (G.wm none) d.N (CA.cw f).W.scope d.body b = true := hM
        have ps : PSs X b (TSv X.K CA (evSs (run G.P n) (if 2 ≤ n then ini G.P else noC) d.body)) := by
          refine sndSs (G := G.wm none) d.body W (fun x h => ?_) ?_ ?_ ⟨fun j k z => (by cases z), fun j k z => (by cases z)⟩ (fun _ p _ j k z => by cases z) hM
          · subst hX
            have := locB_ok h
            exact ⟨this, .inr (this.elim id fun z => absurd rfl (S.nocell _ (PySem.mem_of_lookup z)))⟩
          · subst hX
            exact PassesOwn.never
          · subst hX
            exact S.kind
        subst hX
        refine ⟨_, ps.nox, ?_⟩
        refine ⟨F, φ, st, _, o, ρ', st2, r, se, e1, fun F' φ' H' σ' nx re => ?_⟩
        have fo := finOk r nx e2 q
        cases o with
        | nx => exact fo
        | brk => exact fo.elim
        | cnt => exact fo.elim
        | ret v => exact fo
      | expr pe =>
        rw [hB] at hM
        unfold mBody at hM
        dsimp only at hM
        split at hM
        case h_2 => cases hM
        rename_i ex hbd
        have pe' : PE X pe (TV X.K CA (evE (run G.P n) (iniF G.P n) ex)) := (sndE (G := G.wm none) ex W hM).1
        rw [hbd] at e1
        rw [evSs, evS] at e1
        obtain ⟨⟨o1, ρ1, st1⟩, e3, e4⟩ := Option.bind_eq_some_iff.mp e1
        obtain ⟨⟨v, st3⟩, e5, e6⟩ := Option.map_eq_some_iff.mp e3
        cases e6
        dsimp only at e4
        cases e4
        subst hX
        refine ⟨_, pe'.nox, ?_⟩
        exact ⟨F, φ, st, _, v, st2, r, se, e5, fun F' φ' H' u nx hu => finOk r nx e2 q u hu⟩
    obtain ⟨⟨x, qual, st0, F0, S, hM, hcr⟩, hB, _⟩ := hP.fn f d hd hcap
    have two : ∀ {vs H Q E}, spF K CA (run G.P (n + 1)) f vs H Q E → ∃ F φ st xs o, R K CA F φ st H ∧ RVs K F φ vs xs ∧ xs.length = d.ps.length ∧ evSs (run G.P n) (if 2 ≤ n then ini G.P else noC) d.body (startE d.N xs) st = some o ∧
        ((∃ x st', finS st.length o = some (x, st') ∧ PostV K CA F φ H (.d x) st' Q) ∨ ∃ kvs st', finN st.length o = some (kvD kvs, st') ∧ PostV K CA F φ H (.r st'.length) (st' ++ [.dct kvs]) Q) := fun {vs H Q E} h => by
      obtain ⟨hf, ⟨F, φ, st, xs, y, st', r, rv, e, q⟩ | ⟨F, φ, st, xs, y, st', r, rv, e, q⟩⟩ := h
      · have e : evF (run G.P n) (if 2 ≤ n then ini G.P else noC) G.P f xs st = some (y, st') := e
        unfold evF at e
        rw [Nat.mod_eq_of_lt hf, hd] at e
        dsimp only at e
        split at e
        case isFalse => cases e
        rename_i hl
        obtain ⟨o, e1, e2⟩ := Option.bind_eq_some_iff.mp e
        rw [finF, if_pos hf] at e2
        exact ⟨F, φ, st, xs, o, r, rv, hl, e1, .inl ⟨y, st', e2, q⟩⟩
      · have e : evF (run G.P n) (if 2 ≤ n then ini G.P else noC) G.P (f + 1000) xs st = some (kvD y, st') := e
        unfold evF at e
        rw [Nat.add_mod_right, Nat.mod_eq_of_lt hf, hd] at e
        dsimp only at e
        split at e
        case isFalse => cases e
        rename_i hl
        obtain ⟨o, e1, e2⟩ := Option.bind_eq_some_iff.mp e
        rw [finF, if_neg (by omega)] at e2
        exact ⟨F, φ, st, xs, o, r, rv, hl, e1, .inr ⟨y, st', e2, q⟩⟩
    refine funOk F0 S (fun vs H Q E h => ?_) (fun cdv hcdv A outer s H vs Q E hr h => ?_)
    · obtain ⟨F, φ, st, xs, o, r, rv, hl, _⟩ := two h
      rw [rv.length]; exact hl
    obtain ⟨F, φ, st, xs, ⟨o, ρ', st2⟩, r, rv, _, e1, e2⟩ := two h
    generalize hX : (cxOf CX0 prog w K mg base d.N qual (defScope st0) (FA f) cdv A outer s H E).nox = X
    have W : XW (G.wm d.crt) CA n d.N (defScope st0) X := by
      subst hX
      exact wOf hP rfl rfl rfl rfl rfl rfl rfl S.nd rfl hr ih.1 ih1 ih.2
    have hK : X.K = K := by subst hX; rfl
    refine ⟨TSv X.K CA (evSs (run G.P n) (if 2 ≤ n then ini G.P else noC) d.body), ?_, ?_⟩
    · refine sndSs (G := G.wm d.crt) d.body W (fun x h => ?_) ?_ ?_ ⟨fun j k z => ?_, fun j k z => ?_⟩ (fun _ p hp j k z nm pa b sc hl => ?_) hM
      · subst hX
        exact ⟨locB_ok h, .inl rfl⟩
      · subst hX
        exact PassesOwn.never
      · subst hX
        exact S.kind
      · obtain ⟨h1, h2, h3⟩ := hcr j k z
        subst hX
        refine ⟨hT f d j k hd z, ?_, fun _ => rfl⟩
        show cdv = _
        rw [← hcdv]; exact h1
      · exact (hcr j k z).2.1
      · obtain ⟨h1, h2, h3⟩ := hcr j k z
        subst hX
        exact h3 p hp nm pa b sc hl
    · rw [hK]
      refine ⟨F, φ, st, _, o, ρ', st2, r, startRE rv, e1, fun F' φ' H' σ' nx re => ?_⟩
      have hL : st.length = φ.length := r.len
      have nxT : Nx K CA F φ H F' (φ'.take st.length) (st2.take st.length) H' := by
        refine ⟨nx.le, by rw [hL]; exact nx.gr.take, fun p u h1 h2 h3 => ?_, nx.r.take _⟩
        obtain ⟨g1, g2, g3⟩ := nx.off p u h1 h2 h3
        refine ⟨g1, g2, fun z => g3 ?_⟩
        obtain ⟨w, hw, hz⟩ := List.mem_flatMap.mp z
        exact List.mem_flatMap.mpr ⟨w, List.mem_of_mem_take hw, hz⟩
      rcases e2 with ⟨y, st', e2, q⟩ | ⟨kvs, st', e2, q⟩
      · have fo := finOk r nx e2 q
        cases o with
        | nx => exact fo
        | brk => exact fo.elim
        | cnt => exact fo.elim
        | ret v => exact fo
      · cases o with
        | nx => cases e2
        | brk => cases e2
        | cnt => cases e2
        | ret v =>
          intro u hu
          cases v with
          | d z' => cases e2
          | f _ _ => cases e2
          | s _ => cases e2
          | r k =>
            have e3 : (if st.length ≤ k then match st2[k]? with
              | some (.dct kvs) => some (kvD kvs, st2.take st.length)
              | _ => none
              else none) = some (kvD kvs, st') := e2
            split at e3
            case isFalse => cases e3
            rename_i hk
            obtain ⟨p, hp, rfl⟩ := hu
            obtain ⟨m, hm, om⟩ := nx.r.at hp
            rw [hm] at e3
            cases m with
            | lst ys => cases e3
            | ins c fs => cases e3
            | dead => cases e3
            | tab _ => cases e3
            | ptup _ => cases e3
            | clo _ _ => cases e3
            | dct kv2 =>
              obtain ⟨e4, e5⟩ := Prod.mk.inj (Option.some.inj (show some (kvD kv2, st2.take st.length) = _ from e3))
              have e6 : kv2 = kvs := by
                have h1 := toKv_kvD kv2
                have h2 := toKv_kvD kvs
                unfold kvD at e4
                injection e4 with e4
                rw [e4, h2] at h1
                exact (Option.some.inj h1).symm
              subst e6
              subst e5
              obtain ⟨ks, o1, o3, o2⟩ := om
              have hpa : p.1 ∈ fpA p := by rw [fpA_nil o2]; simp
              have hlen : (st2.take st.length).length = (φ'.take st.length).length := by rw [List.length_take, List.length_take, nx.r.len]
              have hmem : ∀ a, a ∈ fps (φ'.take st.length ++ [p]) → a ∈ fps φ' := fun a ha => by
                rw [fps_app] at ha
                rcases List.mem_append.mp ha with z | z
                · obtain ⟨w, hw, hz⟩ := List.mem_flatMap.mp z
                  exact List.mem_flatMap.mpr ⟨w, List.mem_of_mem_take hw, hz⟩
                · exact mem_fps_of hp (by simpa [fps] using z)
              refine q F' (φ'.take st.length ++ [p]) H' (.ref p.1) ⟨nx.le, nxT.gr.trans Gr.app, fun b u h1 h2 h3 => ?_, nx.r.sub, fun a ha => nx.r.dis a (hmem a ha), ?_, by rw [List.length_append, List.length_append, hlen]; rfl, fun j m' w e7 e8 => ?_⟩ ⟨p, ?_, rfl⟩
              · obtain ⟨g1, g2, g3⟩ := nx.off b u h1 h2 h3
                exact ⟨g1, g2, fun z => g3 (hmem b z)⟩
              · rw [fps_app]
                refine List.nodup_append.mpr ⟨(nx.r.take st.length).nd, ?_, fun a ha b hb e => ?_⟩
                · have : fps [p] = [p.1] := by simp [fps, fpA_nil o2]
                  rw [this]; simp
                · subst e
                  obtain ⟨i, w, hw, hz⟩ := mem_fps ha
                  have hi : i < st.length := by
                    have := (List.getElem?_eq_some_iff.mp hw).1
                    rw [List.length_take] at this; omega
                  rw [List.getElem?_take_of_lt hi] at hw
                  exact fps_two nx.r.nd hw hp (by omega) hz (by simpa [fps] using hb)
              · by_cases hj : j < (st2.take st.length).length
                · rw [List.getElem?_append_left hj] at e7
                  rw [List.getElem?_append_left (by rw [← hlen]; exact hj)] at e8
                  exact (nx.r.take st.length).obj j m' w e7 e8
                · have h1 : (st2.take st.length).length ≤ j := Nat.le_of_not_lt hj
                  rw [List.getElem?_append_right h1] at e7
                  rw [List.getElem?_append_right (by rw [← hlen]; exact h1), ← hlen] at e8
                  have hz : j - (st2.take st.length).length = 0 := by
                    have := (List.getElem?_eq_some_iff.mp e7).1
                    simpa using this
                  rw [hz] at e7 e8
                  simp at e7 e8
                  subst e7; subst e8
                  exact ⟨ks, o1, o3, o2⟩
              · rw [hlen, List.getElem?_append_right (Nat.le_refl _)]; simp
termination_by n => n
decreasing_by all_goals omega
end
end Tw
set_option Elab.async false
set_option linter.all false
set_option maxRecDepth 100000
set_option maxHeartbeats 8000000
/-! C13: from the top's facts to the law. -/
namespace Tw
open PySem L2 LamX NdefX
structure Ok1 (G : SI) (K : PySem.W.Frag) (mg : Str → Option Value) (CA : CAT) (d : Fn) (fa : Addr) (fd : FuncData) : Prop where
  fn : ∃ x qual st, Fun K x qual st fa fd ∧ FnScope d.N d.ps (defScope st) ∧ mSs (G.wm d.crt) d.N (defScope st) d.body (defBody st) = true ∧
    ∀ j k, d.crt = some (j, k) → fd.code = .ref (CA.tc j) ∧ (∃ d' m, G.P[k]? = some d' ∧ d'.cap = some m) ∧ ∀ p ∈ defBody st, ∀ nm pa b sc, lamIn p = some (nm, pa, b, sc) → qual ++ ".<locals>." ++ nm = CA.tq j ∧ (CA.cw k).W = ⟨nm, pa, b, sc, CA.tq j⟩
  bd : Binds K fd d.ps []
  at_ : d.cls = none → mg d.nm = some (.ref fa)
/-- what a made function's text is -/
structure OkC (G : SI) (q : CQ) (d : Fn) (m : Nat) : Prop where
  ps : d.ps = q.ps ++ q.fr
  fr : q.fr.length = m
  cl : d.cls ≠ none
  sc : NScope d.N q.ps q.fr q.W.scope
  bd : ∀ (cl : List (Str × Addr)) (c : Addr) (doc pm ctv : Value) (us : List Value), us.length = q.ps.length → bindArgs (cfd q.W cl c doc pm ctv) ⟨us, []⟩ = pure (q.ps.zip us)
  tx : mBody (G.wm none) d.N q.W.scope d.body q.W.body = true
/-- where made functions stand -/
def ksIn (P : List Fn) (ks : List Nat) : Bool := (List.range P.length).all fun f => match P[f]? with
  | some d => d.cap.isNone || ks.contains f
  | none => true
theorem ksOf {P : List Fn} {ks : List Nat} (h : ksIn P ks = true) {f : Nat} {d : Fn} {m : Nat} (h1 : P[f]? = some d) (h2 : d.cap = some m) : f ∈ ks := by
  have := List.all_eq_true.mp h f (List.mem_range.mpr (List.getElem?_eq_some_iff.mp h1).1)
  rw [h1] at this
  dsimp only at this
  rw [h2] at this
  simpa using this
theorem pfOf {G : SI} {K : PySem.W.Frag} {mg : Str → Option Value} {CA : CAT} (L : List (Fn × Addr × FuncData)) (dft : FuncData) (hL : L.map (·.1) = G.P) (h : ∀ t ∈ L, t.1.cap = none → Ok1 G K mg CA t.1 t.2.1 t.2.2) (hb : ∀ x ∈ G.blts, mg x = none)
    (hc : ∀ x c, (x, c) ∈ G.consts → ∃ v u, mg x = some u ∧ RelV v u ∧ Rp K (fun _ => none) v c ∧ KTp K v)
    (hcl : ∀ c k, G.cls[c]? = some k → mg k.nm = some (.ref (CA c)) ∧ Cls K (CA c) ∧ (∀ a ∈ k.fs, NoAttr K (CA c) a) ∧ (∀ q ∈ k.ms, q.2 < 1000 ∧ (∃ d, G.P[q.2]? = some d ∧ d.cap = none) ∧ Meth K (CA c) q.1 ((L[q.2]?.map (·.2.1)).getD 0)) ∧ k.ini < 1000 ∧ (∃ d, G.P[k.ini]? = some d ∧ d.cap = none) ∧ Mk K (CA c) ((L[k.ini]?.map (·.2.1)).getD 0))
    (hk : ∀ f d m, G.P[f]? = some d → d.cap = some m → CA.ck f = true ∧ OkC G (CA.cw f) d m) (hk2 : ∀ f, CA.ck f = true → f < 1000 ∧ ∃ d m, G.P[f]? = some d ∧ d.cap = some m) : PF G K mg CA (fun f => (L[f]?.map (·.2.1)).getD 0) (fun f => (L[f]?.map (·.2.2)).getD dft) := by
  refine ⟨hcl, fun f d hd hcap => ?_, fun f d m hd hcap => ?_, hk2, hb, hc⟩
  · rw [← hL, List.getElem?_map] at hd
    obtain ⟨t, ht, rfl⟩ := Option.map_eq_some_iff.mp hd
    obtain ⟨h1, h2, h3⟩ := h t (List.mem_of_getElem? ht) hcap
    refine ⟨?_, ?_, ?_⟩
    · rw [ht]; exact h1
    · rw [ht]; exact h2
    · rw [ht]; exact h3
  · obtain ⟨e, o⟩ := hk f d m hd hcap
    exact ⟨o.ps, o.fr, e, o.cl, o.sc, o.bd, o.tx⟩
def noCrt (P : List Fn) : Bool := P.all fun d => d.crt.isNone && d.cap.isNone
theorem lawEnd {G : SI} {l : PySem.W.OpenLaw} {q : Program} {loose : List Str} {XP : (Str → Option Value) → Heap → Prop} {YP : World → Heap → Prop} {d : DefRec} {K : Params → PySem.W.Frag} (n flaw : Nat) (hf : flaw < 1000) (dlaw : Fn) (hn : l.most = some 63) (hdf : d.params.defaults = []) (hr : Room n callerA)
    (hY : ∀ (w : World) (h : Heap), YP w h → (K w.params).In h) (hps : dlaw.ps = [Str.ofString "script"]) (hP : G.P[flaw]? = some dlaw) (hno : noCrt G.P = true)
    (F : ∀ (w : World) (mg : Str → Option Value) (fa : Addr) (h : Heap), (K w.params).In h → h.Ns mainGlobals mg → mg d.name = some (.ref fa) →
      ∃ CA FA FD, PF G (K w.params) mg CA FA FD ∧ FA flaw = fa ∧ ∀ (s : Shared) (u : Value), BindsTo s (FD flaw) ⟨[u], []⟩ [("script", u)])
    (hlaw : ∀ ns : List Int, ns.length ≤ 63 → ∃ st', run G.P n flaw [.s ns] [] = some (.bool true, st')) : PySem.W.WalkO q loose XP YP l.row.toRowW d [] (fun f vs => PySem.call f vs) := by
  have hno' : ∀ (f : Nat) (d : Fn), G.P[f]? = some d → d.crt = none ∧ d.cap = none := fun f d hd => by
    have := List.all_eq_true.mp hno d (List.mem_of_getElem? hd)
    simpa [Bool.and_eq_true] using this
  refine L2.walk_of (n := 63) (k := n) (x := "script") (CX := fun _ => CX0) (sp := fun w vs H Q E => ∀ CA, spF (K w.params) CA (run G.P n) flaw vs H Q E) hn (by decide) hdf hr hY (fun w mg fa h KX hG hmg => ?_) (fun w H a ns hl hO hS CA => ?_) (fun _ _ _ _ _ z => z)
  · obtain ⟨CA, FA, FD, pf, rfl, hb⟩ := F w mg fa h KX hG hmg
    refine ⟨FD flaw, hb, fun base _ _ => ?_⟩
    have := (allOk (CA := CA) (prog := l.prog) (w := w) (base := base) pf (fun f d j k h1 h2 => by rw [(hno' f d h1).1] at h2; cases h2) n).1 flaw dlaw hP (hno' flaw dlaw hP).2
    rw [hps] at this
    exact this.imp fun vs H Q E z => z _
  · obtain ⟨st', e⟩ := hlaw ns hl
    refine ⟨hf, .inl ⟨H, [], [], [.s ns], _, st', ⟨Le.rfl, fun a ha => by simp [fps] at ha, by simp [fps], rfl, fun k m p e1 _ => by simp at e1⟩, .cons ⟨a, rfl, hS⟩ .nil, e, fun F' φ' H' v nx rv => ?_⟩⟩
    have rv' : Rp (K w.params) F' v (.bool true) := rv
    cases rv'
    rfl
/-! ### a law some of whose defs make functions -/
/-- what the top tells of tables -/
def TabTop (q : Program) (K : PySem.W.Frag) (h : Heap) : Prop := ∀ (x : Str) (c P : Addr), ((PyProof.Rows.recsOf q).any fun e => e.name == x) = true → PySem.W.tabIn K x = some (c, P) → PySem.W.CodeHd h c P ∧ h.get? P = some (PySem.W.tabObj #[])
theorem walkTab {l : PySem.W.OpenLaw} {n k : Nat} {q : Program} {loose : List Str} {XP : (Str → Option Value) → Heap → Prop} {YP : World → Heap → Prop} {d : DefRec} {K : Params → PySem.W.Frag} {CX : World → CXT} {x : Str}
    (hn : l.most = some n) (hn2 : n ≤ sizeLine) (hdf : d.params.defaults = []) (hr : Room k callerA) (hY : ∀ (w : World) (h : Heap), YP w h → (K w.params).In h)
    (F : ∀ (w : World) (mg : Str → Option Value) (fa : Addr) (h : Heap), (K w.params).In h → h.Ns mainGlobals mg → mg d.name = some (.ref fa) → TabTop q (K w.params) h → LawAtS l w (K w.params) (CX w) k n x mg fa h)
    (hCX : ∀ (w : World) (H : Hp) (s : Shared) (e : Value) (s' : Shared), CX w [] H s (fun _ _ _ => False) e s' → False) :
    PySem.W.WalkO q loose XP YP l.row.toRowW d [] (fun f vs => PySem.call f vs) := by
  refine Att.attach_callB hn hdf fun w s₀ s₁ mg mb fa o pm cd doc a vs ns G Y ho hd hcd hmg hobj hints hlen hbits hg => ?_
  have KX := hY w _ Y
  obtain ⟨fd, cs, sp, hT, nT, C, hb, hsp, hF⟩ := F w mg fa _ KX G.T.g hmg fun x c P hx ht => by
    obtain ⟨dd, h1, h2⟩ := List.any_eq_true.mp hx
    cases hf : (PyProof.Rows.recsOf q).find? (fun e => e.name == x) with
    | none => exact absurd h2 (List.find?_eq_none.mp hf dd h1)
    | some d' => exact PySem.W.tab_of G.T KX hf ht
  exact law_callTs KX G.T.g G.T.b G.T.builtins G.T.nolimit hg hT nT C G.T.bmain hobj hints (Nat.le_trans hlen hn2) hr hF hb (fun H hH hS => hsp H a ns hlen hbits hH hS) fun H e s' => hCX w H s₁ e s'
/-- the store at the start: the tables -/
def tabs0 (m : Nat) : Sto := (List.range m).map MO.tab
theorem lawEndT {G : SI} {l : PySem.W.OpenLaw} {q : Program} {loose : List Str} {XP : (Str → Option Value) → Heap → Prop} {YP : World → Heap → Prop} {d : DefRec} {K : Params → PySem.W.Frag} (n flaw mt : Nat) (hf : flaw < 1000) (dlaw : Fn) (hn : l.most = some 63) (hdf : d.params.defaults = []) (hr : Room n callerA)
    (hY : ∀ (w : World) (h : Heap), YP w h → (K w.params).In h) (hps : dlaw.ps = [Str.ofString "script"]) (hP : G.P[flaw]? = some dlaw) (hcap : dlaw.cap = none)
    (hmt : (G.P.all fun d => match d.crt with | some (j, _) => decide (j < mt) | none => true) = true)
    (F : ∀ (w : World) (mg : Str → Option Value) (fa : Addr) (h : Heap), (K w.params).In h → h.Ns mainGlobals mg → mg d.name = some (.ref fa) → TabTop q (K w.params) h →
      ∃ CA FA FD, PF G (K w.params) mg CA FA FD ∧ FA flaw = fa ∧ (∀ (s : Shared) (u : Value), BindsTo s (FD flaw) ⟨[u], []⟩ [("script", u)]) ∧
        (∀ j, j < mt → h.get? (CA.tb j) = some (PySem.W.tabObj #[]) ∧ (K w.params).lookup (CA.tb j) = none ∧ PySem.W.CodeHd h (CA.tc j) (CA.tb j)) ∧ ((List.range mt).map CA.tb).Nodup)
    (hlaw : ∀ ns : List Int, ns.length ≤ 63 → ∃ st', run G.P n flaw [.s ns] (tabs0 mt) = some (.bool true, st')) : PySem.W.WalkO q loose XP YP l.row.toRowW d [] (fun f vs => PySem.call f vs) := by
  refine walkTab (n := 63) (k := n) (x := "script") (CX := fun _ => CX0) hn (by decide) hdf hr hY (fun w mg fa h KX hG hmg tt => ?_) (fun _ _ _ _ _ z => z)
  obtain ⟨CA, FA, FD, pf, rfl, hb, ht, hnd⟩ := F w mg fa h KX hG hmg tt
  have mem : ∀ {p : Addr × Addr}, p ∈ (List.range mt).map (fun j => (CA.tc j, CA.tb j)) → ∃ j, j < mt ∧ p = (CA.tc j, CA.tb j) := fun {p} hp => by
    obtain ⟨j, h1, h2⟩ := List.mem_map.mp hp
    exact ⟨j, List.mem_range.mp h1, h2.symm⟩
  refine ⟨FD flaw, (List.range mt).map fun j => (CA.tc j, CA.tb j), spF (K w.params) CA (run G.P n) flaw, fun p hp => ?_, fun p hp => ?_, fun p hp => ?_, hb, fun H a ns hl _ hH hS => ?_, fun base _ _ hTB => ?_⟩
  · obtain ⟨j, hj, rfl⟩ := mem hp
    exact (ht j hj).1
  · obtain ⟨j, hj, rfl⟩ := mem hp
    exact (ht j hj).2.1
  · obtain ⟨j, hj, rfl⟩ := mem hp
    exact (ht j hj).2.2
  · obtain ⟨st', e⟩ := hlaw ns hl
    have hHj : ∀ j, j < mt → H (CA.tb j) = some (.tbl #[]) := fun j hj => hH (CA.tc j, CA.tb j) (List.mem_map.mpr ⟨j, List.mem_range.mpr hj, rfl⟩)
    have hfp : fps ((List.range mt).map fun j => ((CA.tb j, []) : FP)) = (List.range mt).map CA.tb := by
      unfold fps
      rw [List.flatMap_map]
      generalize List.range mt = L
      induction L with
      | nil => rfl
      | cons a L ih => rw [List.flatMap_cons, ih, fpA_nil rfl]; rfl
    have isT : ∀ b, b ∈ (List.range mt).map CA.tb → H b = some (.tbl #[]) := fun b hb => by
      obtain ⟨j, h1, rfl⟩ := List.mem_map.mp hb
      exact hHj j (List.mem_range.mp h1)
    refine ⟨hf, .inl ⟨fun b => if b ∈ (List.range mt).map CA.tb then none else H b, (List.range mt).map fun j => ((CA.tb j, []) : FP), tabs0 mt, [.s ns], _, st', ⟨fun b u z => ?_, fun b hb => ?_, ?_, ?_, fun k m p e1 e2 => ?_⟩, .cons ⟨a, rfl, ?_⟩ .nil, e, fun F' φ' H' v nx rv => ?_⟩⟩
    · split at z
      · cases z
      · exact z
    · rw [hfp] at hb
      exact if_pos hb
    · rw [hfp]; exact hnd
    · unfold tabs0; rw [List.length_map, List.length_map]
    · unfold tabs0 at e1
      rw [List.getElem?_map] at e1 e2
      obtain ⟨j, h1, rfl⟩ := Option.map_eq_some_iff.mp e1
      obtain ⟨j', h2, rfl⟩ := Option.map_eq_some_iff.mp e2
      rw [h1] at h2
      cases h2
      have hj : j < mt := by
        have := List.mem_of_getElem? h1
        exact List.mem_range.mp this
      refine ⟨rfl, #[], hHj j hj, True.intro, fun pos cv z => ?_⟩
      have z' : codeAmong pos [] = some cv := z
      simp [codeAmong] at z'
    · refine Ut.sqL ⟨fun b xs z => ?_, fun b xs z => ?_, fun b o u z => ?_, fun b xs z => ?_⟩ hS
      all_goals exact (if_neg (fun w => by rw [isT b w] at z; cases z)).trans z
    · have rv' : Rp (K w.params) F' v (.bool true) := rv
      cases rv'
      rfl
  · have := (allOk (CA := CA) (prog := l.prog) (w := w) (base := base) pf (fun f d j k h1 h2 => by
      have := List.all_eq_true.mp hmt d (List.mem_of_getElem? h1)
      rw [h2] at this
      exact hTB (CA.tc j, CA.tb j) (List.mem_map.mpr ⟨j, List.mem_range.mpr (of_decide_eq_true this), rfl⟩)) n).1 flaw dlaw hP hcap
    rw [hps] at this
    exact this
/-! ### the module's constants -/
theorem cInt {K : PySem.W.Frag} {mg : Str → Option Value} {x : Str} {i : Int} {t : Tok} (h : mg x = some (.int i t)) : ∃ v u, mg x = some u ∧ RelV v u ∧ Rp K (fun _ => none) v (.int i) ∧ KTp K v := ⟨.int i, _, h, ⟨t, rfl⟩, .int i, fun _ e => by cases e⟩
theorem cStr {K : PySem.W.Frag} {mg : Str → Option Value} {x z : Str} {t : Tok} (h : mg x = some (.str z t)) : ∃ v u, mg x = some u ∧ RelV v u ∧ Rp K (fun _ => none) v (.str z) ∧ KTp K v := ⟨.str z, _, h, ⟨t, rfl⟩, .str z, fun _ e => by cases e⟩
theorem cTupR {K : PySem.W.Frag} {a : Addr} {vs : List V} {ds : List PyData} {its : List Value} {n : Nat} {od : Option Addr} {sl : Array (Option Value)} (hk : K.lookup a = some ⟨.type "tuple", od, .seq its.toArray n, sl⟩) (hz : ds.length ≤ sizeL)
    (hv : Vals vs its) (hr : RpA K (fun _ => none) vs ds) : Rp K (fun _ => none) (.ref a) (.tuple ds) := by
  refine .tup (.inr ⟨_, its.toArray, n, hk, rfl, rfl, ?_, by simpa using hv⟩) hz hr
  have e1 := hv.length
  have e2 := hr.length
  rw [List.size_toArray, ← e1, e2, ← sizeL_eq]; exact hz
theorem cTup {K : PySem.W.Frag} {mg : Str → Option Value} {x : Str} {a : Addr} {vs : List V} {ds : List PyData} {its : List Value} {n : Nat} {sl : Array (Option Value)} (h : mg x = some (.ref a)) (hk : K.lookup a = some ⟨.type "tuple", none, .seq its.toArray n, sl⟩) (hz : ds.length ≤ sizeL)
    (hv : Vals vs its) (hr : RpA K (fun _ => none) vs ds) : ∃ v u, mg x = some u ∧ RelV v u ∧ Rp K (fun _ => none) v (.tuple ds) ∧ KTp K v := ⟨.ref a, _, h, rfl, cTupR hk hz hv hr, fun p e => by cases e; exact ⟨_, hk, rfl, rfl⟩⟩
end Tw
namespace Tw
open PySem L2 LamX NdefX
/-- the words of the one function that a def makes -/
def cwOf (l : List (Str × Arguments × FuncBody × Scope)) (q : Str) : CW := match l with
  | (nm, pa, b, sc) :: _ => ⟨nm, pa, b, sc, q ++ ".<locals>." ++ nm⟩
  | [] => ⟨q, { posonlyargs := [], args := [], vararg := none, kwonlyargs := [], kw_defaults := [], kwarg := none, defaults := [] }, .stmts [], { kind := .function, names := [], isGenerator := false, isCoroutine := false }, q⟩
theorem mkOf {bd : List Stmt} {q : Str} (h : (bd.filterMap lamIn).length = 1) : ∀ p ∈ bd, ∀ nm pa b sc, lamIn p = some (nm, pa, b, sc) → q ++ ".<locals>." ++ nm = (cwOf (bd.filterMap lamIn) q).qual ∧ cwOf (bd.filterMap lamIn) q = ⟨nm, pa, b, sc, (cwOf (bd.filterMap lamIn) q).qual⟩ := by
  intro p hp nm pa b sc hl
  have hm : (nm, pa, b, sc) ∈ bd.filterMap lamIn := List.mem_filterMap.mpr ⟨p, hp, hl⟩
  generalize bd.filterMap lamIn = L at h hm
  match L, h, hm with
  | [x], _, hm =>
    have : x = (nm, pa, b, sc) := (List.mem_singleton.mp hm).symm
    subst this
    exact ⟨rfl, rfl⟩
def caOf (ca : Nat → Addr) : CAT where
  ca := ca
  tc := fun _ => 0
  tb := fun _ => 0
  tq := fun _ => ⟨#[]⟩
  cw := fun _ => ⟨cwOf [] ⟨#[]⟩, [], []⟩
  ck := fun _ => false
theorem tabIn_of {K : PySem.W.Frag} {x nm ql : Str} {f c P : Addr} {oc cc dV kV doc pm ct : Value} {od cd an : Option Addr} {sl csl : Array (Option Value)} {pa : Arguments} {b : List Stmt} {sc : Scope} {vs : Array Value} (a : PySem.W.nsIn K mainGlobals x = some (some (.ref f)))
    (l : K.lookup f = some ⟨oc, od, .func (PySem.W.fnOf nm ql pa b sc dV kV doc pm an (.ref c) ct), sl⟩) (lc : K.lookup c = some ⟨cc, cd, .fields vs, csl⟩) (pv : vs[11]? = some (.ref P)) : PySem.W.tabIn K x = some (c, P) := by
  unfold PySem.W.tabIn
  rw [a]
  dsimp only
  rw [l]
  dsimp only
  rw [lc]
  dsimp only
  rw [pv]
end Tw
set_option Elab.async false
set_option linter.all false
set_option maxRecDepth 100000
/-! D1: facts to run the evaluator by simp. -/
namespace Tw
open PySem
@[simp] theorem ofString_inj (a b : String) : Str.ofString a = Str.ofString b ↔ a = b := by
  constructor
  · intro h
    have h2 := congrArg (fun s => s.cps.toList) h
    simp only [Str.ofString_eq_toList] at h2
    have h3 : Function.Injective Char.toNat := fun a b h => Char.ext (UInt32.toNat_inj.mp h)
    exact String.ext ((List.map_inj_right (fun _ _ h => h3 h)).mp h2)
  · rintro rfl; rfl
@[simp] theorem sizeL_val : sizeL = 16777216 := rfl
@[simp] theorem evAnd_1 (C I : CallF) (e : E) (ρ : En) (st : Sto) : evAnd C I (.cons e .nil) ρ st = evE C I e ρ st := by
  rw [evAnd]; simp
@[simp] theorem evAnd_2 (C I : CallF) (e e' : E) (es : Es) (ρ : En) (st : Sto) : evAnd C I (.cons e (.cons e' es)) ρ st = (evE C I e ρ st).bind fun p => (boolOf p.1).bind fun k => if k then evAnd C I (.cons e' es) ρ p.2 else some (.d (.bool false), p.2) := by
  rw [evAnd]
@[simp] theorem evOr_1 (C I : CallF) (e : E) (ρ : En) (st : Sto) : evOr C I (.cons e .nil) ρ st = evE C I e ρ st := by
  rw [evOr]; simp
@[simp] theorem evOr_2 (C I : CallF) (e e' : E) (es : Es) (ρ : En) (st : Sto) : evOr C I (.cons e (.cons e' es)) ρ st = (evE C I e ρ st).bind fun p => (boolOf p.1).bind fun k => if k then some (.d (.bool true), p.2) else evOr C I (.cons e' es) ρ p.2 := by
  rw [evOr]
/-- an if whose test the kernel does not run -/
noncomputable def cif {α : Type} (p : Prop) (a b : α) : α := @ite α p (Classical.propDecidable p) a b
theorem cif_eq {α : Type} {p : Prop} [d : Decidable p] (a b : α) : (if p then a else b) = cif p a b := by
  unfold cif
  by_cases h : p
  · rw [if_pos h, if_pos h]
  · rw [if_neg h, if_neg h]
theorem cif_pos {α : Type} {p : Prop} (h : p) (a b : α) : cif p a b = a := if_pos h
theorem cif_neg {α : Type} {p : Prop} (h : ¬ p) (a b : α) : cif p a b = b := if_neg h
@[simp] theorem cif_true {α : Type} (a b : α) : cif True a b = a := if_pos trivial
def rngOk (n : Int) : Prop := -(2 ^ 62) ≤ n ∧ n < 2 ^ 24
theorem rngOk_nat (c : Nat) (h : c < 2 ^ 24) : rngOk c := by
  unfold rngOk; omega
@[simp] theorem evI_rng (C I : CallF) (e : E) (ρ : En) (st : Sto) : evI C I (.rng .none .none e) ρ st = (evE C I e ρ st).bind fun p => (intOf p.1).bind fun n => cif (rngOk n) (some ((rngL 0 n.toNat, true), p.2)) none := by
  rw [evI]
  simp only [cif_eq]; rfl
/-- the loop of a for, of a while -/
def loopF (C I : CallF) (tg : Tg) (b : Ss) : PyData → En → Sto → Option (Out × En × Sto) := fun x ρ st => (tgS tg x ρ).bind fun ρ' => evSs C I b ρ' st
@[simp] theorem loopF_ap (C I : CallF) (tg : Tg) (b : Ss) (x : PyData) (ρ : En) (st : Sto) : loopF C I tg b x ρ st = (tgS tg x ρ).bind fun ρ' => evSs C I b ρ' st := rfl
@[simp] theorem evS_fors (C I : CallF) (tg : Tg) (it : Iv) (b : Ss) (ρ : En) (st : Sto) : evS C I (.fors tg it b) ρ st = (evI C I it ρ st).bind fun p => if p.1.2 then forS (loopF C I tg b) p.1.1 ρ p.2 else none := by
  rw [evS]; rfl
def condF (C I : CallF) (c : E) : En → Sto → Option (Bool × Sto) := fun ρ st => (evE C I c ρ st).bind fun p => (boolOf p.1).map fun k => (k, p.2)
@[simp] theorem condF_ap (C I : CallF) (c : E) (ρ : En) (st : Sto) : condF C I c ρ st = (evE C I c ρ st).bind fun p => (boolOf p.1).map fun k => (k, p.2) := rfl
def bodyF (C I : CallF) (b : Ss) : En → Sto → Option (Out × En × Sto) := fun ρ st => evSs C I b ρ st
@[simp] theorem bodyF_ap (C I : CallF) (b : Ss) (ρ : En) (st : Sto) : bodyF C I b ρ st = evSs C I b ρ st := rfl
@[simp] theorem evS_whl (C I : CallF) (k : Nat) (c : E) (b : Ss) (ρ : En) (st : Sto) : evS C I (.whl k c b) ρ st = whlS (condF C I c) (bodyF C I b) k ρ st := by
  rw [evS]; rfl
@[simp] theorem compF_ap (tg : Tg) (mt : En → Sto → Option (Bool × Sto)) (me : En → Sto → Option (Vl × Sto)) (ρ : En) (x : PyData) (st : Sto) : compF tg mt me ρ x st =
  (tgS tg x (wipeE ρ (tgIs tg))).bind fun ρ' => (mt ρ' st).bind fun b => if b.1 then (me ρ' b.2).bind fun v => (dOf v.1).map fun y => (some y, v.2) else some (none, b.2) := rfl
@[simp] theorem evE_s0 (C I : CallF) i ρ st : evE C I (E.var i) ρ st =
    (match ρ[i]? with
    | some (some v) => some (v, st)
    | _ => none) := by rw [evE] <;> rfl
@[simp] theorem evE_s1 (C I : CallF) c ρ st : evE C I (E.cst c) ρ st =
    (some (.d c, st)) := by rw [evE] <;> rfl
@[simp] theorem evE_s2 (C I : CallF) u0 c ρ st : evE C I (E.glb u0 c) ρ st =
    (some (.d c, st)) := by rw [evE] <;> rfl
@[simp] theorem evE_s3 (C I : CallF) es ρ st : evE C I (E.tup es) ρ st =
    ((evEs C I es ρ st).bind fun p => if p.1.length ≤ sizeL then (allD p.1).map fun xs => (.d (.tuple xs), p.2) else none) := by rw [evE] <;> rfl
@[simp] theorem evE_s4 (C I : CallF) es ρ st : evE C I (E.lst es) ρ st =
    ((evEs C I es ρ st).bind fun p => if p.1.length ≤ sizeL then (allD p.1).map fun xs => (.d (.list xs), p.2) else none) := by rw [evE] <;> rfl
@[simp] theorem evE_s5 (C I : CallF) es ρ st : evE C I (E.nlst es) ρ st =
    ((evEs C I es ρ st).bind fun p => if p.1.length ≤ sizeL then (allD p.1).map fun xs => (.r p.2.length, p.2 ++ [.lst xs]) else none) := by rw [evE] <;> rfl
@[simp] theorem evE_s6 (C I : CallF) a b ρ st : evE C I (E.nadd a b) ρ st =
    ((evE C I a ρ st).bind fun p => (evE C I b ρ p.2).bind fun q => (dat q.2 p.1).bind fun x => (dat q.2 q.1).bind fun y => (catL x y).map fun z => (.r q.2.length, q.2 ++ [.lst z])) := by rw [evE] <;> rfl
@[simp] theorem evE_s7 (C I : CallF) es ρ st : evE C I (E.ndct es) ρ st =
    ((evEs C I es ρ (st ++ [.dct []])).bind fun p => (pairUp p.1).bind fun q => if q.length ≤ 15 then ndctS st.length q p.2 else none) := by rw [evE] <;> rfl
@[simp] theorem evE_s8 (C I : CallF) a ρ st : evE C I (E.ndc1 a) ρ st =
    ((evE C I a ρ st).bind fun p => (dat p.2 p.1).bind fun x => (dctOf x).map fun q => (.r p.2.length, p.2 ++ [.dct q])) := by rw [evE] <;> rfl
@[simp] theorem evE_s9 (C I : CallF) a b ρ st : evE C I (E.ndcz a b) ρ st =
    ((evE C I a ρ st).bind fun p => (evE C I b ρ p.2).bind fun q => (zipOf [p.1, q.1]).map fun kv => (.r q.2.length, q.2 ++ [.dct kv])) := by rw [evE] <;> rfl
@[simp] theorem evE_s10 (C I : CallF) o a b ρ st : evE C I (E.bin o a b) ρ st =
    ((evE C I a ρ st).bind fun p => (evE C I b ρ p.2).bind fun q => (dat q.2 p.1).bind fun x => (dat q.2 q.1).bind fun y => (binD o x y).map fun z => (.d z, q.2)) := by rw [evE] <;> rfl
@[simp] theorem evE_s11 (C I : CallF) a ρ st : evE C I (E.neg a) ρ st =
    ((evE C I a ρ st).bind fun p => (intOf p.1).map fun i => (.d (.int (-i)), p.2)) := by rw [evE] <;> rfl
@[simp] theorem evE_s12 (C I : CallF) o a b ρ st : evE C I (E.cmp o a b) ρ st =
    ((evE C I a ρ st).bind fun p => (evE C I b ρ p.2).bind fun q => (dat q.2 p.1).bind fun x => (dat q.2 q.1).bind fun y => (cmpD o x y).map fun z => (.d (.bool z), q.2)) := by rw [evE] <;> rfl
@[simp] theorem evE_s13 (C I : CallF) o o' a b c ρ st : evE C I (E.chn o o' a b c) ρ st =
    ((evE C I a ρ st).bind fun p => (evE C I b ρ p.2).bind fun q => (dOf p.1).bind fun x => (dOf q.1).bind fun y => (cmpD o x y).bind fun k =>
      if k then (evE C I c ρ q.2).bind fun s => (dOf s.1).bind fun z => (cmpD o' y z).map fun k' => (.d (.bool k'), s.2) else some (.d (.bool false), q.2)) := by rw [evE] <;> rfl
@[simp] theorem evE_s14 (C I : CallF) pos a ρ st : evE C I (E.isn pos a) ρ st =
    ((evE C I a ρ st).map fun p => (.d (.bool (match p.1 with | .d .none => pos | _ => !pos)), p.2)) := by rw [evE] <;> rfl
@[simp] theorem evE_s15 (C I : CallF) a b ρ st : evE C I (E.ix a b) ρ st =
    ((evE C I a ρ st).bind fun p => (evE C I b ρ p.2).bind fun q => ixS p.1 q.1 q.2) := by rw [evE] <;> rfl
@[simp] theorem evE_s16 (C I : CallF) a lo hi ρ st : evE C I (E.sl a lo hi) ρ st =
    ((evE C I a ρ st).bind fun p => (evO C I lo ρ p.2).bind fun q => (evO C I hi ρ q.2).bind fun s => (dat s.2 p.1).bind fun x => (slD x q.1 s.1).map fun z => (.d z, s.2)) := by rw [evE] <;> rfl
@[simp] theorem evE_s17 (C I : CallF) a ρ st : evE C I (E.rev a) ρ st =
    ((evE C I a ρ st).bind fun p => match p.1 with
    | .d (.tuple xs) => some (.d (.tuple xs.reverse), p.2)
    | _ => none) := by rw [evE] <;> rfl
@[simp] theorem evE_s18 (C I : CallF) t a ρ st : evE C I (E.isi t a) ρ st =
    ((evE C I a ρ st).bind fun p => (dOf p.1).map fun x => (.d (.bool (isiD t x)), p.2)) := by rw [evE] <;> rfl
@[simp] theorem evE_s19 (C I : CallF) f a ρ st : evE C I (E.fn1 f a) ρ st =
    ((evE C I a ρ st).bind fun p => fn1S f p.1 p.2) := by rw [evE] <;> rfl
@[simp] theorem evE_s20 (C I : CallF) a es ρ st : evE C I (E.band a es) ρ st =
    ((evE C I a ρ st).bind fun p => (boolOf p.1).bind fun k => if k then evAnd C I es ρ p.2 else some (.d (.bool false), p.2)) := by rw [evE] <;> rfl
@[simp] theorem evE_s21 (C I : CallF) a es ρ st : evE C I (E.bor a es) ρ st =
    ((evE C I a ρ st).bind fun p => (boolOf p.1).bind fun k => if k then some (.d (.bool true), p.2) else evOr C I es ρ p.2) := by rw [evE] <;> rfl
@[simp] theorem evE_s22 (C I : CallF) a ρ st : evE C I (E.nt a) ρ st =
    ((evE C I a ρ st).bind fun p => (boolOf p.1).map fun k => (.d (.bool (!k)), p.2)) := by rw [evE] <;> rfl
@[simp] theorem evE_s23 (C I : CallF) f es ρ st : evE C I (E.call f es) ρ st =
    ((evEs C I es ρ st).bind fun p => (C f p.1 p.2).map fun q => (.d q.1, q.2)) := by rw [evE] <;> rfl
@[simp] theorem evE_s24 (C I : CallF) f es ρ st : evE C I (E.calln f es) ρ st =
    ((evEs C I es ρ st).bind fun p => (C (f + 1000) p.1 p.2).bind fun q => newD q.1 q.2) := by rw [evE] <;> rfl
@[simp] theorem evE_s25 (C I : CallF) o c m f es ρ st : evE C I (E.meth o c m f es) ρ st =
    ((evE C I o ρ st).bind fun p => match p.1 with
    | .r n => match p.2[n]? with
      | some (.ins c' fs) => if c' = c ∧ (fs.lookup m).isNone then (evEs C I es ρ p.2).bind fun q => (C f (.r n :: q.1) q.2).map fun s => (.d s.1, s.2) else none
      | _ => none
    | _ => none) := by rw [evE] <;> rfl
@[simp] theorem evE_s26 (C I : CallF) c f es ρ st : evE C I (E.make c f es) ρ st =
    ((evEs C I es ρ st).bind fun p => (I f (.r p.2.length :: p.1) (p.2 ++ [.ins c []])).bind fun q => match q.1 with
    | .none => some (.r p.2.length, q.2)
    | _ => none) := by rw [evE] <;> rfl
@[simp] theorem evE_s27 (C I : CallF) c o a ρ st : evE C I (E.fld c o a) ρ st =
    ((evE C I o ρ st).bind fun p => fldS c p.1 a p.2) := by rw [evE] <;> rfl
@[simp] theorem evE_s28 (C I : CallF) m o a ρ st : evE C I (E.mt1 m o a) ρ st =
    ((evE C I o ρ st).bind fun p => if rcvOk m p.1 p.2 then (evE C I a ρ p.2).bind fun q => mt1S m p.1 q.1 q.2 else none) := by rw [evE] <;> rfl
@[simp] theorem evE_s29 (C I : CallF) m o ρ st : evE C I (E.mt0 m o) ρ st =
    ((evE C I o ρ st).bind fun p => mt0S m p.1 p.2) := by rw [evE] <;> rfl
@[simp] theorem evE_s30 (C I : CallF) o k v ρ st : evE C I (E.get o k v) ρ st =
    ((evE C I o ρ st).bind fun p => if isDct (dat p.2 p.1) then (evE C I k ρ p.2).bind fun q => (evE C I v ρ q.2).bind fun s => (dat s.2 p.1).bind fun x => getS x q.1 s.1 s.2 else none) := by rw [evE] <;> rfl
@[simp] theorem evE_s31 (C I : CallF) a ρ st : evE C I (E.ptsi a) ρ st =
    ((evE C I a ρ st).bind fun p => ptsiS p.1 p.2) := by rw [evE] <;> rfl
@[simp] theorem evE_s32 (C I : CallF) i ρ st : evE C I (E.ndcp i) ρ st =
    (ndcpS (ρ[i]?) st) := by rw [evE] <;> rfl
@[simp] theorem evE_s33 (C I : CallF) i es ρ st : evE C I (E.callv i es) ρ st =
    (if isClo (ρ[i]?) st then (evEs C I es ρ st).bind fun p => callvS C (ρ[i]?) p.1 p.2 else none) := by rw [evE] <;> rfl
@[simp] theorem evE_s34 (C I : CallF) elt tg it cond ρ st : evE C I (E.comp elt tg it cond) ρ st =
    ((evI C I it ρ st).bind fun p => if p.1.2 || (pureE elt && pureO cond) then
      (compS (compF tg (evC C I cond) (evE C I elt) ρ) p.1.1 p.2).map fun q => (.d (.list q.1), q.2) else none) := by rw [evE] <;> rfl
@[simp] theorem evEs_s35 (C I : CallF) ρ st : evEs C I (Es.nil) ρ st =
    (some ([], st)) := by rw [evEs] <;> rfl
@[simp] theorem evEs_s36 (C I : CallF) e es ρ st : evEs C I (Es.cons e es) ρ st =
    ((evE C I e ρ st).bind fun p => (evEs C I es ρ p.2).map fun q => (p.1 :: q.1, q.2)) := by rw [evEs] <;> rfl
@[simp] theorem evO_s37 (C I : CallF) ρ st : evO C I (Oe.none) ρ st =
    (some (none, st)) := by rw [evO] <;> rfl
@[simp] theorem evO_s38 (C I : CallF) e ρ st : evO C I (Oe.some e) ρ st =
    ((evE C I e ρ st).bind fun p => (intOf p.1).map fun i => (some i, p.2)) := by rw [evO] <;> rfl
@[simp] theorem evC_s39 (C I : CallF) ρ st : evC C I (Oe.none) ρ st =
    (some (true, st)) := by rw [evC] <;> rfl
@[simp] theorem evC_s40 (C I : CallF) e ρ st : evC C I (Oe.some e) ρ st =
    ((evE C I e ρ st).bind fun p => (boolOf p.1).map fun k => (k, p.2)) := by rw [evC] <;> rfl
@[simp] theorem evI_s41 (C I : CallF) e ρ st : evI C I (Iv.seq e) ρ st =
    ((evE C I e ρ st).bind fun p => seqT p.1 p.2) := by rw [evI] <;> rfl
@[simp] theorem evI_s42 (C I : CallF) e ρ st : evI C I (Iv.keys e) ρ st =
    ((evE C I e ρ st).bind fun p => (keysOf p.1).map fun q => ((q, true), p.2)) := by rw [evI] <;> rfl
@[simp] theorem evI_s43 (C I : CallF) e ρ st : evI C I (Iv.enm e) ρ st =
    ((evE C I e ρ st).bind fun p => seqI (enmL 0) p.1 p.2) := by rw [evI] <;> rfl
@[simp] theorem evI_s44 (C I : CallF) a b ρ st : evI C I (Iv.zip a b) ρ st =
    ((evE C I a ρ st).bind fun p => (evE C I b ρ p.2).bind fun q => (zipT p.1 q.1).map fun z => ((z, true), q.2)) := by rw [evI] <;> rfl
@[simp] theorem evS_s45 (C I : CallF) i ρ st : evS C I (S.frz i) ρ st =
    ((frzS ρ st ρ[i]?).map fun p => (.nx, p.1, p.2)) := by rw [evS] <;> rfl
@[simp] theorem evS_s46 (C I : CallF) i e ρ st : evS C I (S.asg i e) ρ st =
    ((evE C I e ρ st).map fun p => (.nx, ρ.set i (some p.1), p.2)) := by rw [evS] <;> rfl
@[simp] theorem evS_s47 (C I : CallF) is e ρ st : evS C I (S.unp is e) ρ st =
    ((evE C I e ρ st).bind fun p => (dOf p.1).bind fun x => (tgS (.tp is) x ρ).map fun ρ' => (.nx, ρ', p.2)) := by rw [evS] <;> rfl
@[simp] theorem evS_s48 (C I : CallF) o k v ρ st : evS C I (S.seti o k v) ρ st =
    ((evE C I v ρ st).bind fun p => (evE C I o ρ p.2).bind fun q => (evE C I k ρ q.2).bind fun s => match p.1, q.1, s.1 with
    | .d x, .r n, .d (.str z) => match s.2[n]? with
      | some (.dct kvs) => if kvs.length < sizeL then some (.nx, ρ, s.2.set n (.dct (putD kvs z x))) else none
      | _ => none
    | _, _, _ => none) := by rw [evS] <;> rfl
@[simp] theorem evS_s49 (C I : CallF) c o a e ρ st : evS C I (S.setf c o a e) ρ st =
    ((evE C I e ρ st).bind fun p => (evE C I o ρ p.2).bind fun q => (dOf p.1).bind fun x => (setfS c q.1 a (.d x) q.2).map fun st' => (.nx, ρ, st')) := by rw [evS] <;> rfl
@[simp] theorem evS_s50 (C I : CallF) c o a ρ st : evS C I (S.setl c o a) ρ st =
    ((evE C I o ρ st).bind fun q => (setlS c q.1 a q.2).map fun st' => (.nx, ρ, st')) := by rw [evS] <;> rfl
@[simp] theorem evS_s51 (C I : CallF) e ρ st : evS C I (S.exp e) ρ st =
    ((evE C I e ρ st).map fun p => (.nx, ρ, p.2)) := by rw [evS] <;> rfl
@[simp] theorem evS_s52 (C I : CallF) e ρ st : evS C I (S.ret e) ρ st =
    ((evE C I e ρ st).map fun p => (.ret p.1, ρ, p.2)) := by rw [evS] <;> rfl
@[simp] theorem evS_s53 (C I : CallF) ρ st : evS C I (S.retN) ρ st =
    (some (.ret (.d .none), ρ, st)) := by rw [evS] <;> rfl
@[simp] theorem evS_s54 (C I : CallF) f es j k js ρ st : evS C I (S.retl f es j k js) ρ st =
    ((evEs C I es ρ st).bind fun p => (retlS C f j k (capD ρ js) p.1 p.2).map fun q => (.ret (.d q.1), ρ, q.2)) := by rw [evS] <;> rfl
@[simp] theorem evS_s55 (C I : CallF) f es j k js i ρ st : evS C I (S.retd f es j k js i) ρ st =
    (if noVal (ρ[i]?) && isTab j st[j]? then (evEs C I es ρ st).bind fun p => (retlS C f j k (capD ρ js) p.1 p.2).map fun q => (.ret (.d q.1), ρ, q.2) else none) := by rw [evS] <;> rfl
@[simp] theorem evS_s56 (C I : CallF) c a b ρ st : evS C I (S.ite c a b) ρ st =
    ((evE C I c ρ st).bind fun p => (boolOf p.1).bind fun k => if k then evSs C I a ρ p.2 else evSs C I b ρ p.2) := by rw [evS] <;> rfl
@[simp] theorem evS_s57 (C I : CallF) ρ st : evS C I (S.brk) ρ st =
    (some (.brk, ρ, st)) := by rw [evS] <;> rfl
@[simp] theorem evS_s58 (C I : CallF) ρ st : evS C I (S.cnt) ρ st =
    (some (.cnt, ρ, st)) := by rw [evS] <;> rfl
@[simp] theorem evS_s59 (C I : CallF) ρ st : evS C I (S.pas) ρ st =
    (some (.nx, ρ, st)) := by rw [evS] <;> rfl
@[simp] theorem evSs_s60 (C I : CallF) ρ st : evSs C I (Ss.nil) ρ st =
    (some (.nx, ρ, st)) := by rw [evSs] <;> rfl
@[simp] theorem evSs_s61 (C I : CallF) s ss ρ st : evSs C I (Ss.cons s ss) ρ st =
    ((evS C I s ρ st).bind fun p => match p.1 with
    | .nx => evSs C I ss p.2.1 p.2.2
    | o => some (o, p.2.1, p.2.2)) := by rw [evSs] <;> rfl
/-! ### data -/
@[simp] theorem dat_d (st : Sto) (x : PyData) : dat st (.d x) = some x := rfl
@[simp] theorem dOf_d (x : PyData) : dOf (.d x) = some x := rfl
@[simp] theorem intOf_i (i : Int) : intOf (.d (.int i)) = some i := rfl
@[simp] theorem boolOf_b (b : Bool) : boolOf (.d (.bool b)) = some b := rfl
@[simp] theorem allD_nil : allD [] = some [] := rfl
@[simp] theorem allD_cons (x : PyData) (r : List Vl) : allD (.d x :: r) = (allD r).map (x :: ·) := rfl
@[simp] theorem addD_i (i j : Int) : addD (.int i) (.int j) = some (.int (i + j)) := rfl
theorem addD_s (x y : Str) : addD (.str x) (.str y) = if x.length + y.length ≤ sizeL then some (.str (x ++ y)) else none := rfl
theorem addD_l (x y : List PyData) : addD (.list x) (.list y) = if x.length + y.length ≤ sizeL then some (.list (x ++ y)) else none := rfl
theorem addD_t (x y : List PyData) : addD (.tuple x) (.tuple y) = if x.length + y.length ≤ sizeL then some (.tuple (x ++ y)) else none := rfl
def mulOk (i j : Int) : Prop := (-(2 ^ 64) < i ∧ i < 2 ^ 64) ∨ (-(2 ^ 64) < j ∧ j < 2 ^ 64)
@[simp] theorem mulD_i (i j : Int) : mulD (.int i) (.int j) = cif (mulOk i j) (some (.int (i * j))) none := by
  exact cif_eq (p := mulOk i j) (d := inferInstanceAs (Decidable (_ ∨ _))) _ _
theorem mulOk_l {i j : Int} (h : -(2 ^ 64) < i) (h' : i < 2 ^ 64) : mulOk i j := .inl ⟨h, h'⟩
theorem mulOk_r {i j : Int} (h : -(2 ^ 64) < j) (h' : j < 2 ^ 64) : mulOk i j := .inr ⟨h, h'⟩
@[simp] theorem mulOk_ll (n : Nat) (j : Int) (h : n < 1000000000) : mulOk (no_index (OfNat.ofNat n)) j := .inl (by show -(2 ^ 64) < (n : Int) ∧ (n : Int) < 2 ^ 64; omega)
@[simp] theorem mulOk_lr (i : Int) (n : Nat) (h : n < 1000000000) : mulOk i (no_index (OfNat.ofNat n)) := .inr (by show -(2 ^ 64) < (n : Int) ∧ (n : Int) < 2 ^ 64; omega)
@[simp] theorem addD_sc (x y : Str) (h : x.length + y.length ≤ 16777216) : addD (.str x) (.str y) = some (.str (x ++ y)) := if_pos h
@[simp] theorem addD_lc (x y : List PyData) (h : x.length + y.length ≤ 16777216) : addD (.list x) (.list y) = some (.list (x ++ y)) := if_pos h
@[simp] theorem addD_tc (x y : List PyData) (h : x.length + y.length ≤ 16777216) : addD (.tuple x) (.tuple y) = some (.tuple (x ++ y)) := if_pos h
@[simp] theorem binD_add (x y : PyData) : binD .add x y = addD x y := rfl
@[simp] theorem binD_sub (i j : Int) : binD .sub (.int i) (.int j) = some (.int (i - j)) := rfl
@[simp] theorem binD_mul (x y : PyData) : binD .mul x y = mulD x y := rfl
@[simp] theorem binD_fdiv (i j : Int) : binD .fdiv (.int i) (.int j) = cif (0 < j ∧ j < 1073741824) (some (.int (i / j))) none := cif_eq _ _
@[simp] theorem binD_mod (i j : Int) : binD .mod (.int i) (.int j) = cif (0 < j) (some (.int (i % j))) none := cif_eq _ _
@[simp] theorem eqD_i (i j : Int) : eqD (.int i) (.int j) = some (decide (i = j)) := rfl
@[simp] theorem eqD_s (i j : Str) : eqD (.str i) (.str j) = some (decide (i = j)) := rfl
@[simp] theorem cmpD_eq (x y : PyData) : cmpD .eq x y = eqD x y := rfl
@[simp] theorem cmpD_ne (x y : PyData) : cmpD .ne x y = (eqD x y).map (!·) := rfl
@[simp] theorem cmpD_lt (i j : Int) : cmpD .lt (.int i) (.int j) = some (decide (i < j)) := rfl
@[simp] theorem cmpD_le (i j : Int) : cmpD .le (.int i) (.int j) = some (decide (i ≤ j)) := rfl
@[simp] theorem cmpD_gt (i j : Int) : cmpD .gt (.int i) (.int j) = some (decide (j < i)) := rfl
@[simp] theorem cmpD_ge (i j : Int) : cmpD .ge (.int i) (.int j) = some (decide (j ≤ i)) := rfl
@[simp] theorem cmpD_inl (x : PyData) (ys : List PyData) : cmpD .inn x (.list ys) = inD x ys := by cases x <;> rfl
@[simp] theorem cmpD_int (x : PyData) (ys : List PyData) : cmpD .inn x (.tuple ys) = inD x ys := by cases x <;> rfl
@[simp] theorem cmpD_nil (x : PyData) (ys : List PyData) : cmpD .nin x (.list ys) = (inD x ys).map (!·) := by cases x <;> rfl
@[simp] theorem cmpD_nit (x : PyData) (ys : List PyData) : cmpD .nin x (.tuple ys) = (inD x ys).map (!·) := by cases x <;> rfl
@[simp] theorem ixD_l (xs : List PyData) (i : Int) : ixD (.list xs) (.int i) = L2.atI xs i := rfl
@[simp] theorem ixD_t (xs : List PyData) (i : Int) : ixD (.tuple xs) (.int i) = L2.atI xs i := rfl
theorem ixD_s (z : Str) (i : Int) : ixD (.str z) (.int i) = if z.length ≤ sizeL then (L2.atI z.cps.toList i).map fun c => .str ⟨#[c]⟩ else none := rfl
@[simp] theorem slD_l (xs : List PyData) (lo hi : Option Int) : slD (.list xs) lo hi = some (.list (cutD xs lo hi)) := rfl
@[simp] theorem slD_t (xs : List PyData) (lo hi : Option Int) : slD (.tuple xs) lo hi = some (.tuple (cutD xs lo hi)) := rfl
@[simp] theorem scrOf_d (x : PyData) : scrOf (.d x) = none := rfl
@[simp] theorem scrOf_r (n : Nat) : scrOf (.r n) = none := rfl
@[simp] theorem scrOf_s (ns : List Int) : scrOf (.s ns) = some ns := rfl
@[simp] theorem ixS_d (x y : PyData) (st : Sto) : ixS (.d x) (.d y) st = (ixD x y).map fun z => (.d z, st) := rfl
@[simp] theorem ixS_s (ns : List Int) (k : Int) (st : Sto) : ixS (.s ns) (.d (.int k)) st = (L2.atI ns k).map fun n => (.d (.int n), st) := rfl
@[simp] theorem fn1S_d (f : F1) (x : PyData) (st : Sto) : fn1S f (.d x) st = (fn1D f x).map fun z => (.d z, st) := by cases f <;> rfl
@[simp] theorem fn1S_ls (ns : List Int) (st : Sto) : fn1S .len (.s ns) st = some (.d (.int ns.length), st) := rfl
@[simp] theorem fn1D_lenl (xs : List PyData) : fn1D .len (.list xs) = some (.int xs.length) := rfl
@[simp] theorem fn1D_lent (xs : List PyData) : fn1D .len (.tuple xs) = some (.int xs.length) := rfl
@[simp] theorem fn1D_lens (z : Str) : fn1D .len (.str z) = if z.length ≤ sizeL then some (.int z.length) else none := rfl
@[simp] theorem fn1D_sum (xs : List PyData) : fn1D .sum (.list xs) = (intsD xs).map fun ns => .int ns.sum := rfl
@[simp] theorem fn1D_any (xs : List PyData) : fn1D .any (.list xs) = (bolsD xs).map fun bs => .bool (bs.any id) := rfl
@[simp] theorem fn1D_all (xs : List PyData) : fn1D .all (.list xs) = (bolsD xs).map fun bs => .bool (bs.all id) := rfl
@[simp] theorem fn1D_int (i : Int) : fn1D .int (.int i) = some (.int i) := rfl
@[simp] theorem fn1D_intb (b : Bool) : fn1D .int (.bool b) = some (.int (if b then 1 else 0)) := rfl
@[simp] theorem fn1D_stri (i : Int) : fn1D .str (.int i) = if i.natAbs.log2 < 1920 then some (.str (toString i)) else none := rfl
@[simp] theorem fn1D_strs (z : Str) : fn1D .str (.str z) = some (.str z) := rfl
@[simp] theorem fn1D_lstl (xs : List PyData) : fn1D .lst (.list xs) = some (.list xs) := rfl
@[simp] theorem fn1D_lstt (xs : List PyData) : fn1D .lst (.tuple xs) = some (.list xs) := rfl
@[simp] theorem fn1D_tupl (xs : List PyData) : fn1D .tup (.list xs) = some (.tuple xs) := rfl
@[simp] theorem fn1D_tupt (xs : List PyData) : fn1D .tup (.tuple xs) = some (.tuple xs) := rfl
@[simp] theorem tgS_nm (i : Nat) (x : PyData) (ρ : En) : tgS (.nm i) x ρ = some (ρ.set i (some (.d x))) := rfl
@[simp] theorem tgS_tp (is : List Nat) (xs : List PyData) (ρ : En) : tgS (.tp is) (.tuple xs) ρ = setAll is xs ρ := rfl
@[simp] theorem setAll_nil (ρ : En) : setAll [] [] ρ = some ρ := rfl
@[simp] theorem setAll_cons (i : Nat) (is : List Nat) (x : PyData) (xs : List PyData) (ρ : En) : setAll (i :: is) (x :: xs) ρ = setAll is xs (ρ.set i (some (.d x))) := rfl
@[simp] theorem seqI_l (g : List PyData → List PyData) (xs : List PyData) (st : Sto) : seqI g (.d (.list xs)) st = some ((g xs, true), st) := rfl
@[simp] theorem seqT_l (xs : List PyData) (st : Sto) : seqT (.d (.list xs)) st = some ((xs, true), st) := rfl
@[simp] theorem seqT_t (xs : List PyData) (st : Sto) : seqT (.d (.tuple xs)) st = some ((xs, true), st) := rfl
@[simp] theorem seqT_r (n : Nat) (st : Sto) : seqT (.r n) st = seqI id (.r n) st := rfl
@[simp] theorem seqT_f (n : Nat) (a : Str) (st : Sto) : seqT (.f n a) st = seqI id (.f n a) st := rfl
@[simp] theorem seqT_s (z : Str) (st : Sto) : seqT (.d (.str z)) st = if z.length ≤ sizeL then some ((chrs z, true), st) else none := rfl
@[simp] theorem seqI_t (g : List PyData → List PyData) (xs : List PyData) (st : Sto) : seqI g (.d (.tuple xs)) st = some ((g xs, true), st) := rfl
@[simp] theorem wipeE_nil (ρ : En) : wipeE ρ [] = ρ := rfl
@[simp] theorem wipeE_cons (ρ : En) (v : Nat) (vs : List Nat) : wipeE ρ (v :: vs) = (wipeE ρ vs).set v none := rfl
@[simp] theorem tgIs_nm (i : Nat) : tgIs (.nm i) = [i] := rfl
@[simp] theorem tgIs_tp (is : List Nat) : tgIs (.tp is) = is := rfl
@[simp] theorem forS_nil (f : PyData → En → Sto → Option (Out × En × Sto)) (ρ : En) (st : Sto) : forS f [] ρ st = some (.nx, ρ, st) := rfl
@[simp] theorem compS_nil (f : PyData → Sto → Option (Option PyData × Sto)) (st : Sto) : compS f [] st = some ([], st) := rfl
@[simp] theorem retD_d (L : Nat) (st : Sto) (x : PyData) : retD L st (.d x) = some x := rfl
@[simp] theorem finS_nx (L : Nat) (ρ : En) (st : Sto) : finS L (.nx, ρ, st) = some (.none, st.take L) := rfl
@[simp] theorem finS_ret (L : Nat) (v : Vl) (ρ : En) (st : Sto) : finS L (.ret v, ρ, st) = (retD L st v).map fun x => (x, st.take L) := rfl
@[simp] theorem isiD_tup (x : PyData) : isiD "tuple" x = match x with | .tuple _ => true | _ => false := by cases x <;> rfl
@[simp] theorem isiD_str (x : PyData) : isiD "str" x = match x with | .str _ => true | _ => false := by cases x <;> rfl
theorem atI_nat {α : Type} (xs : List α) (k : Nat) : L2.atI xs (k : Int) = xs[k]? := by
  unfold L2.atI L2.ixN
  by_cases h : k < xs.length
  · rw [if_pos (by omega)]; simp [h]
  · rw [if_pos (by omega)]; simp [h]
@[simp] theorem atI_lit {α : Type} (xs : List α) (k : Nat) : L2.atI xs (no_index (OfNat.ofNat k)) = xs[k]? := atI_nat xs k
@[simp] theorem atI_last {α : Type} (xs : List α) : L2.atI xs (-1) = xs[xs.length - 1]? := by
  unfold L2.atI L2.ixN
  rw [if_neg (by omega)]
  cases xs with
  | nil => simp
  | cons x r =>
    have e : (-1 + ((x :: r).length : Int)).toNat = (x :: r).length - 1 := by simp only [List.length_cons]; omega
    rw [if_pos (by simp only [List.length_cons]; omega), Option.bind_some, e]
theorem atI_of {α : Type} {xs : List α} {i : Int} (h0 : 0 ≤ i) : L2.atI xs i = xs[i.toNat]? := by
  obtain ⟨k, rfl⟩ := Int.eq_ofNat_of_zero_le h0
  simpa using atI_nat xs k
theorem atI_mod {α : Type} (xs : List α) (i n : Int) (hn : n = xs.length) (h : 0 < n) : ∃ x ∈ xs, L2.atI xs (i % n) = some x := by
  have h1 : 0 ≤ i % n := Int.emod_nonneg _ (by omega)
  have h2 : i % n < n := Int.emod_lt_of_pos _ h
  rw [atI_of h1]
  have h3 : (i % n).toNat < xs.length := by omega
  exact ⟨_, List.getElem_mem h3, List.getElem?_eq_getElem h3⟩
theorem dat_app {st : Sto} {v : Vl} {x : PyData} (t : Sto) (h : dat st v = some x) : dat (st ++ t) v = some x := by
  cases v with
  | d y => exact h
  | s ns => exact absurd h (by simp [dat])
  | r n =>
    simp only [dat] at h ⊢
    by_cases c : n < st.length
    · rw [List.getElem?_append_left c]; exact h
    · rw [List.getElem?_eq_none (by omega)] at h; exact absurd h (by simp)
  | f n a =>
    simp only [dat] at h ⊢
    by_cases c : n < st.length
    · rw [List.getElem?_append_left c]; exact h
    · rw [List.getElem?_eq_none (by omega)] at h; exact absurd h (by simp)
@[simp] theorem dat_top (st : Sto) (xs : List PyData) : dat (st ++ [.lst xs]) (.r st.length) = some (.list xs) := by simp [dat]
@[simp] theorem setL_top (st : Sto) (xs ys : List PyData) : setL (st ++ [.lst xs]) (.r st.length) ys = some (st ++ [.lst ys]) := by simp [setL]
@[simp] theorem rcvOk_app (st : Sto) (xs : List PyData) : rcvOk .app (.r st.length) (st ++ [.lst xs]) = true := by simp [rcvOk]
@[simp] theorem rcvOk_join (st : Sto) (x : Str) : rcvOk .join (.d (.str x)) st = true := rfl
theorem mt1S_app (st : Sto) (xs : List PyData) (x : PyData) : mt1S .app (.r st.length) (.d x) (st ++ [.lst xs]) = if xs.length < sizeL then some (.d .none, st ++ [.lst (xs ++ [x])]) else none := by simp [mt1S]; rfl
@[simp] theorem mt1S_appc (st : Sto) (xs : List PyData) (x : PyData) (h : xs.length < 16777216) : mt1S .app (.r st.length) (.d x) (st ++ [.lst xs]) = some (.d .none, st ++ [.lst (xs ++ [x])]) := by
  rw [mt1S_app]; exact if_pos h
@[simp] theorem mt1S_join (st : Sto) (x y : PyData) : mt1S .join (.d x) (.d y) st = (mt1D .join x y).map fun z => (.d z, st) := rfl
@[simp] theorem mt1S_joinr (st : Sto) (x : PyData) (n : Nat) : mt1S .join (.d x) (.r n) st = (dat st (.r n)).bind fun y => (mt1D .join x y).map fun z => (.d z, st) := rfl
theorem fn1S_v {v : Vl} (h : scrOf v = none) (f : F1) (st : Sto) : fn1S f v st = (dat st v).bind fun x => (fn1D f x).map fun z => (.d z, st) := by
  unfold fn1S; split
  · rename_i e; rw [h] at e; cases e
  · rfl
theorem ixS_v {v : Vl} (h : scrOf v = none) (y : PyData) (st : Sto) : ixS v (.d y) st = (dat st v).bind fun x => (ixD x y).map fun z => (.d z, st) := by
  unfold ixS; rw [h]; rfl
@[simp] theorem fn1S_r (f : F1) (n : Nat) (st : Sto) : fn1S f (.r n) st = (dat st (.r n)).bind fun x => (fn1D f x).map fun z => (.d z, st) := fn1S_v rfl f st
@[simp] theorem ixS_r (n : Nat) (y : PyData) (st : Sto) : ixS (.r n) (.d y) st = (dat st (.r n)).bind fun x => (ixD x y).map fun z => (.d z, st) := ixS_v rfl y st
theorem compS_cons (f : PyData → Sto → Option (Option PyData × Sto)) (x : PyData) (r : List PyData) (st : Sto) : compS f (x :: r) st = (f x st).bind fun p => (compS f r p.2).map fun q => match p.1 with
      | some y => (y :: q.1, q.2)
      | none => q := rfl
theorem forS_cons (f : PyData → En → Sto → Option (Out × En × Sto)) (x : PyData) (r : List PyData) (ρ : En) (st : Sto) : forS f (x :: r) ρ st = (f x ρ st).bind fun p => match p.1 with
      | .nx => forS f r p.2.1 p.2.2
      | .cnt => forS f r p.2.1 p.2.2
      | .brk => some (.nx, p.2.1, p.2.2)
      | .ret v => some (.ret v, p.2.1, p.2.2) := rfl
theorem forS_nx {f : PyData → En → Sto → Option (Out × En × Sto)} {x : PyData} {r : List PyData} {ρ ρ' : En} {st st' : Sto} (h : f x ρ st = some (.nx, ρ', st')) : forS f (x :: r) ρ st = forS f r ρ' st' := by
  rw [forS_cons, h]; rfl
theorem compS_all {α : Type} (enc : α → PyData) (Q : α → Prop) (f : PyData → Sto → Option (Option PyData × Sto)) (st : Sto) : ∀ xs : List PyData, (∀ x ∈ xs, ∃ y, Q y ∧ f x st = some (some (enc y), st)) →
    ∃ ys : List α, ys.length = xs.length ∧ (∀ y ∈ ys, Q y) ∧ compS f xs st = some (ys.map enc, st)
  | [], _ => ⟨[], rfl, by simp, rfl⟩
  | x :: r, h => by
    obtain ⟨y, hy, e⟩ := h x (by simp)
    obtain ⟨ys, h1, h2, h3⟩ := compS_all enc Q f st r fun x hx => h x (by simp [hx])
    exact ⟨y :: ys, by simp [h1], by simpa using ⟨hy, h2⟩, by rw [compS_cons, e]; simp [h3]⟩
theorem compS_map {α : Type} (pre : α → PyData) (enc : α → PyData) (f : PyData → Sto → Option (Option PyData × Sto)) (st : Sto) : ∀ xs : List α, (∀ x ∈ xs, f (pre x) st = some (some (enc x), st)) → compS f (xs.map pre) st = some (xs.map enc, st)
  | [], _ => rfl
  | x :: r, h => by
    rw [List.map_cons, compS_cons, h x (by simp)]; simp [compS_map pre enc f st r fun x hx => h x (by simp [hx])]
theorem rngL_mem : ∀ (n : Nat) (lo : Int) (x : PyData), x ∈ rngL lo n → ∃ j : Nat, j < n ∧ x = .int (lo + j)
  | 0, _, _, h => absurd h (by simp [rngL])
  | n + 1, lo, x, h => by
    rcases List.mem_cons.mp h with rfl | h
    · exact ⟨0, by omega, by simp⟩
    · obtain ⟨j, h1, rfl⟩ := rngL_mem n (lo + 1) x h
      exact ⟨j + 1, by omega, by congr 1; omega⟩
theorem cutD_fromN {α : Type} (xs : List α) (k : Nat) : cutD xs (some (k : Int)) none = xs.drop k := by
  unfold cutD
  rw [HT.sIx_nat, HT.sIx_none, List.take_of_length_le (by simp)]
  by_cases h : k ≤ xs.length
  · rw [Nat.min_eq_left h]
  · rw [Nat.min_eq_right (by omega), List.drop_eq_nil_of_le (by omega), List.drop_eq_nil_of_le (by omega)]
theorem cutD_toN {α : Type} (xs : List α) (k : Nat) : cutD xs none (some (k : Int)) = xs.take k := by
  unfold cutD
  rw [HT.sIx_nat, HT.sIx_none, Nat.sub_zero, List.drop_zero]
  by_cases h : k ≤ xs.length
  · rw [Nat.min_eq_left h]
  · rw [Nat.min_eq_right (by omega), List.take_of_length_le (by omega), List.take_of_length_le (by omega)]
@[simp] theorem cutD_from {α : Type} (xs : List α) (k : Nat) : cutD xs (some (no_index (OfNat.ofNat k))) none = xs.drop k := cutD_fromN xs k
@[simp] theorem cutD_to {α : Type} (xs : List α) (k : Nat) : cutD xs none (some (no_index (OfNat.ofNat k))) = xs.take k := cutD_toN xs k
@[simp] theorem cutD_mid2 {α : Type} (a b : α) : cutD [a, b] (some 1) (some (-1)) = [] := rfl
@[simp] theorem cutD_mid3 {α : Type} (a b c : α) : cutD [a, b, c] (some 1) (some (-1)) = [b] := rfl
@[simp] theorem cutD_mid4 {α : Type} (a b c d : α) : cutD [a, b, c, d] (some 1) (some (-1)) = [b, c] := rfl
@[simp] theorem eqv_str (a b : Str) : PyData.eqv (.str a) (.str b) = decide (a = b) := by simp only [PyData.eqv]; exact Bool.beq_eq_decide_eq a b
@[simp] theorem flatD_str (a : Str) : flatD (.str a) = true := rfl
@[simp] theorem flatD_int (a : Int) : flatD (.int a) = true := rfl
theorem all_flat_str (ws : List Str) : (ws.map PyData.str).all flatD = true := by
  induction ws with
  | nil => rfl
  | cons w r ih => simp [ih]
@[simp] theorem inD_str (w : Str) (ws : List Str) : inD (.str w) (ws.map .str) = some (decide (w ∈ ws)) := by
  unfold inD
  rw [all_flat_str]
  simp only [flatD_str, Bool.and_self, if_true]
  congr 1
  rw [Bool.eq_iff_iff]
  simp only [List.any_map, List.any_eq_true, Function.comp, eqv_str, decide_eq_true_eq]
  constructor
  · rintro ⟨x, hx, rfl⟩; exact hx
  · intro h; exact ⟨w, h, rfl⟩
theorem strsD_map : ∀ ws : List Str, strsD (ws.map .str) = some ws
  | [] => rfl
  | w :: r => by rw [List.map_cons, strsD, strsD_map r]; rfl
/-! ### dicts -/
theorem kvD_toKv (q : List (Str × PyData)) : ∃ ds, kvD q = .dict ds ∧ toKv ds = some q := ⟨_, rfl, toKv_kvD q⟩
@[simp] theorem cmpD_ind (x : Str) (q : List (Str × PyData)) : cmpD .inn (.str x) (kvD q) = some (lookD q x).isSome := by
  simp only [kvD, cmpD, toKv_kvD, Option.map_some]
@[simp] theorem cmpD_nind (x : Str) (q : List (Str × PyData)) : cmpD .nin (.str x) (kvD q) = some (!(lookD q x).isSome) := by
  simp only [kvD, cmpD, toKv_kvD, Option.map_some]
@[simp] theorem ixD_d (q : List (Str × PyData)) (k : Str) : ixD (kvD q) (.str k) = lookD q k := by
  simp only [kvD, ixD, toKv_kvD, Option.bind_some]
@[simp] theorem keysOf_d (q : List (Str × PyData)) : keysOf (.d (kvD q)) = some (q.map fun t => .str t.1) := by
  simp only [kvD, keysOf, toKv_kvD, Option.map_some]
@[simp] theorem dctOf_d (q : List (Str × PyData)) : dctOf (kvD q) = some q := by
  simp only [kvD, dctOf, toKv_kvD]
@[simp] theorem dctOf_l (xs : List PyData) : dctOf (.list xs) = (prsOf xs).map fun q => mergeD [] q := rfl
@[simp] theorem dat_topd (st : Sto) (q : List (Str × PyData)) : dat (st ++ [.dct q]) (.r st.length) = some (kvD q) := by simp [dat]
@[simp] theorem rcvOk_upd (st : Sto) (q : List (Str × PyData)) : rcvOk .upd (.r st.length) (st ++ [.dct q]) = true := by simp [rcvOk, kvD]
theorem mt1S_updS (st : Sto) (q more : List (Str × PyData)) (v : Vl) (hv : dat (st ++ [.dct q]) v = some (kvD more)) (hr : isR st.length v = false) (h : q.length + more.length ≤ 16777216) : mt1S .upd (.r st.length) v (st ++ [.dct q]) = some (.d .none, st ++ [.dct (mergeD q more)]) := by
  simp [mt1S, hr, hv, kvD, toKv_kvD]
  exact h
@[simp] theorem mt1S_updc (st : Sto) (q more : List (Str × PyData)) (h : q.length + more.length ≤ 16777216) : mt1S .upd (.r st.length) (.d (kvD more)) (st ++ [.dct q]) = some (.d .none, st ++ [.dct (mergeD q more)]) := mt1S_updS st q more _ rfl rfl h
@[simp] theorem ndctS_top (st : Sto) (q : List (Str × PyData)) : ndctS st.length q (st ++ [.dct []]) = some (.r st.length, st ++ [.dct (mergeD [] q)]) := by simp [ndctS]
@[simp] theorem pairUp_nil : pairUp [] = some [] := rfl
@[simp] theorem pairUp_cons (k : Str) (x : PyData) (r : List Vl) : pairUp (.d (.str k) :: .d x :: r) = (pairUp r).map ((k, x) :: ·) := rfl
@[simp] theorem retD_top (st : Sto) (q : List (Str × PyData)) : retD st.length (st ++ [.dct q]) (.r st.length) = some (kvD q) := by simp [retD]
theorem retD_r (L n : Nat) (st : Sto) (h : L ≤ n) : retD L st (.r n) = dat st (.r n) := if_pos h
@[simp] theorem getD_top (st : Sto) (q : MO) : (st ++ [q])[st.length]? = some q := by simp
@[simp] theorem setD_top (st : Sto) (q q' : MO) : (st ++ [q]).set st.length q' = st ++ [q'] := by simp
@[simp] theorem mergeD_nil (q : List (Str × PyData)) : mergeD q [] = q := rfl
@[simp] theorem mergeD_one (k : Str) (x : PyData) : mergeD [] [(k, x)] = [(k, x)] := rfl
@[simp] theorem newD_d (q : List (Str × PyData)) (st : Sto) : newD (kvD q) st = some (.r st.length, st ++ [.dct q]) := by
  simp only [kvD, newD, toKv_kvD, Option.map_some]
def frz1 (n : Nat) (x : PyData) : Option Vl → Option Vl := fun o => match o with
  | some (.r m) => if m = n then some (.d x) else some (.r m)
  | o => o
theorem frzE_map (n : Nat) (x : PyData) (ρ : En) : frzE n x ρ = ρ.map (frz1 n x) := rfl
@[simp] theorem frz1_none (n : Nat) (x : PyData) : frz1 n x none = none := rfl
@[simp] theorem frz1_d (n : Nat) (x y : PyData) : frz1 n x (some (.d y)) = some (.d y) := rfl
@[simp] theorem frz1_r (n : Nat) (x : PyData) : frz1 n x (some (.r n)) = some (.d x) := if_pos rfl
theorem frz1_v {n : Nat} {x : PyData} {v : Vl} (h : isR n v = false) : frz1 n x (some v) = some v := by
  cases v with
  | r m => exact if_neg (by simpa [isR] using h)
  | d _ => rfl
  | f _ _ => rfl
  | s _ => rfl
theorem frzS_top (ρ : En) (st : Sto) (q : List (Str × PyData)) : frzS ρ (st ++ [.dct q]) (some (some (.r st.length))) = some (ρ.map (frz1 st.length (kvD q)), st ++ [.dead]) := by
  simp [frzS, frzE_map]
theorem compS_filter {α : Type} (pre : α → PyData) (enc : α → PyData) (p : α → Bool) (f : PyData → Sto → Option (Option PyData × Sto)) (st : Sto) : ∀ xs : List α, (∀ x ∈ xs, f (pre x) st = some (if p x then some (enc x) else none, st)) → compS f (xs.map pre) st = some ((xs.filter p).map enc, st)
  | [], _ => rfl
  | x :: r, h => by
    have ih := compS_filter pre enc p f st r fun x hx => h x (by simp [hx])
    rw [List.map_cons, compS_cons, h x (by simp)]
    cases hp : p x <;> simp [ih, hp]
/-- dicts whose values are all True -/
def tru (ws : List Str) : List (Str × PyData) := ws.map fun w => (w, .bool true)
@[simp] theorem tru_len (ws : List Str) : (tru ws).length = ws.length := List.length_map ..
@[simp] theorem tru_keys (ws : List Str) : ((tru ws).map fun t => PyData.str t.1) = ws.map .str := by simp [tru]
@[simp] theorem tru_look (ws : List Str) (x : Str) : (lookD (tru ws) x).isSome = decide (x ∈ ws) := by
  unfold lookD tru
  induction ws with
  | nil => rfl
  | cons w r ih =>
    by_cases h : w = x
    · subst h; simp
    · have h' : ¬ x = w := fun e => h e.symm
      simp [h, h'] at ih ⊢
      exact ih
def addW (ws vs : List Str) : List Str := vs.foldl (fun acc v => if v ∈ acc then acc else acc ++ [v]) ws
theorem putD_tru (ws : List Str) (z : Str) : putD (tru ws) z (.bool true) = tru (if z ∈ ws then ws else ws ++ [z]) := by
  unfold putD
  have h : ((tru ws).any fun p => decide (p.1 = z)) = decide (z ∈ ws) := by
    unfold tru
    rw [List.any_map]
    induction ws with
    | nil => rfl
    | cons w r ih =>
      have e : decide (w = z) = decide (z = w) := decide_eq_decide.mpr ⟨Eq.symm, Eq.symm⟩
      simp [List.any_cons, Function.comp] at ih ⊢
      rw [ih, e]
  rw [h]
  by_cases hz : z ∈ ws
  · simp only [hz, decide_true, if_true]
    unfold tru
    rw [List.map_map]
    apply List.map_congr_left
    intro w _
    simp
  · simp [hz, tru]
theorem merge_tru : ∀ (vs ws : List Str), mergeD (tru ws) (tru vs) = tru (addW ws vs)
  | [], ws => rfl
  | v :: vs, ws => by
    show mergeD (putD (tru ws) v (.bool true)) (tru vs) = _
    rw [putD_tru, merge_tru vs]; rfl
theorem merge_tru0 (vs : List Str) : mergeD [] (tru vs) = tru (addW [] vs) := merge_tru vs []
theorem mem_addW (w : Str) : ∀ (vs ws : List Str), w ∈ addW ws vs ↔ w ∈ ws ∨ w ∈ vs
  | [], ws => by simp [addW]
  | v :: vs, ws => by
    show w ∈ addW (if v ∈ ws then ws else ws ++ [v]) vs ↔ _
    rw [mem_addW w vs]
    by_cases h : v ∈ ws
    · simp only [h, if_true, List.mem_cons]
      constructor
      · rintro (h1 | h1)
        · exact .inl h1
        · exact .inr (.inr h1)
      · rintro (h1 | rfl | h1)
        · exact .inl h1
        · exact .inl h
        · exact .inr h1
    · simp only [h, if_false, List.mem_append, List.mem_cons, List.not_mem_nil, or_false, or_assoc]
theorem nodup_addW : ∀ (vs ws : List Str), ws.Nodup → (addW ws vs).Nodup
  | [], ws, h => h
  | v :: vs, ws, h => by
    show (addW (if v ∈ ws then ws else ws ++ [v]) vs).Nodup
    refine nodup_addW vs _ ?_
    by_cases hv : v ∈ ws
    · simpa [hv] using h
    · simp only [hv, if_false]
      refine List.nodup_append.mpr ⟨h, by simp, fun a ha b hb e => ?_⟩
      simp at hb
      exact hv (hb ▸ e ▸ ha)
@[simp] theorem prsOf_tru (ws : List Str) : prsOf (ws.map fun w => .tuple [.str w, .bool true]) = some (tru ws) := by
  induction ws with
  | nil => rfl
  | cons w r ih => rw [List.map_cons, prsOf, ih]; rfl
theorem nodup_len {α : Type} [DecidableEq α] : ∀ (l m : List α), l.Nodup → (∀ x ∈ l, x ∈ m) → l.length ≤ m.length
  | [], m, _, _ => by simp
  | x :: l, m, h, hs => by
    have h1 := (List.nodup_cons.mp h)
    have h2 : ∀ y ∈ l, y ∈ m.erase x := fun y hy => (List.mem_erase_of_ne (fun e : y = x => h1.1 (by rw [← e]; exact hy))).mpr (hs y (by simp [hy]))
    have h3 := nodup_len l (m.erase x) h1.2 h2
    have h4 := List.length_erase_of_mem (hs x (by simp))
    have h5 := List.length_pos_of_mem (hs x (by simp))
    simp only [List.length_cons]
    omega
theorem lookD_map {α : Type} (nm : α → Str) (enc : α → PyData) (f : Str) : ∀ (E : List α), lookD (E.map fun p => (nm p, enc p)) f = (E.find? fun p => decide (nm p = f)).map enc
  | [] => rfl
  | p :: E => by
    have ih := lookD_map nm enc f E
    unfold lookD at ih ⊢
    by_cases h : nm p = f
    · simp [h]
    · simp [h] at ih ⊢
      exact ih
end Tw
/-! printed by gen.py: the defs of the row as texts of the small language -/
namespace Tw
open PySem
/- @ p_maker_of -/
def b_p_maker_of_1 : E :=
  (.var 2)
def b_p_maker_of : Ss :=
  (.cons (.ret (.ix (.comp b_p_maker_of_1 (.nm 2) (.seq (.var 0)) (.some (.cmp .eq (.ix (.var 2) (.cst (.int 0))) (.var 1)))) (.cst (.int 0)))) .nil)
def f_p_maker_of : Fn where
  nm := "maker_of"
  ps := ["book", "name"]
  N := ["book", "name", "maker"]
  body := b_p_maker_of
theorem r_p_maker_of {P : List Fn} (h : P[70]? = some f_p_maker_of) (n : Nat) (x0 x1 : Vl) (st : Sto) : run P (n + 1) 70 [x0, x1] st = (evSs (run P n) (if 2 ≤ n then ini P else noC) b_p_maker_of [some x0, some x1, none] st).bind (finS st.length) := by
  rw [run, evF, show 70 % 1000 = 70 from rfl, h]; rfl
/- @ p_merged -/
def b_p_merged : Ss :=
  (.cons (.ret (.tup (.cons (.bor (.ix (.var 0) (.cst (.int 0))) (.cons (.ix (.var 1) (.cst (.int 0))) .nil)) (.cons (.bor (.ix (.var 0) (.cst (.int 1))) (.cons (.ix (.var 1) (.cst (.int 1))) .nil)) (.cons (.call 75 (.cons (.ix (.var 0) (.cst (.int 2))) (.cons (.ix (.var 1) (.cst (.int 2))) .nil))) .nil))))) .nil)
def f_p_merged : Fn where
  nm := "merged"
  ps := ["one", "other"]
  N := ["one", "other"]
  body := b_p_merged
theorem r_p_merged {P : List Fn} (h : P[74]? = some f_p_merged) (n : Nat) (x0 x1 : Vl) (st : Sto) : run P (n + 1) 74 [x0, x1] st = (evSs (run P n) (if 2 ≤ n then ini P else noC) b_p_merged [some x0, some x1] st).bind (finS st.length) := by
  rw [run, evF, show 74 % 1000 = 74 from rfl, h]; rfl
/- @ p_joined -/
def b_p_joined_1 : E :=
  (.var 2)
def b_p_joined : Ss :=
  (.cons (.ret (.fn1 .tup (.comp b_p_joined_1 (.nm 2) (.seq (.glb "SORTS" (.tuple [(.str "red"), (.str "green"), (.str "blue")]))) (.some (.bor (.cmp .inn (.var 2) (.var 0)) (.cons (.cmp .inn (.var 2) (.var 1)) .nil)))))) .nil)
def f_p_joined : Fn where
  nm := "joined"
  ps := ["one", "other"]
  N := ["one", "other", "sort"]
  body := b_p_joined
theorem r_p_joined {P : List Fn} (h : P[75]? = some f_p_joined) (n : Nat) (x0 x1 : Vl) (st : Sto) : run P (n + 1) 75 [x0, x1] st = (evSs (run P n) (if 2 ≤ n then ini P else noC) b_p_joined [some x0, some x1, none] st).bind (finS st.length) := by
  rw [run, evF, show 75 % 1000 = 75 from rfl, h]; rfl
/- @ p_of_try -/
def b_p_of_try_1 : E :=
  (.var 8)
def b_p_of_try_2 : Ss :=
  (.cons (.ite (.cmp .inn (.var 5) (.ix (.var 2) (.cst (.int 2))))
    (.cons (.asg 3 (.tup (.cons (.ix (.var 3) (.cst (.int 0))) (.cons (.ix (.var 3) (.cst (.int 1))) (.cons (.fn1 .tup (.comp b_p_of_try_1 (.nm 8) (.seq (.ix (.var 3) (.cst (.int 2)))) (.some (.cmp .ne (.var 8) (.var 5))))) .nil))))) .nil)
    .nil) .nil)
def b_p_of_try_3 : Ss :=
  (.cons (.ite (.cmp .inn (.var 5) (.ix (.var 2) (.cst (.int 2))))
    (.cons (.asg 3 (.call 74 (.cons (.var 3) (.cons (.call 78 (.cons (.var 7) (.cons (.var 1) .nil))) .nil)))) .nil)
    .nil) .nil)
def b_p_of_try : Ss :=
  (.cons (.asg 2 (.call 78 (.cons (.ix (.var 0) (.cst (.int 1))) (.cons (.var 1) .nil))))
  (.cons (.asg 3 (.var 2))
  (.cons (.fors (.tp [5, 6, 7]) (.seq (.ix (.var 0) (.cst (.int 2)))) b_p_of_try_2)
  (.cons (.fors (.tp [5, 6, 7]) (.seq (.ix (.var 0) (.cst (.int 2)))) b_p_of_try_3)
  (.cons (.asg 4 (.call 78 (.cons (.ix (.var 0) (.cst (.int 3))) (.cons (.var 1) .nil))))
  (.cons (.ite (.nt (.ix (.var 4) (.cst (.int 0))))
    (.cons (.ret (.var 4)) .nil)
    .nil)
  (.cons (.ret (.tup (.cons (.ix (.var 3) (.cst (.int 0))) (.cons (.bor (.ix (.var 3) (.cst (.int 1))) (.cons (.ix (.var 4) (.cst (.int 1))) .nil)) (.cons (.call 75 (.cons (.ix (.var 3) (.cst (.int 2))) (.cons (.ix (.var 4) (.cst (.int 2))) .nil))) .nil))))) .nil)))))))
def f_p_of_try : Fn where
  nm := "of_try"
  ps := ["deed", "book"]
  N := ["deed", "book", "found", "left", "last", "sort", "name", "block", "one"]
  body := b_p_of_try
theorem r_p_of_try {P : List Fn} (h : P[76]? = some f_p_of_try) (n : Nat) (x0 x1 : Vl) (st : Sto) : run P (n + 1) 76 [x0, x1] st = (evSs (run P n) (if 2 ≤ n then ini P else noC) b_p_of_try [some x0, some x1, none, none, none, none, none, none, none] st).bind (finS st.length) := by
  rw [run, evF, show 76 % 1000 = 76 from rfl, h]; rfl
/- @ p_of_deed -/
def b_p_of_deed : Ss :=
  (.cons (.asg 2 (.ix (.var 0) (.cst (.int 0))))
  (.cons (.ite (.cmp .inn (.var 2) (.tup (.cons (.cst (.str "put")) (.cons (.cst (.str "note")) .nil))))
    (.cons (.ret (.glb "GOES" (.tuple [(.bool true), (.bool false), (.tuple [])]))) .nil)
    .nil)
  (.cons (.ite (.cmp .eq (.var 2) (.cst (.str "tell")))
    (.cons (.ret (.tup (.cons (.cst (.bool false)) (.cons (.cst (.bool true)) (.cons (.tup .nil) .nil))))) .nil)
    .nil)
  (.cons (.ite (.cmp .eq (.var 2) (.cst (.str "throw")))
    (.cons (.ret (.tup (.cons (.cst (.bool false)) (.cons (.cst (.bool false)) (.cons (.tup (.cons (.ix (.var 0) (.cst (.int 1))) .nil)) .nil))))) .nil)
    .nil)
  (.cons (.ite (.cmp .eq (.var 2) (.cst (.str "if")))
    (.cons (.ret (.call 74 (.cons (.call 78 (.cons (.ix (.var 0) (.cst (.int 2))) (.cons (.var 1) .nil))) (.cons (.call 78 (.cons (.ix (.var 0) (.cst (.int 3))) (.cons (.var 1) .nil))) .nil)))) .nil)
    .nil)
  (.cons (.ite (.cmp .eq (.var 2) (.cst (.str "turns")))
    (.cons (.ret (.call 74 (.cons (.glb "GOES" (.tuple [(.bool true), (.bool false), (.tuple [])])) (.cons (.call 78 (.cons (.ix (.var 0) (.cst (.int 2))) (.cons (.var 1) .nil))) .nil)))) .nil)
    .nil)
  (.cons (.ite (.cmp .eq (.var 2) (.cst (.str "call")))
    (.cons (.ret (.tup (.cons (.ix (.ix (.var 1) (.ix (.var 0) (.cst (.int 2)))) (.cst (.int 0))) (.cons (.cst (.bool false)) (.cons (.ix (.ix (.var 1) (.ix (.var 0) (.cst (.int 2)))) (.cst (.int 1))) .nil))))) .nil)
    .nil)
  (.cons (.ret (.call 76 (.cons (.var 0) (.cons (.var 1) .nil)))) .nil))))))))
def f_p_of_deed : Fn where
  nm := "of_deed"
  ps := ["deed", "book"]
  N := ["deed", "book", "word"]
  body := b_p_of_deed
theorem r_p_of_deed {P : List Fn} (h : P[77]? = some f_p_of_deed) (n : Nat) (x0 x1 : Vl) (st : Sto) : run P (n + 1) 77 [x0, x1] st = (evSs (run P n) (if 2 ≤ n then ini P else noC) b_p_of_deed [some x0, some x1, none] st).bind (finS st.length) := by
  rw [run, evF, show 77 % 1000 = 77 from rfl, h]; rfl
/- @ p_of_block -/
def b_p_of_block_1 : Ss :=
  (.cons (.ite (.ix (.var 2) (.cst (.int 0)))
    (.cons (.asg 4 (.call 77 (.cons (.var 3) (.cons (.var 1) .nil))))
    (.cons (.asg 2 (.tup (.cons (.ix (.var 4) (.cst (.int 0))) (.cons (.bor (.ix (.var 2) (.cst (.int 1))) (.cons (.ix (.var 4) (.cst (.int 1))) .nil)) (.cons (.call 75 (.cons (.ix (.var 2) (.cst (.int 2))) (.cons (.ix (.var 4) (.cst (.int 2))) .nil))) .nil))))) .nil))
    .nil) .nil)
def b_p_of_block : Ss :=
  (.cons (.asg 2 (.glb "GOES" (.tuple [(.bool true), (.bool false), (.tuple [])])))
  (.cons (.fors (.nm 3) (.seq (.var 0)) b_p_of_block_1)
  (.cons (.ret (.var 2)) .nil)))
def f_p_of_block : Fn where
  nm := "of_block"
  ps := ["block", "book"]
  N := ["block", "book", "found", "deed", "more"]
  body := b_p_of_block
theorem r_p_of_block {P : List Fn} (h : P[78]? = some f_p_of_block) (n : Nat) (x0 x1 : Vl) (st : Sto) : run P (n + 1) 78 [x0, x1] st = (evSs (run P n) (if 2 ≤ n then ini P else noC) b_p_of_block [some x0, some x1, none, none, none] st).bind (finS st.length) := by
  rw [run, evF, show 78 % 1000 = 78 from rfl, h]; rfl
/- @ p_of_makers -/
def b_p_of_makers_1 : Ss :=
  (.cons (.unp [5, 6, 7] (.call 78 (.cons (.var 4) (.cons (.var 1) .nil))))
  (.cons (.seti (.var 1) (.var 2) (.tup (.cons (.bor (.var 5) (.cons (.var 6) .nil)) (.cons (.var 7) .nil)))) .nil))
def b_p_of_makers : Ss :=
  (.cons (.asg 1 (.ndct .nil))
  (.cons (.fors (.tp [2, 3, 4]) (.seq (.var 0)) b_p_of_makers_1)
  (.cons (.ret (.var 1)) .nil)))
def f_p_of_makers : Fn where
  nm := "of_makers"
  ps := ["makers"]
  N := ["makers", "book", "name", "names", "block", "goes", "tells", "sorts"]
  body := b_p_of_makers
theorem r_p_of_makers {P : List Fn} (h : P[79]? = some f_p_of_makers) (n : Nat) (x0 : Vl) (st : Sto) : run P (n + 1) 79 [x0] st = (evSs (run P n) (if 2 ≤ n then ini P else noC) b_p_of_makers [some x0, none, none, none, none, none, none, none] st).bind (finS st.length) := by
  rw [run, evF, show 79 % 1000 = 79 from rfl, h]; rfl
/- @ p_from_try -/
def b_p_from_try_1 : E :=
  (.ix (.var 4) (.cst (.int 0)))
def b_p_from_try_2 : E :=
  (.var 8)
def b_p_from_try_3 : Ss :=
  (.cons (.ite (.cmp .inn (.var 5) (.ix (.call 78 (.cons (.ix (.var 0) (.cst (.int 1))) (.cons (.var 1) .nil))) (.cst (.int 2))))
    (.cons (.exp (.mt1 .ext (.var 2) (.call 129 (.cons (.var 7) (.cons (.var 1) .nil))))) .nil)
    .nil) .nil)
def b_p_from_try : Ss :=
  (.cons (.asg 2 (.nlst .nil))
  (.cons (.asg 3 (.comp b_p_from_try_1 (.nm 4) (.seq (.ix (.var 0) (.cst (.int 2)))) .none))
  (.cons (.ite (.ix (.call 78 (.cons (.ix (.var 0) (.cst (.int 3))) (.cons (.var 1) .nil))) (.cst (.int 0)))
    (.cons (.exp (.mt1 .ext (.var 2) (.comp b_p_from_try_2 (.nm 8) (.seq (.call 129 (.cons (.ix (.var 0) (.cst (.int 1))) (.cons (.var 1) .nil)))) (.some (.cmp .nin (.ix (.var 8) (.cst (.int 0))) (.var 3))))))
    (.cons (.fors (.tp [5, 6, 7]) (.seq (.ix (.var 0) (.cst (.int 2)))) b_p_from_try_3) .nil))
    .nil)
  (.cons (.ret (.bin .add (.var 2) (.call 129 (.cons (.ix (.var 0) (.cst (.int 3))) (.cons (.var 1) .nil))))) .nil))))
def f_p_from_try : Fn where
  nm := "from_try"
  ps := ["deed", "ways"]
  N := ["deed", "ways", "found", "sorts", "catch", "sort", "name", "block", "pair"]
  body := b_p_from_try
theorem r_p_from_try {P : List Fn} (h : P[127]? = some f_p_from_try) (n : Nat) (x0 x1 : Vl) (st : Sto) : run P (n + 1) 127 [x0, x1] st = (evSs (run P n) (if 2 ≤ n then ini P else noC) b_p_from_try [some x0, some x1, none, none, none, none, none, none, none] st).bind (finS st.length) := by
  rw [run, evF, show 127 % 1000 = 127 from rfl, h]; rfl
/- @ p_from_deed -/
def b_p_from_deed_1 : E :=
  (.tup (.cons (.var 3) (.cons (.ix (.var 0) (.cst (.int 2))) .nil)))
def b_p_from_deed : Ss :=
  (.cons (.asg 2 (.ix (.var 0) (.cst (.int 0))))
  (.cons (.ite (.cmp .eq (.var 2) (.cst (.str "throw")))
    (.cons (.ret (.lst (.cons (.tup (.cons (.ix (.var 0) (.cst (.int 1))) (.cons (.glb "THROW" (.str "throw")) .nil))) .nil))) .nil)
    .nil)
  (.cons (.ite (.cmp .eq (.var 2) (.cst (.str "call")))
    (.cons (.ret (.comp b_p_from_deed_1 (.nm 3) (.seq (.ix (.ix (.var 1) (.ix (.var 0) (.cst (.int 2)))) (.cst (.int 1)))) .none)) .nil)
    .nil)
  (.cons (.ite (.cmp .eq (.var 2) (.cst (.str "if")))
    (.cons (.ret (.bin .add (.call 129 (.cons (.ix (.var 0) (.cst (.int 2))) (.cons (.var 1) .nil))) (.call 129 (.cons (.ix (.var 0) (.cst (.int 3))) (.cons (.var 1) .nil))))) .nil)
    .nil)
  (.cons (.ite (.cmp .eq (.var 2) (.cst (.str "turns")))
    (.cons (.ret (.call 129 (.cons (.ix (.var 0) (.cst (.int 2))) (.cons (.var 1) .nil)))) .nil)
    .nil)
  (.cons (.ite (.cmp .eq (.var 2) (.cst (.str "try")))
    (.cons (.ret (.call 127 (.cons (.var 0) (.cons (.var 1) .nil)))) .nil)
    .nil)
  (.cons (.ret (.lst .nil)) .nil)))))))
def f_p_from_deed : Fn where
  nm := "from_deed"
  ps := ["deed", "ways"]
  N := ["deed", "ways", "word", "sort"]
  body := b_p_from_deed
theorem r_p_from_deed {P : List Fn} (h : P[128]? = some f_p_from_deed) (n : Nat) (x0 x1 : Vl) (st : Sto) : run P (n + 1) 128 [x0, x1] st = (evSs (run P n) (if 2 ≤ n then ini P else noC) b_p_from_deed [some x0, some x1, none, none] st).bind (finS st.length) := by
  rw [run, evF, show 128 % 1000 = 128 from rfl, h]; rfl
/- @ p_from_block -/
def b_p_from_block_1 : Ss :=
  (.cons (.exp (.mt1 .ext (.var 2) (.call 128 (.cons (.var 3) (.cons (.var 1) .nil)))))
  (.cons (.ite (.nt (.ix (.call 77 (.cons (.var 3) (.cons (.var 1) .nil))) (.cst (.int 0))))
    (.cons (.ret (.var 2)) .nil)
    .nil) .nil))
def b_p_from_block : Ss :=
  (.cons (.asg 2 (.nlst .nil))
  (.cons (.fors (.nm 3) (.seq (.var 0)) b_p_from_block_1)
  (.cons (.ret (.var 2)) .nil)))
def f_p_from_block : Fn where
  nm := "from_block"
  ps := ["block", "ways"]
  N := ["block", "ways", "found", "deed"]
  body := b_p_from_block
theorem r_p_from_block {P : List Fn} (h : P[129]? = some f_p_from_block) (n : Nat) (x0 x1 : Vl) (st : Sto) : run P (n + 1) 129 [x0, x1] st = (evSs (run P n) (if 2 ≤ n then ini P else noC) b_p_from_block [some x0, some x1, none, none] st).bind (finS st.length) := by
  rw [run, evF, show 129 % 1000 = 129 from rfl, h]; rfl
/- @ p_sources -/
def b_p_sources : Ss :=
  (.cons (.ret (.fn1 .tup (.fn1 .srtset (.call 129 (.cons (.ix (.call 70 (.cons (.var 0) (.cons (.var 1) .nil))) (.cst (.int 2))) (.cons (.call 79 (.cons (.var 0) .nil)) .nil)))))) .nil)
def f_p_sources : Fn where
  nm := "sources"
  ps := ["book", "name"]
  N := ["book", "name"]
  body := b_p_sources
theorem r_p_sources {P : List Fn} (h : P[130]? = some f_p_sources) (n : Nat) (x0 x1 : Vl) (st : Sto) : run P (n + 1) 130 [x0, x1] st = (evSs (run P n) (if 2 ≤ n then ini P else noC) b_p_sources [some x0, some x1] st).bind (finS st.length) := by
  rw [run, evF, show 130 % 1000 = 130 from rfl, h]; rfl
/- @ l_law_cell_at -/
def b_l_law_cell_at : Ss :=
  (.cons (.ite (.cmp .lt (.var 1) (.fn1 .len (.var 0)))
    (.cons (.ret (.ix (.var 0) (.var 1))) .nil)
    .nil)
  (.cons (.ret (.cst (.int 0))) .nil))
def f_l_law_cell_at : Fn where
  nm := "_law_cell_at"
  ps := ["script", "k"]
  N := ["script", "k"]
  body := b_l_law_cell_at
theorem r_l_law_cell_at {P : List Fn} (h : P[1]? = some f_l_law_cell_at) (n : Nat) (x0 x1 : Vl) (st : Sto) : run P (n + 1) 1 [x0, x1] st = (evSs (run P n) (if 2 ≤ n then ini P else noC) b_l_law_cell_at [some x0, some x1] st).bind (finS st.length) := by
  rw [run, evF, show 1 % 1000 = 1 from rfl, h]; rfl
/- @ l_law_mixed -/
def b_l_law_mixed : Ss :=
  (.cons (.asg 2 (.bin .mod (.bin .mul (.bin .add (.bin .add (.call 1 (.cons (.var 0) (.cons (.var 1) .nil))) (.bin .mul (.cst (.int 7919)) (.var 1))) (.cst (.int 1))) (.cst (.int 48271))) (.cst (.int 2147483647))))
  (.cons (.ret (.bin .mod (.bin .add (.bin .add (.bin .mul (.var 2) (.var 2)) (.bin .mul (.cst (.int 7)) (.var 2))) (.var 1)) (.cst (.int 2147483629)))) .nil))
def f_l_law_mixed : Fn where
  nm := "_law_mixed"
  ps := ["script", "k"]
  N := ["script", "k", "drawn"]
  body := b_l_law_mixed
theorem r_l_law_mixed {P : List Fn} (h : P[2]? = some f_l_law_mixed) (n : Nat) (x0 x1 : Vl) (st : Sto) : run P (n + 1) 2 [x0, x1] st = (evSs (run P n) (if 2 ≤ n then ini P else noC) b_l_law_mixed [some x0, some x1, none] st).bind (finS st.length) := by
  rw [run, evF, show 2 % 1000 = 2 from rfl, h]; rfl
/- @ l_law_drawn -/
def b_l_law_drawn : Ss :=
  (.cons (.asg 2 (.bin .mod (.bin .mul (.bin .add (.bin .add (.var 0) (.bin .mul (.cst (.int 104729)) (.var 1))) (.cst (.int 17))) (.cst (.int 69621))) (.cst (.int 2147483647))))
  (.cons (.ret (.bin .mod (.bin .add (.bin .add (.bin .mul (.var 2) (.var 2)) (.bin .mul (.cst (.int 3)) (.var 2))) (.var 1)) (.cst (.int 2147483629)))) .nil))
def f_l_law_drawn : Fn where
  nm := "_law_drawn"
  ps := ["number", "k"]
  N := ["number", "k", "drawn"]
  body := b_l_law_drawn
theorem r_l_law_drawn {P : List Fn} (h : P[3]? = some f_l_law_drawn) (n : Nat) (x0 x1 : Vl) (st : Sto) : run P (n + 1) 3 [x0, x1] st = (evSs (run P n) (if 2 ≤ n then ini P else noC) b_l_law_drawn [some x0, some x1, none] st).bind (finS st.length) := by
  rw [run, evF, show 3 % 1000 = 3 from rfl, h]; rfl
/- @ l_law_sum -/
def b_l_law_sum : Ss :=
  (.cons (.ite (.bor (.cmp .eq (.var 1) (.cst (.int 0))) (.cons (.cmp .eq (.bin .mod (.var 0) (.cst (.int 3))) (.cst (.int 0))) .nil))
    (.cons (.asg 3 (.lst (.cons (.bin .mod (.bin .fdiv (.var 0) (.cst (.int 3))) (.cst (.int 1000))) (.cons (.bin .mod (.bin .fdiv (.var 0) (.cst (.int 3))) (.cst (.int 4))) (.cons (.ix (.lst (.cons (.cst (.str "a")) (.cons (.cst (.str "b")) (.cons (.cst (.str "c")) (.cons (.cst (.str "d")) .nil))))) (.bin .mod (.bin .fdiv (.var 0) (.cst (.int 12))) (.cst (.int 4)))) .nil)))))
    (.cons (.ret (.ix (.var 3) (.bin .mod (.bin .fdiv (.var 0) (.cst (.int 48))) (.cst (.int 3))))) .nil))
    .nil)
  (.cons (.asg 2 (.ix (.tup (.cons (.cst (.str "plus")) (.cons (.cst (.str "less")) (.cons (.cst (.str "times")) (.cons (.cst (.str "same")) (.cons (.cst (.str "under")) (.cons (.cst (.str "plus")) .nil))))))) (.bin .mod (.bin .fdiv (.var 0) (.cst (.int 3))) (.cst (.int 6)))))
  (.cons (.ret (.tup (.cons (.var 2) (.cons (.call 4 (.cons (.bin .fdiv (.call 3 (.cons (.var 0) (.cons (.cst (.int 1)) .nil))) (.cst (.int 4))) (.cons (.bin .sub (.var 1) (.cst (.int 1))) .nil))) (.cons (.call 4 (.cons (.bin .fdiv (.call 3 (.cons (.var 0) (.cons (.cst (.int 2)) .nil))) (.cst (.int 4))) (.cons (.bin .sub (.var 1) (.cst (.int 1))) .nil))) .nil))))) .nil)))
def f_l_law_sum : Fn where
  nm := "_law_sum"
  ps := ["number", "deep"]
  N := ["number", "deep", "word", "some"]
  body := b_l_law_sum
theorem r_l_law_sum {P : List Fn} (h : P[4]? = some f_l_law_sum) (n : Nat) (x0 x1 : Vl) (st : Sto) : run P (n + 1) 4 [x0, x1] st = (evSs (run P n) (if 2 ≤ n then ini P else noC) b_l_law_sum [some x0, some x1, none, none] st).bind (finS st.length) := by
  rw [run, evF, show 4 % 1000 = 4 from rfl, h]; rfl
/- @ l_law_try -/
def b_l_law_try_1 : Ss :=
  (.cons (.ite (.cmp .eq (.bin .mod (.bin .fdiv (.var 0) (.ix (.tup (.cons (.cst (.int 8)) (.cons (.cst (.int 16)) (.cons (.cst (.int 32)) .nil)))) (.var 5))) (.cst (.int 2))) (.cst (.int 0)))
    (.cons (.asg 7 (.call 7 (.cons (.bin .fdiv (.call 3 (.cons (.var 0) (.cons (.bin .add (.cst (.int 20)) (.var 5)) .nil))) (.cst (.int 4))) (.cons (.var 1) (.cons (.var 2) .nil)))))
    (.cons (.exp (.mt1 .app (.var 3) (.tup (.cons (.var 6) (.cons (.ix (.cst (.str "abcd")) (.bin .mod (.bin .fdiv (.var 0) (.cst (.int 64))) (.cst (.int 4)))) (.cons (.var 7) .nil)))))) .nil))
    .nil) .nil)
def b_l_law_try : Ss :=
  (.cons (.asg 3 (.nlst .nil))
  (.cons (.fors (.tp [5, 6]) (.enm (.ix (.lst (.cons (.tup (.cons (.cst (.str "red")) (.cons (.cst (.str "green")) (.cons (.cst (.str "blue")) .nil)))) (.cons (.tup (.cons (.cst (.str "blue")) (.cons (.cst (.str "red")) (.cons (.cst (.str "green")) .nil)))) .nil))) (.bin .mod (.bin .fdiv (.var 0) (.cst (.int 4))) (.cst (.int 2))))) b_l_law_try_1)
  (.cons (.asg 4 (.tup .nil))
  (.cons (.ite (.cmp .eq (.bin .mod (.bin .fdiv (.var 0) (.cst (.int 256))) (.cst (.int 2))) (.cst (.int 0)))
    (.cons (.asg 4 (.call 7 (.cons (.bin .fdiv (.call 3 (.cons (.var 0) (.cons (.cst (.int 24)) .nil))) (.cst (.int 4))) (.cons (.var 1) (.cons (.var 2) .nil))))) .nil)
    .nil)
  (.cons (.ret (.tup (.cons (.cst (.str "try")) (.cons (.call 7 (.cons (.bin .fdiv (.call 3 (.cons (.var 0) (.cons (.cst (.int 25)) .nil))) (.cst (.int 4))) (.cons (.var 1) (.cons (.var 2) .nil)))) (.cons (.fn1 .tup (.var 3)) (.cons (.var 4) .nil)))))) .nil)))))
def f_l_law_try : Fn where
  nm := "_law_try"
  ps := ["number", "known", "deep"]
  N := ["number", "known", "deep", "catches", "last", "k", "sort", "block"]
  body := b_l_law_try
theorem r_l_law_try {P : List Fn} (h : P[5]? = some f_l_law_try) (n : Nat) (x0 x1 x2 : Vl) (st : Sto) : run P (n + 1) 5 [x0, x1, x2] st = (evSs (run P n) (if 2 ≤ n then ini P else noC) b_l_law_try [some x0, some x1, some x2, none, none, none, none, none] st).bind (finS st.length) := by
  rw [run, evF, show 5 % 1000 = 5 from rfl, h]; rfl
/- @ l_law_deed -/
def b_l_law_deed_1 : E :=
  (.call 4 (.cons (.bin .fdiv (.call 3 (.cons (.var 0) (.cons (.bin .add (.cst (.int 31)) (.var 9)) .nil))) (.cst (.int 4))) (.cons (.cst (.int 1)) .nil)))
def b_l_law_deed_2 : E :=
  (.call 7 (.cons (.bin .fdiv (.call 3 (.cons (.var 0) (.cons (.bin .add (.cst (.int 40)) (.var 9)) .nil))) (.cst (.int 4))) (.cons (.var 1) (.cons (.var 2) .nil))))
def b_l_law_deed : Ss :=
  (.cons (.asg 3 (.bin .mod (.var 0) (.cst (.int 11))))
  (.cons (.asg 4 (.ix (.cst (.str "abcd")) (.bin .mod (.bin .fdiv (.var 0) (.cst (.int 16))) (.cst (.int 4)))))
  (.cons (.asg 5 (.call 4 (.cons (.bin .fdiv (.call 3 (.cons (.var 0) (.cons (.cst (.int 30)) .nil))) (.cst (.int 4))) (.cons (.cst (.int 2)) .nil))))
  (.cons (.ite (.band (.cmp .eq (.var 3) (.cst (.int 10))) (.cons (.cmp .gt (.fn1 .len (.var 1)) (.cst (.int 0))) .nil))
    (.cons (.unp [6, 7] (.ix (.var 1) (.bin .mod (.bin .fdiv (.var 0) (.cst (.int 64))) (.fn1 .len (.var 1)))))
    (.cons (.ret (.tup (.cons (.cst (.str "call")) (.cons (.var 4) (.cons (.var 6) (.cons (.fn1 .tup (.comp b_l_law_deed_1 (.nm 9) (.rng .none .none (.var 7)) .none)) .nil)))))) .nil))
    .nil)
  (.cons (.ite (.band (.cmp .eq (.var 3) (.cst (.int 2))) (.cons (.cmp .gt (.bin .mod (.bin .fdiv (.var 0) (.cst (.int 16))) (.cst (.int 3))) (.cst (.int 0))) .nil))
    (.cons (.ret (.tup (.cons (.cst (.str "tell")) (.cons (.var 5) .nil)))) .nil)
    .nil)
  (.cons (.ite (.cmp .eq (.var 3) (.cst (.int 3)))
    (.cons (.ret (.tup (.cons (.cst (.str "throw")) (.cons (.ix (.tup (.cons (.cst (.str "red")) (.cons (.cst (.str "green")) (.cons (.cst (.str "blue")) .nil)))) (.bin .mod (.bin .fdiv (.var 0) (.cst (.int 16))) (.cst (.int 3)))) (.cons (.var 5) .nil))))) .nil)
    .nil)
  (.cons (.ite (.band (.cmp .gt (.var 3) (.cst (.int 5))) (.cons (.cmp .gt (.var 2) (.cst (.int 0))) .nil))
    (.cons (.ite (.cmp .eq (.var 3) (.cst (.int 6)))
      (.cons (.asg 8 (.comp b_l_law_deed_2 (.nm 9) (.rng .none .none (.cst (.int 2))) .none))
      (.cons (.ret (.tup (.cons (.cst (.str "if")) (.cons (.var 5) (.cons (.ix (.var 8) (.cst (.int 0))) (.cons (.ix (.var 8) (.cst (.int 1))) .nil)))))) .nil))
      .nil)
    (.cons (.ite (.cmp .eq (.var 3) (.cst (.int 7)))
      (.cons (.ret (.tup (.cons (.cst (.str "turns")) (.cons (.var 5) (.cons (.call 7 (.cons (.bin .fdiv (.call 3 (.cons (.var 0) (.cons (.cst (.int 42)) .nil))) (.cst (.int 4))) (.cons (.var 1) (.cons (.var 2) .nil)))) .nil))))) .nil)
      .nil)
    (.cons (.ret (.call 5 (.cons (.bin .fdiv (.var 0) (.cst (.int 16))) (.cons (.var 1) (.cons (.var 2) .nil))))) .nil)))
    .nil)
  (.cons (.ret (.ix (.lst (.cons (.tup (.cons (.cst (.str "note")) (.cons (.var 5) .nil))) (.cons (.tup (.cons (.cst (.str "put")) (.cons (.var 4) (.cons (.var 5) .nil)))) .nil))) (.bin .mod (.bin .fdiv (.var 0) (.cst (.int 512))) (.cst (.int 2))))) .nil))))))))
def f_l_law_deed : Fn where
  nm := "_law_deed"
  ps := ["number", "known", "deep"]
  N := ["number", "known", "deep", "kind", "name", "amount", "maker", "many", "blocks", "k"]
  body := b_l_law_deed
theorem r_l_law_deed {P : List Fn} (h : P[6]? = some f_l_law_deed) (n : Nat) (x0 x1 x2 : Vl) (st : Sto) : run P (n + 1) 6 [x0, x1, x2] st = (evSs (run P n) (if 2 ≤ n then ini P else noC) b_l_law_deed [some x0, some x1, some x2, none, none, none, none, none, none, none] st).bind (finS st.length) := by
  rw [run, evF, show 6 % 1000 = 6 from rfl, h]; rfl
/- @ l_law_block -/
def b_l_law_block_1 : E :=
  (.call 6 (.cons (.bin .fdiv (.call 3 (.cons (.var 0) (.cons (.bin .add (.cst (.int 50)) (.var 4)) .nil))) (.cst (.int 4))) (.cons (.var 1) (.cons (.bin .sub (.var 2) (.cst (.int 1))) .nil))))
def b_l_law_block : Ss :=
  (.cons (.ite (.cmp .eq (.var 2) (.cst (.int 0)))
    (.cons (.ret (.tup .nil)) .nil)
    .nil)
  (.cons (.asg 3 (.ix (.tup (.cons (.cst (.int 1)) (.cons (.cst (.int 2)) (.cons (.cst (.int 3)) (.cons (.cst (.int 2)) (.cons (.cst (.int 0)) (.cons (.cst (.int 4)) .nil))))))) (.bin .mod (.var 0) (.cst (.int 6)))))
  (.cons (.ret (.fn1 .tup (.comp b_l_law_block_1 (.nm 4) (.rng .none .none (.var 3)) .none))) .nil)))
def f_l_law_block : Fn where
  nm := "_law_block"
  ps := ["number", "known", "deep"]
  N := ["number", "known", "deep", "many", "k"]
  body := b_l_law_block
theorem r_l_law_block {P : List Fn} (h : P[7]? = some f_l_law_block) (n : Nat) (x0 x1 x2 : Vl) (st : Sto) : run P (n + 1) 7 [x0, x1, x2] st = (evSs (run P n) (if 2 ≤ n then ini P else noC) b_l_law_block [some x0, some x1, some x2, none, none] st).bind (finS st.length) := by
  rw [run, evF, show 7 % 1000 = 7 from rfl, h]; rfl
/- @ l_law_book -/
def b_l_law_book_1 : Ss :=
  (.cons (.asg 4 (.bin .fdiv (.call 3 (.cons (.var 0) (.cons (.var 3) .nil))) (.cst (.int 4))))
  (.cons (.asg 5 (.ix (.lst (.cons (.tup .nil) (.cons (.tup (.cons (.cst (.str "a")) .nil)) (.cons (.tup (.cons (.cst (.str "b")) (.cons (.cst (.str "a")) .nil))) (.cons (.tup (.cons (.cst (.str "a")) (.cons (.cst (.str "b")) (.cons (.cst (.str "c")) .nil)))) .nil))))) (.bin .mod (.var 4) (.cst (.int 4)))))
  (.cons (.asg 6 (.ix (.lst (.cons (.cst (.str "one")) (.cons (.cst (.str "f")) (.cons (.cst (.str "two")) (.cons (.cst (.str "go")) .nil))))) (.var 3)))
  (.cons (.asg 7 (.call 7 (.cons (.bin .fdiv (.var 4) (.cst (.int 4))) (.cons (.var 1) (.cons (.bin .add (.cst (.int 2)) (.bin .mod (.bin .fdiv (.var 4) (.cst (.int 32))) (.cst (.int 3)))) .nil)))))
  (.cons (.asg 2 (.bin .add (.var 2) (.tup (.cons (.tup (.cons (.var 6) (.cons (.var 5) (.cons (.var 7) .nil)))) .nil))))
  (.cons (.exp (.mt1 .app (.var 1) (.tup (.cons (.var 6) (.cons (.fn1 .len (.var 5)) .nil))))) .nil))))))
def b_l_law_book : Ss :=
  (.cons (.asg 1 (.nlst .nil))
  (.cons (.asg 2 (.tup .nil))
  (.cons (.fors (.nm 3) (.rng .none .none (.ix (.tup (.cons (.cst (.int 2)) (.cons (.cst (.int 1)) (.cons (.cst (.int 3)) (.cons (.cst (.int 4)) (.cons (.cst (.int 2)) (.cons (.cst (.int 3)) .nil))))))) (.bin .mod (.var 0) (.cst (.int 6))))) b_l_law_book_1)
  (.cons (.ret (.var 2)) .nil))))
def f_l_law_book : Fn where
  nm := "_law_book"
  ps := ["number"]
  N := ["number", "known", "found", "k", "drawn", "names", "name", "block"]
  body := b_l_law_book
theorem r_l_law_book {P : List Fn} (h : P[8]? = some f_l_law_book) (n : Nat) (x0 : Vl) (st : Sto) : run P (n + 1) 8 [x0] st = (evSs (run P n) (if 2 ≤ n then ini P else noC) b_l_law_book [some x0, none, none, none, none, none, none, none] st).bind (finS st.length) := by
  rw [run, evF, show 8 % 1000 = 8 from rfl, h]; rfl
/- @ l_law_both -/
def b_l_law_both : Ss :=
  (.cons (.asg 2 (.ndc1 (.var 0)))
  (.cons (.exp (.mt1 .upd (.var 2) (.var 1)))
  (.cons (.ret (.var 2)) .nil)))
def f_l_law_both : Fn where
  nm := "_law_both"
  ps := ["one", "other"]
  N := ["one", "other", "found"]
  body := b_l_law_both
theorem r_l_law_both {P : List Fn} (h : P[82]? = some f_l_law_both) (n : Nat) (x0 x1 : Vl) (st : Sto) : run P (n + 1) 82 [x0, x1] st = (evSs (run P n) (if 2 ≤ n then ini P else noC) b_l_law_both [some x0, some x1, none] st).bind (finS st.length) := by
  rw [run, evF, show 82 % 1000 = 82 from rfl, h]; rfl
/- @ l_law_may -/
def b_l_law_may_1 : E :=
  (.tup (.cons (.var 4) (.cons (.cst (.bool true)) .nil)))
def b_l_law_may_2 : Ss :=
  (.cons (.ite (.cmp .inn (.cst (.str "on")) (.var 2))
    (.cons (.frz 2)
    (.cons (.asg 2 (.ndc1 (.comp b_l_law_may_1 (.nm 4) (.keys (.var 2)) (.some (.cmp .ne (.var 4) (.cst (.str "on")))))))
    (.cons (.exp (.mt1 .upd (.var 2) (.call 84 (.cons (.var 3) (.cons (.var 1) .nil))))) .nil)))
    .nil) .nil)
def b_l_law_may : Ss :=
  (.cons (.asg 2 (.ndct (.cons (.cst (.str "on")) (.cons (.cst (.bool true)) .nil))))
  (.cons (.fors (.nm 3) (.seq (.var 0)) b_l_law_may_2)
  (.cons (.ret (.var 2)) .nil)))
def f_l_law_may : Fn where
  nm := "_law_may"
  ps := ["block", "book"]
  N := ["block", "book", "found", "deed", "word"]
  body := b_l_law_may
theorem r_l_law_may {P : List Fn} (h : P[83]? = some f_l_law_may) (n : Nat) (x0 x1 : Vl) (st : Sto) : run P (n + 1) 83 [x0, x1] st = (evSs (run P n) (if 2 ≤ n then ini P else noC) b_l_law_may [some x0, some x1, none, none, none] st).bind (finS st.length) := by
  rw [run, evF, show 83 % 1000 = 83 from rfl, h]; rfl
/- @ l_law_ways -/
def b_l_law_ways_1 : E :=
  (.tup (.cons (.var 4) (.cons (.cst (.bool true)) .nil)))
def b_l_law_ways : Ss :=
  (.cons (.asg 2 (.ix (.var 0) (.cst (.int 0))))
  (.cons (.ite (.cmp .eq (.var 2) (.cst (.str "tell")))
    (.cons (.ret (.ndct (.cons (.cst (.str "tell")) (.cons (.cst (.bool true)) .nil)))) .nil)
    .nil)
  (.cons (.ite (.cmp .eq (.var 2) (.cst (.str "throw")))
    (.cons (.ret (.ndct (.cons (.ix (.var 0) (.cst (.int 1))) (.cons (.cst (.bool true)) .nil)))) .nil)
    .nil)
  (.cons (.ite (.cmp .eq (.var 2) (.cst (.str "if")))
    (.cons (.ret (.call 82 (.cons (.call 83 (.cons (.ix (.var 0) (.cst (.int 2))) (.cons (.var 1) .nil))) (.cons (.call 83 (.cons (.ix (.var 0) (.cst (.int 3))) (.cons (.var 1) .nil))) .nil)))) .nil)
    .nil)
  (.cons (.ite (.cmp .eq (.var 2) (.cst (.str "turns")))
    (.cons (.ret (.call 82 (.cons (.ndct (.cons (.cst (.str "on")) (.cons (.cst (.bool true)) .nil))) (.cons (.call 83 (.cons (.ix (.var 0) (.cst (.int 2))) (.cons (.var 1) .nil))) .nil)))) .nil)
    .nil)
  (.cons (.ite (.cmp .eq (.var 2) (.cst (.str "call")))
    (.cons (.asg 3 (.ndc1 (.comp b_l_law_ways_1 (.nm 4) (.keys (.ix (.var 1) (.ix (.var 0) (.cst (.int 2))))) (.some (.cmp .nin (.var 4) (.tup (.cons (.cst (.str "on")) (.cons (.cst (.str "tell")) .nil))))))))
    (.cons (.ite (.bor (.cmp .inn (.cst (.str "on")) (.ix (.var 1) (.ix (.var 0) (.cst (.int 2))))) (.cons (.cmp .inn (.cst (.str "tell")) (.ix (.var 1) (.ix (.var 0) (.cst (.int 2))))) .nil))
      (.cons (.seti (.var 3) (.cst (.str "on")) (.cst (.bool true))) .nil)
      .nil)
    (.cons (.ret (.var 3)) .nil)))
    .nil)
  (.cons (.ite (.cmp .eq (.var 2) (.cst (.str "try")))
    (.cons (.ret (.call 85 (.cons (.var 0) (.cons (.var 1) .nil)))) .nil)
    .nil)
  (.cons (.ret (.ndct (.cons (.cst (.str "on")) (.cons (.cst (.bool true)) .nil)))) .nil))))))))
def f_l_law_ways : Fn where
  nm := "_law_ways"
  ps := ["deed", "book"]
  N := ["deed", "book", "word", "found", "one"]
  body := b_l_law_ways
theorem r_l_law_ways {P : List Fn} (h : P[84]? = some f_l_law_ways) (n : Nat) (x0 x1 : Vl) (st : Sto) : run P (n + 1) 84 [x0, x1] st = (evSs (run P n) (if 2 ≤ n then ini P else noC) b_l_law_ways [some x0, some x1, none, none, none] st).bind (finS st.length) := by
  rw [run, evF, show 84 % 1000 = 84 from rfl, h]; rfl
/- @ l_law_try_ways -/
def b_l_law_try_ways_1 : E :=
  (.var 10)
def b_l_law_try_ways_2 : E :=
  (.tup (.cons (.var 11) (.cons (.cst (.bool true)) .nil)))
def b_l_law_try_ways_3 : E :=
  (.ix (.var 10) (.cst (.int 0)))
def b_l_law_try_ways_4 : Ss :=
  (.cons (.asg 4 (.call 82 (.cons (.var 4) (.cons (.call 83 (.cons (.var 9) (.cons (.var 1) .nil))) .nil)))) .nil)
def b_l_law_try_ways_5 : E :=
  (.tup (.cons (.var 11) (.cons (.cst (.bool true)) .nil)))
def b_l_law_try_ways : Ss :=
  (.cons (.asg 2 (.call 83 (.cons (.ix (.var 0) (.cst (.int 1))) (.cons (.var 1) .nil))))
  (.cons (.asg 3 (.comp b_l_law_try_ways_1 (.nm 10) (.seq (.ix (.var 0) (.cst (.int 2)))) (.some (.cmp .inn (.ix (.var 10) (.cst (.int 0))) (.var 2)))))
  (.cons (.asg 4 (.ndc1 (.comp b_l_law_try_ways_2 (.nm 11) (.keys (.var 2)) (.some (.cmp .nin (.var 11) (.comp b_l_law_try_ways_3 (.nm 10) (.seq (.var 3)) .none))))))
  (.cons (.fors (.tp [7, 8, 9]) (.seq (.var 3)) b_l_law_try_ways_4)
  (.cons (.asg 5 (.call 83 (.cons (.ix (.var 0) (.cst (.int 3))) (.cons (.var 1) .nil))))
  (.cons (.ite (.cmp .nin (.cst (.str "on")) (.var 5))
    (.cons (.ret (.var 5)) .nil)
    .nil)
  (.cons (.asg 6 (.ndc1 (.comp b_l_law_try_ways_5 (.nm 11) (.keys (.var 5)) (.some (.cmp .ne (.var 11) (.cst (.str "on")))))))
  (.cons (.ret (.call 82 (.cons (.var 4) (.cons (.var 6) .nil)))) .nil))))))))
def f_l_law_try_ways : Fn where
  nm := "_law_try_ways"
  ps := ["deed", "book"]
  N := ["deed", "book", "first", "caught", "found", "last", "rest", "sort", "name", "block", "catch", "one"]
  body := b_l_law_try_ways
theorem r_l_law_try_ways {P : List Fn} (h : P[85]? = some f_l_law_try_ways) (n : Nat) (x0 x1 : Vl) (st : Sto) : run P (n + 1) 85 [x0, x1] st = (evSs (run P n) (if 2 ≤ n then ini P else noC) b_l_law_try_ways [some x0, some x1, none, none, none, none, none, none, none, none, none, none] st).bind (finS st.length) := by
  rw [run, evF, show 85 % 1000 = 85 from rfl, h]; rfl
/- @ l_law_makers_may -/
def b_l_law_makers_may_1 : Ss :=
  (.cons (.seti (.var 1) (.var 2) (.call 83 (.cons (.var 4) (.cons (.var 1) .nil)))) .nil)
def b_l_law_makers_may : Ss :=
  (.cons (.asg 1 (.ndct .nil))
  (.cons (.fors (.tp [2, 3, 4]) (.seq (.var 0)) b_l_law_makers_may_1)
  (.cons (.ret (.var 1)) .nil)))
def f_l_law_makers_may : Fn where
  nm := "_law_makers_may"
  ps := ["makers"]
  N := ["makers", "book", "name", "names", "block"]
  body := b_l_law_makers_may
theorem r_l_law_makers_may {P : List Fn} (h : P[86]? = some f_l_law_makers_may) (n : Nat) (x0 : Vl) (st : Sto) : run P (n + 1) 86 [x0] st = (evSs (run P n) (if 2 ≤ n then ini P else noC) b_l_law_makers_may [some x0, none, none, none, none] st).bind (finS st.length) := by
  rw [run, evF, show 86 % 1000 = 86 from rfl, h]; rfl
/- @ l_law_from -/
def b_l_law_from_1 : E :=
  (.tup (.cons (.var 8) (.cons (.ix (.var 3) (.cst (.int 2))) .nil)))
def b_l_law_from_2 : Ss :=
  (.cons (.asg 2 (.nadd (.var 2) (.call 131 (.cons (.var 5) (.cons (.var 1) .nil))))) .nil)
def b_l_law_from_3 : E :=
  (.var 10)
def b_l_law_from_4 : E :=
  (.ix (.var 11) (.cst (.int 0)))
def b_l_law_from_5 : Ss :=
  (.cons (.ite (.cmp .inn (.var 8) (.var 6))
    (.cons (.asg 7 (.bin .add (.var 7) (.call 131 (.cons (.var 5) (.cons (.var 1) .nil))))) .nil)
    .nil) .nil)
def b_l_law_from_6 : Ss :=
  (.cons (.asg 4 (.ix (.var 3) (.cst (.int 0))))
  (.cons (.ite (.cmp .eq (.var 4) (.cst (.str "throw")))
    (.cons (.exp (.mt1 .app (.var 2) (.tup (.cons (.ix (.var 3) (.cst (.int 1))) (.cons (.cst (.str "throw")) .nil))))) .nil)
    .nil)
  (.cons (.ite (.cmp .eq (.var 4) (.cst (.str "call")))
    (.cons (.asg 2 (.nadd (.var 2) (.comp b_l_law_from_1 (.nm 8) (.seq (.tup (.cons (.cst (.str "red")) (.cons (.cst (.str "green")) (.cons (.cst (.str "blue")) .nil))))) (.some (.cmp .inn (.var 8) (.ix (.var 1) (.ix (.var 3) (.cst (.int 2))))))))) .nil)
    .nil)
  (.cons (.ite (.cmp .inn (.var 4) (.tup (.cons (.cst (.str "if")) (.cons (.cst (.str "turns")) .nil))))
    (.cons (.fors (.nm 5) (.seq (.sl (.var 3) (.some (.cst (.int 2))) .none)) b_l_law_from_2) .nil)
    .nil)
  (.cons (.ite (.cmp .eq (.var 4) (.cst (.str "try")))
    (.cons (.asg 6 (.call 83 (.cons (.ix (.var 3) (.cst (.int 1))) (.cons (.var 1) .nil))))
    (.cons (.asg 7 (.comp b_l_law_from_3 (.nm 10) (.seq (.call 131 (.cons (.ix (.var 3) (.cst (.int 1))) (.cons (.var 1) .nil)))) (.some (.cmp .nin (.ix (.var 10) (.cst (.int 0))) (.comp b_l_law_from_4 (.nm 11) (.seq (.ix (.var 3) (.cst (.int 2)))) .none)))))
    (.cons (.fors (.tp [8, 9, 5]) (.seq (.ix (.var 3) (.cst (.int 2)))) b_l_law_from_5)
    (.cons (.ite (.cmp .inn (.cst (.str "on")) (.call 83 (.cons (.ix (.var 3) (.cst (.int 3))) (.cons (.var 1) .nil))))
      (.cons (.asg 2 (.nadd (.var 2) (.var 7))) .nil)
      .nil)
    (.cons (.asg 2 (.nadd (.var 2) (.call 131 (.cons (.ix (.var 3) (.cst (.int 3))) (.cons (.var 1) .nil))))) .nil)))))
    .nil)
  (.cons (.ite (.cmp .nin (.cst (.str "on")) (.call 84 (.cons (.var 3) (.cons (.var 1) .nil))))
    (.cons .brk .nil)
    .nil) .nil))))))
def b_l_law_from : Ss :=
  (.cons (.asg 2 (.nlst .nil))
  (.cons (.fors (.nm 3) (.seq (.var 0)) b_l_law_from_6)
  (.cons (.ret (.var 2)) .nil)))
def f_l_law_from : Fn where
  nm := "_law_from"
  ps := ["block", "book"]
  N := ["block", "book", "found", "deed", "word", "part", "first", "inner", "sort", "name", "pair", "catch"]
  body := b_l_law_from
theorem r_l_law_from {P : List Fn} (h : P[131]? = some f_l_law_from) (n : Nat) (x0 x1 : Vl) (st : Sto) : run P (n + 1) 131 [x0, x1] st = (evSs (run P n) (if 2 ≤ n then ini P else noC) b_l_law_from [some x0, some x1, none, none, none, none, none, none, none, none, none, none] st).bind (finS st.length) := by
  rw [run, evF, show 131 % 1000 = 131 from rfl, h]; rfl
/- @ law_k80 -/
def b_law_k80_1 : Ss :=
  (.cons (.ite (.cmp .ne (.call 130 (.cons (.var 1) (.cons (.var 3) .nil))) (.fn1 .tup (.fn1 .srtset (.call 131 (.cons (.var 5) (.cons (.var 2) .nil))))))
    (.cons (.ret (.cst (.bool false))) .nil)
    .nil) .nil)
def b_law_k80 : Ss :=
  (.cons (.asg 1 (.call 8 (.cons (.call 2 (.cons (.var 0) (.cons (.cst (.int 0)) .nil))) .nil)))
  (.cons (.asg 2 (.call 86 (.cons (.var 1) .nil)))
  (.cons (.fors (.tp [3, 4, 5]) (.seq (.var 1)) b_law_k80_1)
  (.cons (.ret (.cst (.bool true))) .nil))))
def f_law_k80 : Fn where
  nm := "law"
  ps := ["script"]
  N := ["script", "book", "ways", "name", "names", "block"]
  body := b_law_k80
theorem r_law_k80 {P : List Fn} (h : P[0]? = some f_law_k80) (n : Nat) (x0 : Vl) (st : Sto) : run P (n + 1) 0 [x0] st = (evSs (run P n) (if 2 ≤ n then ini P else noC) b_law_k80 [some x0, none, none, none, none, none] st).bind (finS st.length) := by
  rw [run, evF, show 0 % 1000 = 0 from rfl, h]; rfl
/- @ -/
end Tw
namespace Tw.K80
open PySem Tw
def P : List Fn := [f_law_k80, f_l_law_cell_at, f_l_law_mixed, f_l_law_drawn, f_l_law_sum, f_l_law_try, f_l_law_deed, f_l_law_block, f_l_law_book, f_l_law_cell_at, f_l_law_cell_at, f_l_law_cell_at, f_l_law_cell_at, f_l_law_cell_at, f_l_law_cell_at, f_l_law_cell_at, f_l_law_cell_at, f_l_law_cell_at, f_l_law_cell_at, f_l_law_cell_at, f_l_law_cell_at, f_l_law_cell_at, f_l_law_cell_at, f_l_law_cell_at, f_l_law_cell_at, f_l_law_cell_at, f_l_law_cell_at, f_l_law_cell_at, f_l_law_cell_at, f_l_law_cell_at, f_l_law_cell_at, f_l_law_cell_at, f_l_law_cell_at, f_l_law_cell_at, f_l_law_cell_at, f_l_law_cell_at, f_l_law_cell_at, f_l_law_cell_at, f_l_law_cell_at, f_l_law_cell_at, f_l_law_cell_at, f_l_law_cell_at, f_l_law_cell_at, f_l_law_cell_at, f_l_law_cell_at, f_l_law_cell_at, f_l_law_cell_at, f_l_law_cell_at, f_l_law_cell_at, f_l_law_cell_at, f_l_law_cell_at, f_l_law_cell_at, f_l_law_cell_at, f_l_law_cell_at, f_l_law_cell_at, f_l_law_cell_at, f_l_law_cell_at, f_l_law_cell_at, f_l_law_cell_at, f_l_law_cell_at, f_l_law_cell_at, f_l_law_cell_at, f_l_law_cell_at, f_l_law_cell_at, f_l_law_cell_at, f_l_law_cell_at, f_l_law_cell_at, f_l_law_cell_at, f_l_law_cell_at, f_l_law_cell_at, f_p_maker_of, f_l_law_cell_at, f_l_law_cell_at, f_l_law_cell_at, f_p_merged, f_p_joined, f_p_of_try, f_p_of_deed, f_p_of_block, f_p_of_makers, f_l_law_cell_at, f_l_law_cell_at, f_l_law_both, f_l_law_may, f_l_law_ways, f_l_law_try_ways, f_l_law_makers_may, f_l_law_cell_at, f_l_law_cell_at, f_l_law_cell_at, f_l_law_cell_at, f_l_law_cell_at, f_l_law_cell_at, f_l_law_cell_at, f_l_law_cell_at, f_l_law_cell_at, f_l_law_cell_at, f_l_law_cell_at, f_l_law_cell_at, f_l_law_cell_at, f_l_law_cell_at, f_l_law_cell_at, f_l_law_cell_at, f_l_law_cell_at, f_l_law_cell_at, f_l_law_cell_at, f_l_law_cell_at, f_l_law_cell_at, f_l_law_cell_at, f_l_law_cell_at, f_l_law_cell_at, f_l_law_cell_at, f_l_law_cell_at, f_l_law_cell_at, f_l_law_cell_at, f_l_law_cell_at, f_l_law_cell_at, f_l_law_cell_at, f_l_law_cell_at, f_l_law_cell_at, f_l_law_cell_at, f_l_law_cell_at, f_l_law_cell_at, f_l_law_cell_at, f_l_law_cell_at, f_l_law_cell_at, f_l_law_cell_at, f_p_from_try, f_p_from_deed, f_p_from_block, f_p_sources, f_l_law_from]
def G : SI where
  P := P
  cls := []
  blts := ["dict", "enumerate", "len", "range", "set", "sorted", "tuple"]
  consts := [("GOES", (.tuple [(.bool true), (.bool false), (.tuple [])])), ("SORTS", (.tuple [(.str "red"), (.str "green"), (.str "blue")])), ("THROW", (.str "throw"))]
end Tw.K80
set_option Elab.async false
set_option linter.all false
set_option maxRecDepth 100000
/-! D2: sums, the book that the laws draw. -/
namespace Tw
open PySem
inductive Sm where
  | num (i : Int)
  | nm (x : Str)
  | op (w : Str) (a b : Sm)
def Sm.enc : Sm → PyData
  | .num i => .int i
  | .nm x => .str x
  | .op w a b => .tuple [.str w, a.enc, b.enc]
def names4 : List Str := ["a", "b", "c", "d"]
def words5 : List Str := ["plus", "less", "times", "same", "under"]
/-- a drawn sum of that depth at most -/
def Sm.ok : Nat → Sm → Prop
  | _, .num i => 0 ≤ i ∧ i < 1000
  | _, .nm x => x ∈ names4
  | 0, .op _ _ _ => False
  | k + 1, .op w a b => w ∈ words5 ∧ a.ok k ∧ b.ok k
/-- the helpers by which the laws draw -/
structure Gen (P : List Fn) : Prop where
  cell : P[1]? = some f_l_law_cell_at
  mixed : P[2]? = some f_l_law_mixed
  drawn : P[3]? = some f_l_law_drawn
  sum : P[4]? = some f_l_law_sum
variable {P : List Fn}
def drawnI (a k : Int) : Int := (((a + 104729 * k + 17) * 69621 % 2147483647) * ((a + 104729 * k + 17) * 69621 % 2147483647) + 3 * ((a + 104729 * k + 17) * 69621 % 2147483647) + k) % 2147483629
theorem g_drawn (h : Gen P) (n : Nat) (hn : 1 ≤ n) (a k : Int) (st : Sto) : run P n 3 [.d (.int a), .d (.int k)] st = some (.int (drawnI a k), st) := by
  obtain ⟨m, rfl⟩ : ∃ m, n = m + 1 := ⟨n - 1, by omega⟩
  have c1 : mulOk ((a + 104729 * k + 17) * 69621 % 2147483647) ((a + 104729 * k + 17) * 69621 % 2147483647) := .inl ⟨by omega, by omega⟩
  rw [r_l_law_drawn h.drawn]
  simp [b_l_law_drawn, c1, drawnI]
theorem drawnI_pos (a k : Int) : 0 ≤ drawnI a k := by unfold drawnI; omega
theorem g_cell (h : Gen P) (n : Nat) (hn : 1 ≤ n) (ns : List Int) (k : Nat) (st : Sto) : run P n 1 [.s ns, .d (.int k)] st = some (.int (ns[k]?.getD 0), st) := by
  obtain ⟨m, rfl⟩ : ∃ m, n = m + 1 := ⟨n - 1, by omega⟩
  rw [r_l_law_cell_at h.cell]
  by_cases c : k < ns.length
  · simp [b_l_law_cell_at, c, atI_nat]
  · simp [b_l_law_cell_at, c]
theorem g_mixed (h : Gen P) (n : Nat) (hn : 2 ≤ n) (ns : List Int) (k : Nat) (st : Sto) : ∃ v : Int, 0 ≤ v ∧ run P n 2 [.s ns, .d (.int k)] st = some (.int v, st) := by
  obtain ⟨m, rfl⟩ : ∃ m, n = m + 1 := ⟨n - 1, by omega⟩
  rw [r_l_law_mixed h.mixed]
  have c1 : mulOk ((ns[k]?.getD 0 + 7919 * k + 1) * 48271 % 2147483647) ((ns[k]?.getD 0 + 7919 * k + 1) * 48271 % 2147483647) := .inl ⟨by omega, by omega⟩
  simp [b_l_law_mixed, g_cell h m (by omega), c1]
  omega
theorem pick_a (a : Int) : ∃ x ∈ names4, L2.atI [PyData.str "a", .str "b", .str "c", .str "d"] (a % 4) = some (.str x) := by
  obtain ⟨x, hx, e⟩ := atI_mod names4 a 4 rfl (by decide)
  refine ⟨x, hx, ?_⟩
  have := congrArg (Option.map PyData.str) e
  rw [Option.map_some] at this
  rw [← this]
  unfold L2.atI
  simp only [names4, List.length_cons, List.length_nil, Option.map_bind]
  congr 1; funext j
  match j with
  | 0 => rfl
  | 1 => rfl
  | 2 => rfl
  | 3 => rfl
  | n + 4 => rfl
theorem pick_w (a : Int) : ∃ x ∈ words5, L2.atI [PyData.str "plus", .str "less", .str "times", .str "same", .str "under", .str "plus"] (a % 6) = some (.str x) := by
  obtain ⟨x, hx, e⟩ := atI_mod [PyData.str "plus", .str "less", .str "times", .str "same", .str "under", .str "plus"] a 6 rfl (by decide)
  rw [e]
  simp at hx
  rcases hx with rfl | rfl | rfl | rfl | rfl | rfl <;> exact ⟨_, by simp [words5], rfl⟩
theorem g_leaf (h : Gen P) (m d : Nat) (a : Int) (st : Sto) (hd : d = 0 ∨ a % 3 = 0) : ∃ s : Sm, s.ok d ∧ run P (m + 1) 4 [.d (.int a), .d (.int d)] st = some (s.enc, st) := by
  rw [r_l_law_sum h.sum]
  obtain ⟨x, hx, e⟩ := pick_a (a / 12)
  obtain ⟨y, hy, e2⟩ := atI_mod [PyData.int (a / 3 % 1000), .int (a / 3 % 4), .str x] (a / 48) 3 rfl (by decide)
  have e3 : ∃ s : Sm, s.ok d ∧ s.enc = y := by
    simp at hy
    rcases hy with rfl | rfl | rfl
    · exact ⟨.num (a / 3 % 1000), by cases d <;> simp only [Sm.ok] <;> omega, rfl⟩
    · exact ⟨.num (a / 3 % 4), by cases d <;> simp only [Sm.ok] <;> omega, rfl⟩
    · exact ⟨.nm x, by cases d <;> simpa only [Sm.ok] using hx, rfl⟩
  obtain ⟨s, hs, rfl⟩ := e3
  refine ⟨s, hs, ?_⟩
  rcases hd with rfl | hd
  · simp [b_l_law_sum, e, e2]
  · by_cases h0 : (d : Int) = 0
    · simp [b_l_law_sum, e, e2, h0]
    · simp [b_l_law_sum, e, e2, hd, h0]
theorem g_sum (h : Gen P) : ∀ (d n : Nat), d + 2 ≤ n → ∀ (a : Int) (st : Sto), ∃ s : Sm, s.ok d ∧ run P n 4 [.d (.int a), .d (.int d)] st = some (s.enc, st) := by
  intro d
  induction d with
  | zero =>
    intro n hn a st
    obtain ⟨m, rfl⟩ : ∃ m, n = m + 1 := ⟨n - 1, by omega⟩
    exact g_leaf h m 0 a st (.inl rfl)
  | succ d ih =>
    intro n hn a st
    obtain ⟨m, rfl⟩ : ∃ m, n = m + 1 := ⟨n - 1, by omega⟩
    by_cases h3 : a % 3 = 0
    · exact g_leaf h m (d + 1) a st (.inr h3)
    · obtain ⟨w, hw, e⟩ := pick_w (a / 3)
      obtain ⟨s1, k1, e1⟩ := ih m (by omega) (drawnI a 1 / 4) st
      obtain ⟨s2, k2, e2⟩ := ih m (by omega) (drawnI a 2 / 4) st
      refine ⟨.op w s1 s2, ⟨hw, k1, k2⟩, ?_⟩
      rw [r_l_law_sum h.sum]
      have h1 : ¬ ((d : Int) + 1 = 0) := by omega
      simp [b_l_law_sum, e, h3, h1, g_drawn h m (by omega), e1, e2, Sm.enc]
end Tw
set_option Elab.async false
set_option linter.all false
set_option maxRecDepth 100000
/-! D3: deeds, blocks, books as the laws draw them. -/
namespace Tw
open PySem
mutual
inductive Dd where
  | note (a : Sm)
  | tell (a : Sm)
  | put (x : Str) (a : Sm)
  | thr (s : Str) (a : Sm)
  | call (x f : Str) (as : List Sm)
  | ife (a : Sm) (b c : Bk)
  | turns (a : Sm) (b : Bk)
  | tri (b : Bk) (cs : Cs) (l : Bk)
inductive Bk where
  | nil
  | cons (d : Dd) (r : Bk)
inductive Cs where
  | nil
  | cons (s x : Str) (b : Bk) (r : Cs)
end
mutual
def Dd.enc : Dd → PyData
  | .note a => .tuple [.str "note", a.enc]
  | .tell a => .tuple [.str "tell", a.enc]
  | .put x a => .tuple [.str "put", .str x, a.enc]
  | .thr s a => .tuple [.str "throw", .str s, a.enc]
  | .call x f as => .tuple [.str "call", .str x, .str f, .tuple (as.map Sm.enc)]
  | .ife a b c => .tuple [.str "if", a.enc, .tuple b.enc, .tuple c.enc]
  | .turns a b => .tuple [.str "turns", a.enc, .tuple b.enc]
  | .tri b cs l => .tuple [.str "try", .tuple b.enc, .tuple cs.enc, .tuple l.enc]
def Bk.enc : Bk → List PyData
  | .nil => []
  | .cons d r => d.enc :: r.enc
def Cs.enc : Cs → List PyData
  | .nil => []
  | .cons s x b r => .tuple [.str s, .str x, .tuple b.enc] :: r.enc
end
def Cs.sorts : Cs → List Str
  | .nil => []
  | .cons s _ _ r => s :: r.sorts
def sorts3 : List Str := ["red", "green", "blue"]
def sorts3' : List Str := ["blue", "red", "green"]
abbrev Kn := List (Str × Nat)
def encK (K : Kn) : List PyData := K.map fun p => .tuple [.str p.1, .int p.2]
mutual
/-- a drawn deed; K: the makers known -/
def Dd.ok (K : Kn) : Nat → Dd → Prop
  | _, .note a => a.ok 2
  | _, .tell a => a.ok 2
  | _, .put x a => x ∈ names4 ∧ a.ok 2
  | _, .thr s a => s ∈ sorts3 ∧ a.ok 2
  | _, .call x f as => x ∈ names4 ∧ (f, as.length) ∈ K ∧ ∀ a ∈ as, a.ok 1
  | k, .ife a b c => 0 < k ∧ a.ok 2 ∧ b.ok K k 4 ∧ c.ok K k 4
  | k, .turns a b => 0 < k ∧ a.ok 2 ∧ b.ok K k 4
  | k, .tri b cs l => 0 < k ∧ b.ok K k 4 ∧ (cs.sorts.Sublist sorts3 ∨ cs.sorts.Sublist sorts3') ∧ cs.ok K k ∧ l.ok K k 4
/-- a drawn block of m deeds at most -/
def Bk.ok (K : Kn) : Nat → Nat → Bk → Prop
  | _, _, .nil => True
  | 0, _, .cons _ _ => False
  | _ + 1, 0, .cons _ _ => False
  | k + 1, m + 1, .cons d r => d.ok K k ∧ r.ok K (k + 1) m
def Cs.ok (K : Kn) : Nat → Cs → Prop
  | _, .nil => True
  | k, .cons _ x b r => x ∈ names4 ∧ b.ok K k 4 ∧ r.ok K k
end
structure Mk where
  nm : Str
  ps : List Str
  bk : Bk
def Mk.enc (m : Mk) : PyData := .tuple [.str m.nm, .tuple (m.ps.map .str), .tuple m.bk.enc]
def names4' : List Str := ["one", "f", "two", "go"]
def pars4 : List (List Str) := [[], ["a"], ["b", "a"], ["a", "b", "c"]]
def Mk.kn (m : Mk) : Str × Nat := (m.nm, m.ps.length)
/-- a drawn maker; K: the makers ahead of it -/
def Mk.ok (K : Kn) (m : Mk) : Prop := m.ps ∈ pars4 ∧ ∃ k, 2 ≤ k ∧ k ≤ 4 ∧ m.bk.ok K k 4
def bookOk : Kn → List Mk → Prop
  | _, [] => True
  | K, m :: r => m.ok K ∧ bookOk (K ++ [m.kn]) r
/-- a drawn book -/
structure Book.ok (b : List Mk) : Prop where
  nms : ∃ n, 1 ≤ n ∧ n ≤ 4 ∧ b.map (·.nm) = names4'.take n
  mks : bookOk [] b
def encB (b : List Mk) : PyData := .tuple (b.map Mk.enc)

def Bk.of : List Dd → Bk
  | [] => .nil
  | d :: r => .cons d (Bk.of r)
theorem Bk.of_enc : ∀ l : List Dd, (Bk.of l).enc = l.map Dd.enc
  | [] => rfl
  | d :: r => by rw [Bk.of, Bk.enc, Bk.of_enc r]; rfl
theorem Bk.of_ok (K : Kn) (k : Nat) : ∀ (m : Nat) (l : List Dd), l.length ≤ m → (∀ d ∈ l, d.ok K k) → (Bk.of l).ok K (k + 1) m
  | _, [], _, _ => by simp [Bk.of, Bk.ok]
  | 0, _ :: _, h, _ => absurd h (by simp)
  | m + 1, d :: r, h, hd => ⟨hd d (by simp), Bk.of_ok K k m r (by simpa using h) fun x hx => hd x (by simp [hx])⟩
abbrev C1t := Str × Str × Bk
def Cs.of : List C1t → Cs
  | [] => .nil
  | c :: r => .cons c.1 c.2.1 c.2.2 (Cs.of r)
def encC (c : C1t) : PyData := .tuple [.str c.1, .str c.2.1, .tuple c.2.2.enc]
theorem Cs.of_enc : ∀ l : List C1t, (Cs.of l).enc = l.map encC
  | [] => rfl
  | d :: r => by rw [Cs.of, Cs.enc, Cs.of_enc r]; rfl
theorem Cs.of_sorts : ∀ l : List C1t, (Cs.of l).sorts = l.map (·.1)
  | [] => rfl
  | d :: r => by rw [Cs.of, Cs.sorts, Cs.of_sorts r]; rfl
theorem Cs.of_ok (K : Kn) (k : Nat) : ∀ (l : List C1t), (∀ c ∈ l, c.2.1 ∈ names4 ∧ c.2.2.ok K k 4) → (Cs.of l).ok K k
  | [], _ => by simp [Cs.of, Cs.ok]
  | c :: r, h => ⟨(h c (by simp)).1, (h c (by simp)).2, Cs.of_ok K k r fun x hx => h x (by simp [hx])⟩

structure GenK (P : List Fn) : Prop extends Gen P where
  tri : P[5]? = some f_l_law_try
  deed : P[6]? = some f_l_law_deed
  block : P[7]? = some f_l_law_block
variable {P : List Fn}
theorem pick_c (a : Int) : ∃ x ∈ names4, ixD (.str "abcd") (.int (a % 4)) = some (.str x) := by
  have h1 : 0 ≤ a % 4 := by omega
  have h2 : a % 4 < 4 := by omega
  generalize a % 4 = i at h1 h2
  have h3 : i = 0 ∨ i = 1 ∨ i = 2 ∨ i = 3 := by omega
  rcases h3 with rfl | rfl | rfl | rfl
  · exact ⟨"a", by simp [names4], congrArg (fun s => some (PyData.str s)) (show (⟨#[97]⟩ : Str) = "a" by decide +kernel)⟩
  · exact ⟨"b", by simp [names4], congrArg (fun s => some (PyData.str s)) (show (⟨#[98]⟩ : Str) = "b" by decide +kernel)⟩
  · exact ⟨"c", by simp [names4], congrArg (fun s => some (PyData.str s)) (show (⟨#[99]⟩ : Str) = "c" by decide +kernel)⟩
  · exact ⟨"d", by simp [names4], congrArg (fun s => some (PyData.str s)) (show (⟨#[100]⟩ : Str) = "d" by decide +kernel)⟩
def DSpec (P : List Fn) (k n : Nat) : Prop := ∀ (K : Kn) (a : Int) (v : Vl) (st : Sto), dat st v = some (.list (encK K)) → scrOf v = none →
  (∀ p ∈ K, p.2 ≤ 3) → ∃ d : Dd, d.ok K k ∧ run P n 6 [.d (.int a), v, .d (.int k)] st = some (d.enc, st)
def BSpec (P : List Fn) (k n : Nat) : Prop := ∀ (K : Kn) (a : Int) (v : Vl) (st : Sto), dat st v = some (.list (encK K)) → scrOf v = none →
  (∀ p ∈ K, p.2 ≤ 3) → ∃ b : Bk, b.ok K k 4 ∧ run P n 7 [.d (.int a), v, .d (.int k)] st = some (.tuple b.enc, st)
def TSpec (P : List Fn) (k n : Nat) : Prop := 0 < k → ∀ (K : Kn) (a : Int) (v : Vl) (st : Sto), dat st v = some (.list (encK K)) → scrOf v = none →
  (∀ p ∈ K, p.2 ≤ 3) → ∃ d : Dd, d.ok K k ∧ run P n 5 [.d (.int a), v, .d (.int k)] st = some (d.enc, st)
theorem g_block0 (h : GenK P) (n : Nat) : BSpec P 0 (n + 1) := by
  intro K a v st hv hs hK
  refine ⟨.nil, by simp [Bk.ok], ?_⟩
  rw [r_l_law_block h.block]
  simp [b_l_law_block, Bk.enc]
theorem pick_m (a : Int) : ∃ c : Nat, c ≤ 4 ∧ L2.atI [PyData.int 1, .int 2, .int 3, .int 2, .int 0, .int 4] (a % 6) = some (.int c) := by
  obtain ⟨x, hx, e⟩ := atI_mod [PyData.int 1, .int 2, .int 3, .int 2, .int 0, .int 4] a 6 rfl (by decide)
  rw [e]
  simp only [List.mem_cons, List.not_mem_nil, or_false] at hx
  rcases hx with rfl | rfl | rfl | rfl | rfl | rfl
  · exact ⟨1, by omega, rfl⟩
  · exact ⟨2, by omega, rfl⟩
  · exact ⟨3, by omega, rfl⟩
  · exact ⟨2, by omega, rfl⟩
  · exact ⟨0, by omega, rfl⟩
  · exact ⟨4, by omega, rfl⟩
theorem g_block (h : GenK P) (k n : Nat) (hn : 1 ≤ n) (D : DSpec P k n) : BSpec P (k + 1) (n + 1) := by
  intro K a v st hv hs hK
  obtain ⟨c, hc, e⟩ := pick_m a
  have cm := compS_all Dd.enc (fun d => d.ok K k) (compF (.nm 4) (evC (run P n) (if 2 ≤ n then ini P else noC) .none) (evE (run P n) (if 2 ≤ n then ini P else noC) b_l_law_block_1) [some (.d (.int a)), some v, some (.d (.int (k + 1))), some (.d (.int c)), none]) st (rngL 0 c) (by
    intro x hx
    obtain ⟨j, hj, rfl⟩ := rngL_mem c 0 x hx
    obtain ⟨d, hd, e2⟩ := D K (drawnI a (50 + (0 + j)) / 4) v st hv hs hK
    refine ⟨d, hd, ?_⟩
    simp at e2
    simp [b_l_law_block_1, g_drawn h.toGen n hn, e2])
  obtain ⟨ys, h1, h2, h3⟩ := cm
  rw [rngL_len] at h1
  refine ⟨.of ys, Bk.of_ok K k 4 ys (by omega) h2, ?_⟩
  rw [r_l_law_block h.block, Bk.of_enc]
  have h0 : ¬ ((k : Int) + 1 = 0) := by omega
  have c1 := rngOk_nat c (by omega)
  simp [b_l_law_block, h0, e, c1, h3]
/-- one turn of the loop of _law_try -/
theorem g_try1 (h : GenK P) (k n : Nat) (hn : 1 ≤ n) (B : BSpec P k n) (K : Kn) (a : Int) (v : Vl) (st : Sto) (hv : dat st v = some (.list (encK K))) (hs : scrOf v = none) (hK : ∀ p ∈ K, p.2 ≤ 3) (I : CallF)
    (x : Str) (hx : ixD (.str "abcd") (.int (a / 64 % 4)) = some (.str x)) (i : Nat) (hi : i < 3) (s : Str) (cs : List C1t) (hc : cs.length ≤ 3) (o5 o6 o7 : Option Vl) :
    ∃ (cs' : List C1t) (o5' o6' o7' : Option Vl), (cs' = cs ∨ ∃ b : Bk, b.ok K k 4 ∧ cs' = cs ++ [(s, x, b)]) ∧
      loopF (run P n) I (.tp [5, 6]) b_l_law_try_1 (.tuple [.int i, .str s]) [some (.d (.int a)), some v, some (.d (.int k)), some (.r st.length), none, o5, o6, o7] (st ++ [.lst (cs.map encC)]) =
        some (.nx, [some (.d (.int a)), some v, some (.d (.int k)), some (.r st.length), none, o5', o6', o7'], st ++ [.lst (cs'.map encC)]) := by
  obtain ⟨b, hb, e⟩ := B K (drawnI a (20 + i) / 4) v (st ++ [.lst (cs.map encC)]) (dat_app _ hv) hs hK
  obtain ⟨w, hw, e2⟩ : ∃ w : Int, (0 < w ∧ w < 1073741824) ∧ L2.atI [PyData.int 8, .int 16, .int 32] i = some (.int w) := by
    rw [atI_nat]
    match i, hi with
    | 0, _ => exact ⟨8, by decide, rfl⟩
    | 1, _ => exact ⟨16, by decide, rfl⟩
    | 2, _ => exact ⟨32, by decide, rfl⟩
  have hl : cs.length < 16777216 := by omega
  by_cases c : a / w % 2 = 0
  · refine ⟨cs ++ [(s, x, b)], some (.d (.int i)), some (.d (.str s)), some (.d (.tuple b.enc)), .inr ⟨b, hb, rfl⟩, ?_⟩
    simp [b_l_law_try_1, e2, hw.1, hw.2, c, g_drawn h.toGen n hn, e, hx, hl, encC]
  · refine ⟨cs, some (.d (.int i)), some (.d (.str s)), o7, .inl rfl, ?_⟩
    simp [b_l_law_try_1, e2, hw.1, hw.2, c]
theorem step_cs {K : Kn} {k : Nat} {x s : Str} {cs cs' : List C1t} {l : List Str} (hx : x ∈ names4) (h : cs' = cs ∨ ∃ b : Bk, b.ok K k 4 ∧ cs' = cs ++ [(s, x, b)]) (h1 : (cs.map (·.1)).Sublist l) (h2 : ∀ c ∈ cs, c.2.1 ∈ names4 ∧ c.2.2.ok K k 4) :
    (cs'.map (·.1)).Sublist (l ++ [s]) ∧ ∀ c ∈ cs', c.2.1 ∈ names4 ∧ c.2.2.ok K k 4 := by
  rcases h with rfl | ⟨b, hb, rfl⟩
  · exact ⟨h1.trans (List.sublist_append_left _ _), h2⟩
  · refine ⟨by simpa using h1.append (List.Sublist.refl [s]), fun c hc => ?_⟩
    rcases List.mem_append.mp hc with hc | hc
    · exact h2 c hc
    · simp at hc; subst hc; exact ⟨hx, hb⟩
theorem g_try (h : GenK P) (k n : Nat) (hn : 1 ≤ n) (B : BSpec P k n) : TSpec P k (n + 1) := by
  intro hk K a v st hv hs hK
  obtain ⟨x, hx, ex⟩ := pick_c (a / 64)
  obtain ⟨s0, s1, s2, hss, ess⟩ : ∃ s0 s1 s2 : Str, ([s0, s1, s2] = sorts3 ∨ [s0, s1, s2] = sorts3') ∧ L2.atI [PyData.tuple [.str "red", .str "green", .str "blue"], .tuple [.str "blue", .str "red", .str "green"]] (a / 4 % 2) = some (.tuple [.str s0, .str s1, .str s2]) := by
    obtain ⟨y, hy, e⟩ := atI_mod [PyData.tuple [.str "red", .str "green", .str "blue"], .tuple [.str "blue", .str "red", .str "green"]] (a / 4) 2 rfl (by decide)
    rw [e]
    simp only [List.mem_cons, List.not_mem_nil, or_false] at hy
    rcases hy with rfl | rfl
    · exact ⟨_, _, _, .inl rfl, rfl⟩
    · exact ⟨_, _, _, .inr rfl, rfl⟩
  obtain ⟨c1, p1, p2, p3, k1, e1⟩ := g_try1 h k n hn B K a v st hv hs hK (if 2 ≤ n then ini P else noC) x ex 0 (by omega) s0 [] (by simp) none none none
  obtain ⟨m1, n1⟩ := step_cs hx k1 (l := []) (by simp) (by simp)
  obtain ⟨c2, p4, p5, p6, k2, e2⟩ := g_try1 h k n hn B K a v st hv hs hK (if 2 ≤ n then ini P else noC) x ex 1 (by omega) s1 c1 (by have := m1.length_le; simp at this; omega) p1 p2 p3
  obtain ⟨m2, n2⟩ := step_cs hx k2 m1 n1
  obtain ⟨c3, p7, p8, p9, k3, e3⟩ := g_try1 h k n hn B K a v st hv hs hK (if 2 ≤ n then ini P else noC) x ex 2 (by omega) s2 c2 (by have := m2.length_le; simp at this; omega) p4 p5 p6
  obtain ⟨m3, n3⟩ := step_cs hx k3 m2 n2
  have hf : forS (loopF (run P n) (if 2 ≤ n then ini P else noC) (.tp [5, 6]) b_l_law_try_1) [.tuple [.int 0, .str s0], .tuple [.int 1, .str s1], .tuple [.int 2, .str s2]] [some (.d (.int a)), some v, some (.d (.int k)), some (.r st.length), none, none, none, none] (st ++ [.lst []]) =
      some (.nx, [some (.d (.int a)), some v, some (.d (.int k)), some (.r st.length), none, p7, p8, p9], st ++ [.lst (c3.map encC)]) := by
    exact (forS_nx e1).trans ((forS_nx e2).trans ((forS_nx e3).trans rfl))
  obtain ⟨b1, hb1, f1⟩ := B K (drawnI a 24 / 4) v (st ++ [.lst (c3.map encC)]) (dat_app _ hv) hs hK
  obtain ⟨b2, hb2, f2⟩ := B K (drawnI a 25 / 4) v (st ++ [.lst (c3.map encC)]) (dat_app _ hv) hs hK
  have hsub : (Cs.of c3).sorts.Sublist sorts3 ∨ (Cs.of c3).sorts.Sublist sorts3' := by
    rw [Cs.of_sorts]
    rcases hss with hss | hss <;> rw [← hss]
    · exact .inl (by simpa using m3)
    · exact .inr (by simpa using m3)
  rw [r_l_law_try h.tri]
  by_cases c : a / 256 % 2 = 0
  · refine ⟨.tri b2 (.of c3) b1, ⟨hk, hb2, hsub, Cs.of_ok K k c3 n3, hb1⟩, ?_⟩
    simp [b_l_law_try, ess, enmL, hf, c, g_drawn h.toGen n hn, f1, f2, Dd.enc, Cs.of_enc]
  · refine ⟨.tri b2 (.of c3) .nil, ⟨hk, hb2, hsub, Cs.of_ok K k c3 n3, by simp [Bk.ok]⟩, ?_⟩
    simp [b_l_law_try, ess, enmL, hf, c, g_drawn h.toGen n hn, f1, f2, Dd.enc, Cs.of_enc, Bk.enc]
theorem g_deed (h : GenK P) (k n : Nat) (hn : 4 ≤ n) (B : BSpec P k n) (T : TSpec P k n) : DSpec P k (n + 1) := by
  intro K a v st hv hs hK
  obtain ⟨x, hx, ex⟩ := pick_c (a / 16)
  obtain ⟨am, ham, eam⟩ := g_sum h.toGen 2 n (by omega) (drawnI a 30 / 4) st
  have eam' : run P n 4 [.d (.int (drawnI a 30 / 4)), .d (.int 2)] st = some (am.enc, st) := eam
  have gd := g_drawn h.toGen n (by omega)
  have hr := fn1S_v hs
  have hi := ixS_v hs
  have hle : (encK K).length = K.length := by simp [encK]
  rw [r_l_law_deed h.deed]
  by_cases c10 : a % 11 = 10 ∧ 0 < K.length
  · obtain ⟨y, hy, ey⟩ := atI_mod (encK K) (a / 64) K.length (by rw [hle]) (by omega)
    obtain ⟨p, hp, rfl⟩ := List.mem_map.mp hy
    have hp3 := hK p hp
    obtain ⟨as, q1, q2, q3⟩ := compS_all Sm.enc (fun s => s.ok 1) (compF (.nm 9) (evC (run P n) (if 2 ≤ n then ini P else noC) .none) (evE (run P n) (if 2 ≤ n then ini P else noC) b_l_law_deed_1) [some (.d (.int a)), some v, some (.d (.int k)), some (.d (.int 10)), some (.d (.str x)), some (.d am.enc), some (.d (.str p.1)), some (.d (.int p.2)), none, none]) st (rngL 0 p.2) (by
      intro z hz
      obtain ⟨j, hj, rfl⟩ := rngL_mem p.2 0 z hz
      obtain ⟨s, hs1, es⟩ := g_sum h.toGen 1 n (by omega) (drawnI a (31 + (0 + j)) / 4) st
      refine ⟨s, hs1, ?_⟩
      simp at es
      simp [b_l_law_deed_1, gd, es])
    rw [rngL_len] at q1
    refine ⟨.call x p.1 as, ⟨hx, by rw [q1]; exact hp, q2⟩, ?_⟩
    have c1 := rngOk_nat p.2 (by omega)
    have hK0 : (0 : Int) < K.length := by omega
    simp [b_l_law_deed, gd, ex, eam', c10.1, hr, hi, hv, hle, c10.2, hK0, ey, c1, q3, Dd.enc]
  · have n10 : ¬ (a % 11 = 10) ∨ (a % 11 = 10 ∧ K.length = 0) := by
      by_cases c : a % 11 = 10
      · exact .inr ⟨c, by omega⟩
      · exact .inl c
    have lst2 : ∃ d : Dd, d.ok K k ∧ L2.atI [PyData.tuple [.str "note", am.enc], .tuple [.str "put", .str x, am.enc]] (a / 512 % 2) = some d.enc := by
      obtain ⟨y, hy, e⟩ := atI_mod [PyData.tuple [.str "note", am.enc], .tuple [.str "put", .str x, am.enc]] (a / 512) 2 rfl (by decide)
      rw [e]
      simp only [List.mem_cons, List.not_mem_nil, or_false] at hy
      rcases hy with rfl | rfl
      · exact ⟨.note am, by simpa [Dd.ok] using ham, by simp [Dd.enc]⟩
      · exact ⟨.put x am, by simpa [Dd.ok] using ⟨hx, ham⟩, by simp [Dd.enc]⟩
    by_cases c2 : a % 11 = 2
    · by_cases c2' : 0 < a / 16 % 3
      · exact ⟨.tell am, by simpa [Dd.ok] using ham, by simp [b_l_law_deed, gd, ex, eam', c2, c2', Dd.enc]⟩
      · obtain ⟨d, hd, ed⟩ := lst2
        exact ⟨d, hd, by simp [b_l_law_deed, gd, ex, eam', c2, c2', ed]⟩
    · by_cases c3 : a % 11 = 3
      · obtain ⟨s, hs3, e3⟩ : ∃ s ∈ sorts3, L2.atI [PyData.str "red", .str "green", .str "blue"] (a / 16 % 3) = some (.str s) := by
          obtain ⟨y, hy, e⟩ := atI_mod [PyData.str "red", .str "green", .str "blue"] (a / 16) 3 rfl (by decide)
          rw [e]
          simp only [List.mem_cons, List.not_mem_nil, or_false] at hy
          rcases hy with rfl | rfl | rfl <;> exact ⟨_, by simp [sorts3], rfl⟩
        exact ⟨.thr s am, by simpa [Dd.ok] using ⟨hs3, ham⟩, by simp [b_l_law_deed, gd, ex, eam', c3, e3, Dd.enc]⟩
      · by_cases c5 : 5 < a % 11 ∧ 0 < k
        · have hk0 : (0 : Int) < k := by omega
          by_cases c6 : a % 11 = 6
          · obtain ⟨b0, hb0, e0⟩ := B K (drawnI a 40 / 4) v st hv hs hK
            obtain ⟨b1, hb1, e1⟩ := B K (drawnI a 41 / 4) v st hv hs hK
            refine ⟨.ife am b0 b1, ⟨c5.2, ham, hb0, hb1⟩, ?_⟩
            have r2 : rngL 0 2 = [.int 0, .int 1] := rfl
            have o2 : rngOk 2 := rngOk_nat 2 (by decide)
            simp [b_l_law_deed, b_l_law_deed_2, gd, ex, eam', c6, c5.2, hk0, o2, r2, compS_cons, e0, e1, Dd.enc]
          · by_cases c7 : a % 11 = 7
            · obtain ⟨b0, hb0, e0⟩ := B K (drawnI a 42 / 4) v st hv hs hK
              exact ⟨.turns am b0, ⟨c5.2, ham, hb0⟩, by simp [b_l_law_deed, gd, ex, eam', c7, c5.2, hk0, e0, Dd.enc]⟩
            · obtain ⟨d, hd, ed⟩ := T c5.2 K (a / 16) v st hv hs hK
              refine ⟨d, hd, ?_⟩
              rcases n10 with n10 | ⟨n10, n0⟩
              · simp [b_l_law_deed, gd, ex, eam', n10, c2, c3, c6, c7, c5.1, c5.2, hk0, ed]
              · simp [b_l_law_deed, gd, ex, eam', n10, hr, hv, hle, n0, c5.2, hk0, ed]
        · obtain ⟨d, hd, ed⟩ := lst2
          refine ⟨d, hd, ?_⟩
          rcases n10 with n10 | ⟨n10, n0⟩
          · by_cases c5' : 5 < a % 11
            · have hk0 : k = 0 := by omega
              subst hk0
              simp [b_l_law_deed, gd, ex, eam', n10, c2, c3, c5', ed]
            · simp [b_l_law_deed, gd, ex, eam', n10, c2, c3, c5', ed]
          · have hk0 : k = 0 := by omega
            subst hk0
            simp [b_l_law_deed, gd, ex, eam', n10, hr, hv, hle, n0, ed]
theorem g_all (h : GenK P) : ∀ k n, 3 * k + 3 ≤ n → BSpec P k n ∧ DSpec P k (n + 2) := by
  intro k
  induction k with
  | zero =>
    intro n hn
    obtain ⟨m, rfl⟩ : ∃ m, n = m + 1 := ⟨n - 1, by omega⟩
    exact ⟨g_block0 h m, g_deed h 0 (m + 2) (by omega) (g_block0 h (m + 1)) (g_try h 0 (m + 1) (by omega) (g_block0 h m))⟩
  | succ k ih =>
    intro n hn
    have b : ∀ n, 3 * (k + 1) + 3 ≤ n → BSpec P (k + 1) n := fun n hn => by
      obtain ⟨m, rfl⟩ : ∃ m, n = m + 1 := ⟨n - 1, by omega⟩
      have := (ih (m - 2) (by omega)).2
      rw [show m - 2 + 2 = m by omega] at this
      exact g_block h k m (by omega) this
    exact ⟨b n hn, g_deed h (k + 1) (n + 1) (by omega) (b (n + 1) (by omega)) (g_try h (k + 1) n (by omega) (b n hn))⟩
end Tw
set_option Elab.async false
set_option linter.all false
set_option maxRecDepth 100000
set_option maxHeartbeats 2000000
/-! DPl: plain data, compared. -/
namespace Tw
open PySem
def okS (x : Str) : Prop := PyData.strOk x = true
/-! ### data that may be compared -/
def Pl (k : Nat) (x : PyData) : Prop := x.canLay0 = true ∧ x.depth ≤ k
theorem Pl.mono {k j : Nat} {x : PyData} (h : Pl k x) (hj : k ≤ j) : Pl j x := ⟨h.1, by have := h.2; omega⟩
theorem pl_all {k : Nat} : ∀ {xs : List PyData}, (∀ x ∈ xs, Pl k x) → PyData.canLayAll0 xs = true ∧ PyData.depthAll xs ≤ k
  | [], _ => ⟨rfl, by simp [PyData.depthAll]⟩
  | x :: r, h => by
    have h1 := h x (by simp)
    have h2 := pl_all (xs := r) fun y hy => h y (by simp [hy])
    refine ⟨by rw [PyData.canLayAll0, h1.1, h2.1]; rfl, ?_⟩
    rw [PyData.depthAll]
    have := h1.2
    omega
theorem pl_tup {k : Nat} {xs : List PyData} (h : ∀ x ∈ xs, Pl k x) : Pl (k + 1) (.tuple xs) := by
  have := pl_all h
  exact ⟨by rw [PyData.canLay0]; exact this.1, by rw [PyData.depth]; omega⟩
theorem pl_lst {k : Nat} {xs : List PyData} (h : ∀ x ∈ xs, Pl k x) : Pl (k + 1) (.list xs) := by
  have := pl_all h
  exact ⟨by rw [PyData.canLay0]; exact this.1, by rw [PyData.depth]; omega⟩
theorem pl_int (k : Nat) (i : Int) : Pl k (.int i) := ⟨by simp [PyData.canLay0], by simp [PyData.depth]⟩
theorem pl_bool (k : Nat) (i : Bool) : Pl k (.bool i) := ⟨by simp [PyData.canLay0], by simp [PyData.depth]⟩
theorem pl_none (k : Nat) : Pl k .none := ⟨by simp [PyData.canLay0], by simp [PyData.depth]⟩
theorem pl_str (k : Nat) (x : Str) (h : PyData.strOk x = true) : Pl k (.str x) := ⟨by simpa [PyData.canLay0] using h, by simp [PyData.depth]⟩
theorem Pl.okD {k : Nat} {x : PyData} (h : Pl k x) (hk : k ≤ 150) : okD x = true := by
  unfold Tw.okD
  have := h.2
  simp [h.1]; omega
theorem eqD_self {k : Nat} {x : PyData} (h : Pl k x) (hk : k ≤ 150) : eqD x x = some true := by
  unfold eqD
  split
  · simp
  · simp
  · rw [h.okD hk]
    simp [PySem.SeqAt.eqv_refl x h.1]
theorem pl_strs {k : Nat} {ws : List Str} (h : ∀ w ∈ ws, PyData.strOk w = true) : ∀ x ∈ ws.map PyData.str, Pl k x := fun x hx => by
  obtain ⟨w, hw, rfl⟩ := List.mem_map.mp hx
  exact pl_str k w (h w hw)
theorem pl_w (k : Nat) (x : String) (h : PyData.strOk (Str.ofString x) = true) : Pl k (.str x) := pl_str k _ h
/-! ### equality of data without truths -/
mutual
def nb : PyData → Bool
  | .none => true
  | .bool _ => false
  | .int _ => true
  | .str _ => true
  | .list xs => nbs xs
  | .tuple xs => nbs xs
  | .dict _ => false
def nbs : List PyData → Bool
  | [] => true
  | x :: r => nb x && nbs r
end
mutual
theorem eqv_nb : ∀ (x y : PyData), nb x = true → nb y = true → PyData.eqv x y = true → x = y
  | .none, y, _, hy, h => by cases y <;> simp [PyData.eqv] at h; rfl
  | .bool _, y, hx, _, _ => by simp [nb] at hx
  | .int i, y, _, hy, h => by
    cases y <;> simp [PyData.eqv, nb] at h hy
    rw [h]
  | .str i, y, _, hy, h => by
    cases y <;> simp only [PyData.eqv] at h <;> first | cases h | skip
    rw [eq_of_beq h]
  | .list xs, y, hx, hy, h => by
    cases y <;> simp only [PyData.eqv] at h <;> first | cases h | skip
    rw [eqvAll_nb xs _ (by simpa [nb] using hx) (by simpa [nb] using hy) h]
  | .tuple xs, y, hx, hy, h => by
    cases y <;> simp only [PyData.eqv] at h <;> first | cases h | skip
    rw [eqvAll_nb xs _ (by simpa [nb] using hx) (by simpa [nb] using hy) h]
  | .dict _, y, hx, _, _ => by simp [nb] at hx
theorem eqvAll_nb : ∀ (xs ys : List PyData), nbs xs = true → nbs ys = true → PyData.eqvAll xs ys = true → xs = ys
  | [], ys, _, _, h => by cases ys <;> simp [PyData.eqvAll] at h; rfl
  | x :: xs, ys, hx, hy, h => by
    cases ys with
    | nil => simp [PyData.eqvAll] at h
    | cons y ys =>
      simp only [PyData.eqvAll, Bool.and_eq_true] at h
      simp only [nbs, Bool.and_eq_true] at hx hy
      rw [eqv_nb x y hx.1 hy.1 h.1, eqvAll_nb xs ys hx.2 hy.2 h.2]
end
theorem eqD_ne {k : Nat} {x y : PyData} (hx : Pl k x) (hy : Pl k y) (hk : k ≤ 150) (nx : nb x = true) (ny : nb y = true) (h : x ≠ y) : eqD x y = some false := by
  unfold eqD
  split
  · rename_i i j; simp; intro e; exact h (by rw [e])
  · rename_i i j; simp; intro e; exact h (by rw [e])
  · rw [hx.okD hk, hy.okD hk]
    cases c : PyData.eqv x y with
    | false => simp
    | true => exact absurd (eqv_nb x y nx ny c) h
theorem nbs_all : ∀ (xs : List PyData), (∀ x ∈ xs, nb x = true) → nbs xs = true
  | [], _ => rfl
  | x :: r, h => by simp only [nbs, h x (by simp), nbs_all r fun y hy => h y (by simp [hy])]; rfl
theorem nb_strs (ws : List Str) : nbs (ws.map .str) = true := nbs_all _ fun x hx => by
  obtain ⟨w, _, rfl⟩ := List.mem_map.mp hx
  rfl
theorem strs_inj : ∀ (a b : List Str), a.map PyData.str = b.map PyData.str → a = b
  | [], b, h => by cases b <;> simp at h; rfl
  | x :: a, b, h => by
    cases b with
    | nil => simp at h
    | cons y b =>
      simp only [List.map_cons, List.cons.injEq, PyData.str.injEq] at h
      rw [h.1, strs_inj a b h.2]
theorem eq_nilT {k : Nat} {xs : List PyData} (h : Pl k (.tuple xs)) (hk : k ≤ 150) : eqD (.tuple xs) (.tuple []) = some xs.isEmpty := by
  have h1 := h.okD hk
  have h2 : okD (.tuple []) = true := by decide
  have e : eqD (.tuple xs) (.tuple []) = some (PyData.eqv (.tuple xs) (.tuple [])) := by
    simp only [eqD, h1, h2, Bool.and_self, if_true]
  rw [e]
  cases xs <;> simp [PyData.eqv, PyData.eqvAll]
@[simp] theorem eqv_int (a b : Int) : PyData.eqv (.int a) (.int b) = decide (a = b) := by simp only [PyData.eqv]; exact Bool.beq_eq_decide_eq a b
end Tw
set_option Elab.async false
set_option linter.all false
set_option maxRecDepth 100000
/-! D4: the book that is drawn. -/
namespace Tw
open PySem
structure GenB (P : List Fn) : Prop extends GenK P where
  book : P[8]? = some f_l_law_book
variable {P : List Fn}
theorem bookOk_snoc : ∀ (K : Kn) (bs : List Mk) (m : Mk), bookOk K bs → m.ok (K ++ bs.map Mk.kn) → bookOk K (bs ++ [m])
  | K, [], m, _, h => ⟨by simpa using h, trivial⟩
  | K, b :: r, m, hb, h => ⟨hb.1, bookOk_snoc (K ++ [b.kn]) r m hb.2 (by simpa using h)⟩
theorem bookOk_par : ∀ (K : Kn) (bs : List Mk), bookOk K bs → ∀ m ∈ bs, m.ps.length ≤ 3
  | K, [], _, _, h => absurd h (by simp)
  | K, b :: r, hb, m, h => by
    rcases List.mem_cons.mp h with rfl | h
    · have := hb.1.1
      simp [pars4] at this
      rcases this with e | e | e | e <;> simp [e]
    · exact bookOk_par _ r hb.2 m h
theorem g_book1 (h : GenB P) (n : Nat) (hn : 20 ≤ n) (a : Int) (st : Sto) (I : CallF) (i : Nat) (hi : i < 4) (bs : List Mk) (hb : bookOk [] bs) (hl : bs.length = i) (o3 o4 o5 o6 o7 : Option Vl) :
    ∃ (m : Mk) (o3' o4' o5' o6' o7' : Option Vl), m.ok (bs.map Mk.kn) ∧ names4'[i]? = some m.nm ∧
      loopF (run P n) I (.nm 3) b_l_law_book_1 (.int i) [some (.d (.int a)), some (.r st.length), some (.d (.tuple (bs.map Mk.enc))), o3, o4, o5, o6, o7] (st ++ [.lst (encK (bs.map Mk.kn))]) =
        some (.nx, [some (.d (.int a)), some (.r st.length), some (.d (.tuple ((bs ++ [m]).map Mk.enc))), o3', o4', o5', o6', o7'], st ++ [.lst (encK ((bs ++ [m]).map Mk.kn))]) := by
  obtain ⟨ps, hps, eps⟩ : ∃ ps ∈ pars4, L2.atI [PyData.tuple [], .tuple [.str "a"], .tuple [.str "b", .str "a"], .tuple [.str "a", .str "b", .str "c"]] (drawnI a i / 4 % 4) = some (.tuple (ps.map .str)) := by
    obtain ⟨y, hy, e⟩ := atI_mod [PyData.tuple [], .tuple [.str "a"], .tuple [.str "b", .str "a"], .tuple [.str "a", .str "b", .str "c"]] (drawnI a i / 4) 4 rfl (by decide)
    rw [e]
    simp only [List.mem_cons, List.not_mem_nil, or_false] at hy
    rcases hy with rfl | rfl | rfl | rfl
    · exact ⟨[], by simp [pars4], rfl⟩
    · exact ⟨["a"], by simp [pars4], rfl⟩
    · exact ⟨["b", "a"], by simp [pars4], rfl⟩
    · exact ⟨["a", "b", "c"], by simp [pars4], rfl⟩
  obtain ⟨nm, hnm, enm⟩ : ∃ nm, names4'[i]? = some nm ∧ L2.atI [PyData.str "one", .str "f", .str "two", .str "go"] i = some (.str nm) := by
    rw [atI_nat]
    match i, hi with
    | 0, _ => exact ⟨_, rfl, rfl⟩
    | 1, _ => exact ⟨_, rfl, rfl⟩
    | 2, _ => exact ⟨_, rfl, rfl⟩
    | 3, _ => exact ⟨_, rfl, rfl⟩
  obtain ⟨k, hk2, hk4, ek⟩ : ∃ k : Nat, 2 ≤ k ∧ k ≤ 4 ∧ 2 + drawnI a i / 4 / 32 % 3 = (k : Int) := ⟨(2 + drawnI a i / 4 / 32 % 3).toNat, by omega, by omega, by omega⟩
  have hK : ∀ p ∈ bs.map Mk.kn, p.2 ≤ 3 := by
    intro p hp
    obtain ⟨m, hm, rfl⟩ := List.mem_map.mp hp
    exact bookOk_par [] bs hb m hm
  obtain ⟨b, hb2, eb⟩ := (g_all h.toGenK k n (by omega)).1 (bs.map Mk.kn) (drawnI a i / 4 / 4) (.r st.length) (st ++ [.lst (encK (bs.map Mk.kn))]) (by simp) rfl hK
  have l1 : bs.length + 1 ≤ 16777216 := by omega
  have l2 : (encK (bs.map Mk.kn)).length < 16777216 := by simp [encK]; omega
  refine ⟨⟨nm, ps, b⟩, some (.d (.int i)), some (.d (.int (drawnI a i / 4))), some (.d (.tuple (ps.map .str))), some (.d (.str nm)), some (.d (.tuple b.enc)), ⟨hps, k, hk2, hk4, hb2⟩, hnm, ?_⟩
  simp [b_l_law_book_1, g_drawn h.toGen n (by omega), eps, enm, ek, eb, l1, l2, Mk.enc, Mk.kn]
  simp [encK]
theorem g_book2 (h : GenB P) (n : Nat) (hn : 20 ≤ n) (a : Int) (st : Sto) (I : CallF) : ∀ (c i : Nat) (_ : i + c ≤ 4) (bs : List Mk) (_ : bookOk [] bs) (_ : bs.map (·.nm) = names4'.take i) (o3 o4 o5 o6 o7 : Option Vl),
    ∃ (bs' : List Mk) (o3' o4' o5' o6' o7' : Option Vl), bookOk [] bs' ∧ bs'.map (·.nm) = names4'.take (i + c) ∧
      forS (loopF (run P n) I (.nm 3) b_l_law_book_1) (rngL i c) [some (.d (.int a)), some (.r st.length), some (.d (.tuple (bs.map Mk.enc))), o3, o4, o5, o6, o7] (st ++ [.lst (encK (bs.map Mk.kn))]) =
        some (.nx, [some (.d (.int a)), some (.r st.length), some (.d (.tuple (bs'.map Mk.enc))), o3', o4', o5', o6', o7'], st ++ [.lst (encK (bs'.map Mk.kn))])
  | 0, i, hi, bs, hb, hn2, o3, o4, o5, o6, o7 => ⟨bs, o3, o4, o5, o6, o7, hb, hn2, rfl⟩
  | c + 1, i, hi, bs, hb, hn2, o3, o4, o5, o6, o7 => by
    have hl : bs.length = i := by
      have := congrArg List.length hn2
      simp [names4'] at this; omega
    obtain ⟨m, q3, q4, q5, q6, q7, hm, hnm, e⟩ := g_book1 h n hn a st I i (by omega) bs hb hl o3 o4 o5 o6 o7
    obtain ⟨bs', r3, r4, r5, r6, r7, k1, k2, k3⟩ := g_book2 h n hn a st I c (i + 1) (by omega) (bs ++ [m]) (bookOk_snoc [] bs m hb (by simpa using hm)) (by
      rw [List.map_append, hn2, List.take_add_one, hnm]; rfl) q3 q4 q5 q6 q7
    refine ⟨bs', r3, r4, r5, r6, r7, k1, by rw [k2]; congr 1; omega, ?_⟩
    rw [show rngL (i : Int) (c + 1) = .int i :: rngL ((i + 1 : Nat) : Int) c by rw [rngL]; simp]
    rw [forS_nx e]
    exact k3
theorem g_book (h : GenB P) (n : Nat) (hn : 21 ≤ n) (a : Int) (st : Sto) : ∃ b : List Mk, Book.ok b ∧ run P n 8 [.d (.int a)] st = some (encB b, st) := by
  obtain ⟨m, rfl⟩ : ∃ m, n = m + 1 := ⟨n - 1, by omega⟩
  obtain ⟨c, hc1, hc4, ec⟩ : ∃ c : Nat, 1 ≤ c ∧ c ≤ 4 ∧ L2.atI [PyData.int 2, .int 1, .int 3, .int 4, .int 2, .int 3] (a % 6) = some (.int c) := by
    obtain ⟨x, hx, e⟩ := atI_mod [PyData.int 2, .int 1, .int 3, .int 4, .int 2, .int 3] a 6 rfl (by decide)
    rw [e]
    simp only [List.mem_cons, List.not_mem_nil, or_false] at hx
    rcases hx with rfl | rfl | rfl | rfl | rfl | rfl
    · exact ⟨2, by omega, by omega, rfl⟩
    · exact ⟨1, by omega, by omega, rfl⟩
    · exact ⟨3, by omega, by omega, rfl⟩
    · exact ⟨4, by omega, by omega, rfl⟩
    · exact ⟨2, by omega, by omega, rfl⟩
    · exact ⟨3, by omega, by omega, rfl⟩
  obtain ⟨b, q3, q4, q5, q6, q7, k1, k2, k3⟩ := g_book2 h m (by omega) a st (if 2 ≤ m then ini P else noC) c 0 (by omega) [] trivial rfl none none none none none
  refine ⟨b, ⟨⟨c, hc1, hc4, by simpa using k2⟩, k1⟩, ?_⟩
  rw [r_l_law_book h.book]
  have c1 := rngOk_nat c (by omega)
  simp [encK] at k3
  simp [b_l_law_book, ec, c1, k3, encB]
end Tw
set_option Elab.async false
set_option linter.all false
set_option maxRecDepth 100000
/-! D20: what deeds may do; the program's own. -/
namespace Tw
open PySem
abbrev My := Str → Bool
def myOn : My := fun w => decide (w = ("on" : Str))
def myW (s : Str) : My := fun w => decide (w = s)
def myU (a b : My) : My := fun w => a w || b w
def myLess (a : My) (s : Str) : My := fun w => a w && !decide (w = s)
abbrev Ev := List (Str × My)
def evAt (E : Ev) (f : Str) : My := ((E.find? fun p => decide (p.1 = f)).map (·.2)).getD (fun _ => false)
def myCall (m : My) : My := fun w => if w = ("on" : Str) then m "on" || m "tell" else if w = ("tell" : Str) then false else m w
def remC (f : My) : Cs → My → My
  | .nil, left => left
  | .cons s _ _ r, left => remC f r (if f s then myLess left s else left)
def mayT (left la : My) : My := if la "on" then myU left (myLess la "on") else la
mutual
def mayD (E : Ev) : Dd → My
  | .note _ => myOn
  | .put _ _ => myOn
  | .tell _ => myW "tell"
  | .thr s _ => myW s
  | .call _ f _ => myCall (evAt E f)
  | .ife _ b c => myU (mayB E myOn b) (mayB E myOn c)
  | .turns _ b => myU myOn (mayB E myOn b)
  | .tri b cs l => mayT (mayA E (mayB E myOn b) (remC (mayB E myOn b) cs (mayB E myOn b)) cs) (mayB E myOn l)
def mayB (E : Ev) : My → Bk → My
  | acc, .nil => acc
  | acc, .cons d r => mayB E (if acc "on" then myU (myLess acc "on") (mayD E d) else acc) r
def mayA (E : Ev) (f : My) : My → Cs → My
  | left, .nil => left
  | left, .cons s _ b r => mayA E f (if f s then myU left (mayB E myOn b) else left) r
end
mutual
def Dd.wf (K : List Str) : Dd → Prop
  | .note _ => True
  | .put _ _ => True
  | .tell _ => True
  | .thr s _ => s ∈ sorts3
  | .call _ f _ => f ∈ K
  | .ife _ b c => b.wf K ∧ c.wf K
  | .turns _ b => b.wf K
  | .tri b cs l => b.wf K ∧ cs.wf K ∧ l.wf K
def Bk.wf (K : List Str) : Bk → Prop
  | .nil => True
  | .cons d r => d.wf K ∧ r.wf K
def Cs.wf (K : List Str) : Cs → Prop
  | .nil => True
  | .cons s _ b r => s ∈ sorts3 ∧ b.wf K ∧ r.wf K
end
mutual
def Dd.dp : Dd → Nat
  | .note _ => 0
  | .put _ _ => 0
  | .tell _ => 0
  | .thr _ _ => 0
  | .call _ _ _ => 0
  | .ife _ b c => max b.dp c.dp
  | .turns _ b => b.dp
  | .tri b cs l => max b.dp (max cs.dp l.dp)
def Bk.dp : Bk → Nat
  | .nil => 0
  | .cons d r => max (d.dp + 1) r.dp
def Cs.dp : Cs → Nat
  | .nil => 0
  | .cons _ _ b r => max b.dp r.dp
end
mutual
theorem Dd.ok_wf (K : Kn) : ∀ (d : Dd) (k : Nat), d.ok K k → d.wf (K.map (·.1)) ∧ d.dp ≤ k
  | .note _, k, _ => ⟨trivial, by simp [Dd.dp]⟩
  | .put _ _, k, _ => ⟨trivial, by simp [Dd.dp]⟩
  | .tell _, k, _ => ⟨trivial, by simp [Dd.dp]⟩
  | .thr _ _, k, h => ⟨by simp only [Dd.ok] at h; exact h.1, by simp [Dd.dp]⟩
  | .call _ f _, k, h => ⟨by simp only [Dd.ok] at h; exact List.mem_map.mpr ⟨_, h.2.1, rfl⟩, by simp [Dd.dp]⟩
  | .ife _ b c, k, h => by
    simp only [Dd.ok] at h
    have h1 := Bk.ok_wf K b k 4 h.2.2.1
    have h2 := Bk.ok_wf K c k 4 h.2.2.2
    exact ⟨⟨h1.1, h2.1⟩, by simp only [Dd.dp]; omega⟩
  | .turns _ b, k, h => by
    simp only [Dd.ok] at h
    have h1 := Bk.ok_wf K b k 4 h.2.2
    exact ⟨h1.1, by simp only [Dd.dp]; omega⟩
  | .tri b cs l, k, h => by
    simp only [Dd.ok] at h
    have h1 := Bk.ok_wf K b k 4 h.2.1
    have h2 := Bk.ok_wf K l k 4 h.2.2.2.2
    have hs : ∀ s ∈ cs.sorts, s ∈ sorts3 := fun s hs => by
      rcases h.2.2.1 with q | q
      · exact q.subset hs
      · have := q.subset hs
        simp [sorts3'] at this
        simp [sorts3]
        rcases this with h | h | h <;> simp [h]
    have h3 := Cs.ok_wf K cs k hs h.2.2.2.1
    exact ⟨⟨h1.1, h3.1, h2.1⟩, by simp only [Dd.dp]; omega⟩
theorem Bk.ok_wf (K : Kn) : ∀ (b : Bk) (k m : Nat), b.ok K k m → b.wf (K.map (·.1)) ∧ b.dp ≤ k
  | .nil, k, m, _ => ⟨trivial, by simp [Bk.dp]⟩
  | .cons d r, 0, m, h => by simp [Bk.ok] at h
  | .cons d r, k + 1, 0, h => by simp [Bk.ok] at h
  | .cons d r, k + 1, m + 1, h => by
    simp only [Bk.ok] at h
    have h1 := Dd.ok_wf K d k h.1
    have h2 := Bk.ok_wf K r (k + 1) m h.2
    exact ⟨⟨h1.1, h2.1⟩, by simp only [Bk.dp]; omega⟩
theorem Cs.ok_wf (K : Kn) : ∀ (c : Cs) (k : Nat), (∀ s ∈ c.sorts, s ∈ sorts3) → c.ok K k → c.wf (K.map (·.1)) ∧ c.dp ≤ k
  | .nil, k, _, _ => ⟨trivial, by simp [Cs.dp]⟩
  | .cons s x b r, k, hs, h => by
    simp only [Cs.ok] at h
    have h1 := Bk.ok_wf K b k 4 h.2.1
    have h2 := Cs.ok_wf K r k (fun s hs' => hs s (by simp [Cs.sorts, hs'])) h.2.2
    exact ⟨⟨hs s (by simp [Cs.sorts]), h1.1, h2.1⟩, by simp only [Cs.dp]; omega⟩
end
def encS (m : My) : PyData := .tuple ((sorts3.filter m).map .str)
def encM (m : My) : PyData := .tuple [.bool (m "on"), .bool (m "tell"), encS m]
def encW (m : My) : PyData := .tuple [.bool (m "on" || m "tell"), encS m]
def encE (E : Ev) : List (Str × PyData) := E.map fun p => (p.1, encW p.2)
theorem evAt_some {E : Ev} {f : Str} (h : f ∈ E.map (·.1)) : (E.find? fun p => decide (p.1 = f)) = some (f, evAt E f) := by
  cases e : E.find? fun p => decide (p.1 = f) with
  | none =>
    obtain ⟨p, hp, rfl⟩ := List.mem_map.mp h
    have := List.find?_eq_none.mp e p hp
    simp at this
  | some p =>
    have := List.find?_some e
    simp at this
    subst this
    simp [evAt, e]
theorem look_encE {E : Ev} {f : Str} (h : f ∈ E.map (·.1)) : lookD (encE E) f = some (encW (evAt E f)) := by
  refine (lookD_map (fun p : Str × My => p.1) (fun p => encW p.2) f E).trans ?_
  rw [evAt_some h]
  rfl
@[simp] theorem encM_on : encM myOn = .tuple [.bool true, .bool false, .tuple []] := by
  simp [encM, encS, myOn, sorts3]
theorem filt_mem (a : My) (w : Str) (h : w ∈ sorts3) : decide (w ∈ sorts3.filter a) = a w := by
  rw [Bool.eq_iff_iff]; simp [h]
theorem not_sort_on {s : Str} (h : s ∈ sorts3) : s ≠ "on" ∧ s ≠ "tell" := by
  simp [sorts3] at h
  rcases h with rfl | rfl | rfl <;> simp
structure MayP (P : List Fn) : Prop where
  merged : P[74]? = some f_p_merged
  joined : P[75]? = some f_p_joined
  oftry : P[76]? = some f_p_of_try
  ofdeed : P[77]? = some f_p_of_deed
  ofblock : P[78]? = some f_p_of_block
  ofmakers : P[79]? = some f_p_of_makers
variable {P : List Fn}
theorem p_joined (h : MayP P) (n : Nat) (hn : 1 ≤ n) (a b : My) (st : Sto) : run P n 75 [.d (encS a), .d (encS b)] st = some (encS (myU a b), st) := by
  obtain ⟨m, rfl⟩ : ∃ m, n = m + 1 := ⟨n - 1, by omega⟩
  rw [r_p_joined h.joined]
  have cm : compS (compF (.nm 2) (evC (run P m) (if 2 ≤ m then ini P else noC) (.some (.bor (.cmp .inn (.var 2) (.var 0)) (.cons (.cmp .inn (.var 2) (.var 1)) .nil)))) (evE (run P m) (if 2 ≤ m then ini P else noC) b_p_joined_1) [some (.d (encS a)), some (.d (encS b)), none]) [.str "red", .str "green", .str "blue"] st = some ((sorts3.filter (myU a b)).map .str, st) :=
    compS_filter PyData.str PyData.str (myU a b) _ st sorts3 (by
      intro w hw
      have e1 := filt_mem a w hw
      have e2 := filt_mem b w hw
      cases ha : a w <;> cases hb : b w <;> simp [b_p_joined_1, encS, myU, e1, e2, ha, hb, hw, evOr])
  simp [b_p_joined, cm]
  rfl
theorem p_merged (h : MayP P) (n : Nat) (hn : 2 ≤ n) (a b : My) (st : Sto) : run P n 74 [.d (encM a), .d (encM b)] st = some (encM (myU a b), st) := by
  obtain ⟨m, rfl⟩ : ∃ m, n = m + 1 := ⟨n - 1, by omega⟩
  rw [r_p_merged h.merged]
  have e := p_joined h m (by omega) a b st
  cases h1 : a "on" <;> cases h2 : a "tell" <;> simp [b_p_merged, encM, e, myU, h1, h2, evOr]
end Tw
set_option Elab.async false
set_option linter.all false
set_option maxRecDepth 100000
/-! D20b: of_block and the like. -/
namespace Tw
open PySem
variable {P : List Fn}
theorem encS_congr {a b : My} (h : ∀ w ∈ sorts3, a w = b w) : encS a = encS b := by
  unfold encS
  rw [List.filter_congr (fun w hw => h w hw)]
theorem step_on (acc D : My) : (myU (myLess acc "on") D) "on" = D "on" := by simp [myU, myLess]
theorem step_tell (acc D : My) : (myU (myLess acc "on") D) "tell" = (acc "tell" || D "tell") := by simp [myU, myLess]
theorem step_so (acc D : My) : encS (myU (myLess acc "on") D) = encS (myU acc D) := encS_congr fun w hw => by
  have := (not_sort_on hw).1
  simp [myU, myLess, this]
/-- one turn of of_block -/
theorem p_block1 (h : MayP P) (n : Nat) (hn : 2 ≤ n) (I : CallF) (d : Dd) (D acc : My) (w : PyData) (v : Vl) (st : Sto) (e : run P n 77 [.d d.enc, v] st = some (encM D, st)) (o3 o4 : Option Vl) :
    ∃ o3' o4', loopF (run P n) I (.nm 3) b_p_of_block_1 d.enc [some (.d w), some v, some (.d (encM acc)), o3, o4] st = some (.nx, [some (.d w), some v, some (.d (encM (if acc "on" then myU (myLess acc "on") D else acc))), o3', o4'], st) := by
  cases h1 : acc "on" with
  | false => exact ⟨some (.d d.enc), o4, by simp [b_p_of_block_1, encM, h1]⟩
  | true =>
    refine ⟨some (.d d.enc), some (.d (encM D)), ?_⟩
    have ej := p_joined h n (by omega) acc D st
    cases h2 : acc "tell" <;> simp [b_p_of_block_1, encM, h1, h2, e, ej, step_on, step_tell, step_so]
theorem encM_sing (s : Str) (hs : s ∈ sorts3) : encM (myW s) = .tuple [.bool false, .bool false, .tuple [.str s]] := by
  simp [sorts3] at hs
  rcases hs with rfl | rfl | rfl <;> simp [encM, encS, myW, sorts3]
theorem encM_tell : encM (myW "tell") = .tuple [.bool false, .bool true, .tuple []] := by
  simp [encM, encS, myW, sorts3]
theorem encM_call (m : My) : encM (myCall m) = .tuple [.bool (m "on" || m "tell"), .bool false, encS m] := by
  have : encS (myCall m) = encS m := encS_congr fun w hw => by
    have := not_sort_on hw
    simp [myCall, this.1, this.2]
  simp [encM, this, myCall]
/-- one turn of the first loop of of_try -/
theorem p_try1 (n : Nat) (I : CallF) (f left : My) (s x : Str) (hs : s ∈ sorts3) (b : Bk) (w : PyData) (v : Vl) (st : Sto) (o4 o5 o6 o7 : Option Vl) :
    ∃ o5' o6' o7', loopF (run P n) I (.tp [5, 6, 7]) b_p_of_try_2 (.tuple [.str s, .str x, .tuple b.enc]) [some (.d w), some v, some (.d (encM f)), some (.d (encM left)), o4, o5, o6, o7, none] st =
      some (.nx, [some (.d w), some v, some (.d (encM f)), some (.d (encM (if f s then myLess left s else left))), o4, o5', o6', o7', none], st) := by
  refine ⟨some (.d (.str s)), some (.d (.str x)), some (.d (.tuple b.enc)), ?_⟩
  have e1 := filt_mem f s hs
  obtain ⟨h1, h2⟩ := not_sort_on hs
  have h1' : ¬ (("on" : Str) = s) := fun e => h1 e.symm
  have h2' : ¬ (("tell" : Str) = s) := fun e => h2 e.symm
  cases hf : f s with
  | false => simp [b_p_of_try_2, encM, encS, e1, hf, hs]
  | true =>
    have cm : compS (compF (.nm 8) (evC (run P n) I (.some (.cmp .ne (.var 8) (.var 5)))) (evE (run P n) I b_p_of_try_1) [some (.d w), some v, some (.d (encM f)), some (.d (encM left)), o4, some (.d (.str s)), some (.d (.str x)), some (.d (.tuple b.enc)), none]) ((sorts3.filter left).map .str) st = some (((sorts3.filter left).filter fun y => !decide (y = s)).map .str, st) :=
      compS_filter PyData.str PyData.str (fun y => !decide (y = s)) _ st (sorts3.filter left) (by
        intro y hy
        by_cases hys : y = s <;> simp [b_p_of_try_1, hys])
    have e2 : encS (myLess left s) = .tuple (((sorts3.filter left).filter fun y => !decide (y = s)).map .str) := by
      simp only [encS, List.filter_filter]
      congr 3
      funext y
      simp [myLess, Bool.and_comm]
    have e3 : (myLess left s) "on" = left "on" := by simp [myLess, h1']
    have e4 : (myLess left s) "tell" = left "tell" := by simp [myLess, h2']
    simp only [loopF_ap, tgS_tp, setAll_cons, setAll_nil, List.set, Option.bind_some]
    simp only [encM] at cm ⊢
    simp only [encS] at cm ⊢
    simp [b_p_of_try_2, encS, e1, hf, hs, cm, e3, e4]
    simpa [encS] using e2.symm
end Tw
set_option Elab.async false
set_option linter.all false
set_option maxRecDepth 100000
/-! D20c: of_deed, of_block: the whole. -/
namespace Tw
open PySem
variable {P : List Fn}
/-- the second loop of of_try, one turn -/
theorem p_try2 (h : MayP P) (n : Nat) (hn : 2 ≤ n) (I : CallF) (f left B : My) (s x : Str) (hs : s ∈ sorts3) (b : Bk) (w : PyData) (v : Vl) (st : Sto) (e : run P n 78 [.d (.tuple b.enc), v] st = some (encM B, st)) (o4 o5 o6 o7 : Option Vl) :
    ∃ o5' o6' o7', loopF (run P n) I (.tp [5, 6, 7]) b_p_of_try_3 (.tuple [.str s, .str x, .tuple b.enc]) [some (.d w), some v, some (.d (encM f)), some (.d (encM left)), o4, o5, o6, o7, none] st =
      some (.nx, [some (.d w), some v, some (.d (encM f)), some (.d (encM (if f s then myU left B else left))), o4, o5', o6', o7', none], st) := by
  refine ⟨some (.d (.str s)), some (.d (.str x)), some (.d (.tuple b.enc)), ?_⟩
  have e1 := filt_mem f s hs
  have em := p_merged h n hn left B st
  have ef : ixD (encM f) (.int 2) = some (encS f) := rfl
  have ei : inD (.str s) ((sorts3.filter f).map .str) = some (f s) := by rw [inD_str, e1]
  have ei' : cmpD .inn (.str s) (encS f) = some (f s) := ei
  cases hf : f s with
  | false => simp [b_p_of_try_3, ef, ei', hf]
  | true => simp [b_p_of_try_3, ef, ei', hf, e, em]
theorem remL (n : Nat) (I : CallF) (f : My) (w : PyData) (v : Vl) (st : Sto) (K : List Str) : ∀ (cs : Cs), cs.wf K → ∀ (left : My) (o4 o5 o6 o7 : Option Vl), ∃ o5' o6' o7', forS (loopF (run P n) I (.tp [5, 6, 7]) b_p_of_try_2) cs.enc [some (.d w), some v, some (.d (encM f)), some (.d (encM left)), o4, o5, o6, o7, none] st =
      some (.nx, [some (.d w), some v, some (.d (encM f)), some (.d (encM (remC f cs left))), o4, o5', o6', o7', none], st)
  | .nil, _, left, o4, o5, o6, o7 => ⟨o5, o6, o7, rfl⟩
  | .cons s x b r, hw, left, o4, o5, o6, o7 => by
    simp only [Cs.wf] at hw
    obtain ⟨p5, p6, p7, e1⟩ := p_try1 (P := P) n I f left s x hw.1 b w v st o4 o5 o6 o7
    obtain ⟨q5, q6, q7, e2⟩ := remL n I f w v st K r hw.2.2 (if f s then myLess left s else left) o4 p5 p6 p7
    exact ⟨q5, q6, q7, (forS_nx e1).trans e2⟩
mutual
theorem p_deed (h : MayP P) (E : Ev) (v : Vl) (st : Sto) (hv : dat st v = some (kvD (encE E))) (hs : scrOf v = none) : ∀ (d : Dd), d.wf (E.map (·.1)) → ∀ n, 3 * d.dp + 5 ≤ n → run P n 77 [.d d.enc, v] st = some (encM (mayD E d), st)
  | .note a, _, n, hn => by
    obtain ⟨m, rfl⟩ : ∃ m, n = m + 1 := ⟨n - 1, by omega⟩
    rw [r_p_of_deed h.ofdeed, mayD]
    simp [b_p_of_deed, Dd.enc, inD]
  | .put x a, _, n, hn => by
    obtain ⟨m, rfl⟩ : ∃ m, n = m + 1 := ⟨n - 1, by omega⟩
    rw [r_p_of_deed h.ofdeed, mayD]
    simp [b_p_of_deed, Dd.enc, inD]
  | .tell a, _, n, hn => by
    obtain ⟨m, rfl⟩ : ∃ m, n = m + 1 := ⟨n - 1, by omega⟩
    rw [r_p_of_deed h.ofdeed, mayD, encM_tell]
    simp [b_p_of_deed, Dd.enc, inD]
  | .thr s a, hw, n, hn => by
    obtain ⟨m, rfl⟩ : ∃ m, n = m + 1 := ⟨n - 1, by omega⟩
    simp only [Dd.wf] at hw
    rw [r_p_of_deed h.ofdeed, mayD, encM_sing s hw]
    simp [b_p_of_deed, Dd.enc, inD]
  | .call x f as, hw, n, hn => by
    obtain ⟨m, rfl⟩ : ∃ m, n = m + 1 := ⟨n - 1, by omega⟩
    simp only [Dd.wf] at hw
    rw [r_p_of_deed h.ofdeed, mayD, encM_call]
    have hl := look_encE hw
    have hi := ixS_v hs
    have w0 : ∀ m : My, ixD (encW m) (.int 0) = some (.bool (m "on" || m "tell")) := fun _ => rfl
    have w1 : ∀ m : My, ixD (encW m) (.int 1) = some (encS m) := fun _ => rfl
    simp [b_p_of_deed, Dd.enc, inD, hi, hv, hl, w0, w1]
  | .ife a b c, hw, n, hn => by
    obtain ⟨m, rfl⟩ : ∃ m, n = m + 1 := ⟨n - 1, by omega⟩
    simp only [Dd.wf] at hw
    simp only [Dd.dp] at hn
    have e1 := p_block h E v st hv hs b hw.1 m (by omega)
    have e2 := p_block h E v st hv hs c hw.2 m (by omega)
    have e3 := p_merged h m (by omega) (mayB E myOn b) (mayB E myOn c) st
    rw [r_p_of_deed h.ofdeed, mayD]
    simp [b_p_of_deed, Dd.enc, inD, e1, e2, e3]
  | .turns a b, hw, n, hn => by
    obtain ⟨m, rfl⟩ : ∃ m, n = m + 1 := ⟨n - 1, by omega⟩
    simp only [Dd.wf] at hw
    simp only [Dd.dp] at hn
    have e1 := p_block h E v st hv hs b hw m (by omega)
    have e3 := p_merged h m (by omega) myOn (mayB E myOn b) st
    rw [encM_on] at e3
    rw [r_p_of_deed h.ofdeed, mayD]
    simp [b_p_of_deed, Dd.enc, inD, e1, e3]
  | .tri b cs l, hw, n, hn => by
    obtain ⟨m, rfl⟩ : ∃ m, n = m + 1 := ⟨n - 1, by omega⟩
    simp only [Dd.wf] at hw
    simp only [Dd.dp] at hn
    obtain ⟨k, rfl⟩ : ∃ k, m = k + 1 := ⟨m - 1, by omega⟩
    have e1 := p_block h E v st hv hs b hw.1 k (by omega)
    have e2 := p_block h E v st hv hs l hw.2.2 k (by omega)
    obtain ⟨o5, o6, o7, e3⟩ := remL (P := P) k (if 2 ≤ k then ini P else noC) (mayB E myOn b) (.tuple [.str "try", .tuple b.enc, .tuple cs.enc, .tuple l.enc]) v st (E.map (·.1)) cs hw.2.1 (mayB E myOn b) none none none none
    obtain ⟨p5, p6, p7, e4⟩ := p_catL h E v st hv hs cs hw.2.1 k (by omega) (if 2 ≤ k then ini P else noC) (mayB E myOn b) (remC (mayB E myOn b) cs (mayB E myOn b)) (.tuple [.str "try", .tuple b.enc, .tuple cs.enc, .tuple l.enc]) none o5 o6 o7
    have e5 := p_joined h k (by omega) (mayA E (mayB E myOn b) (remC (mayB E myOn b) cs (mayB E myOn b)) cs) (mayB E myOn l) st
    have e6 : run P (k + 1) 76 [.d (Dd.tri b cs l).enc, v] st = some (encM (mayD E (.tri b cs l)), st) := by
      rw [r_p_of_try h.oftry, mayD, Dd.enc]
      generalize hleft : mayA E (mayB E myOn b) (remC (mayB E myOn b) cs (mayB E myOn b)) cs = left at e4 e5 ⊢
      generalize hla : mayB E myOn l = la at e2 e5 ⊢
      generalize hfo : mayB E myOn b = fo at e1 e3 e4 ⊢
      have i0 : ∀ m : My, ixD (encM m) (.int 0) = some (.bool (m "on")) := fun _ => rfl
      have i1 : ∀ m : My, ixD (encM m) (.int 1) = some (.bool (m "tell")) := fun _ => rfl
      have i2 : ∀ m : My, ixD (encM m) (.int 2) = some (encS m) := fun _ => rfl
      cases hl0 : la "on" with
      | false => simp [b_p_of_try, e1, e3, e4, e2, i0, hl0, mayT]
      | true =>
        have q1 : (myU left (myLess la "on")) "on" = left "on" := by simp [myU, myLess]
        have q2 : (myU left (myLess la "on")) "tell" = (left "tell" || la "tell") := by simp [myU, myLess]
        have q3 : encS (myU left (myLess la "on")) = encS (myU left la) := encS_congr fun w hw => by
          have := (not_sort_on hw).1
          simp [myU, myLess, this]
        have q4 : encM (myU left (myLess la "on")) = .tuple [.bool (left "on"), .bool (left "tell" || la "tell"), encS (myU left la)] := by
          simp [encM, q1, q2, q3]
        cases hl1 : left "tell" <;> simp [b_p_of_try, e1, e3, e4, e2, i0, i1, i2, hl0, hl1, mayT, e5, q4]
    rw [r_p_of_deed h.ofdeed]
    rw [Dd.enc] at e6 ⊢
    simp [b_p_of_deed, inD, e6]
theorem p_block (h : MayP P) (E : Ev) (v : Vl) (st : Sto) (hv : dat st v = some (kvD (encE E))) (hs : scrOf v = none) : ∀ (b : Bk), b.wf (E.map (·.1)) → ∀ n, 3 * b.dp + 3 ≤ n → run P n 78 [.d (.tuple b.enc), v] st = some (encM (mayB E myOn b), st)
  | b, hw, n, hn => by
    obtain ⟨m, rfl⟩ : ∃ m, n = m + 1 := ⟨n - 1, by omega⟩
    obtain ⟨o3, o4, e⟩ := p_blockL h E v st hv hs b hw m (by omega) (if 2 ≤ m then ini P else noC) myOn (.tuple b.enc) none none
    rw [encM_on] at e
    rw [r_p_of_block h.ofblock]
    simp [b_p_of_block, e]
theorem p_blockL (h : MayP P) (E : Ev) (v : Vl) (st : Sto) (hv : dat st v = some (kvD (encE E))) (hs : scrOf v = none) : ∀ (b : Bk), b.wf (E.map (·.1)) → ∀ n, 3 * b.dp + 2 ≤ n → ∀ (I : CallF) (acc : My) (w : PyData) (o3 o4 : Option Vl), ∃ o3' o4',
    forS (loopF (run P n) I (.nm 3) b_p_of_block_1) b.enc [some (.d w), some v, some (.d (encM acc)), o3, o4] st = some (.nx, [some (.d w), some v, some (.d (encM (mayB E acc b))), o3', o4'], st)
  | .nil, _, n, _, I, acc, w, o3, o4 => ⟨o3, o4, rfl⟩
  | .cons d r, hw, n, hn, I, acc, w, o3, o4 => by
    simp only [Bk.wf] at hw
    simp only [Bk.dp] at hn
    obtain ⟨p3, p4, e1⟩ := p_block1 h n (by omega) I d (mayD E d) acc w v st (p_deed h E v st hv hs d hw.1 n (by omega)) o3 o4
    obtain ⟨q3, q4, e2⟩ := p_blockL h E v st hv hs r hw.2 n (by omega) I (if acc "on" then myU (myLess acc "on") (mayD E d) else acc) w p3 p4
    exact ⟨q3, q4, (forS_nx e1).trans e2⟩
theorem p_catL (h : MayP P) (E : Ev) (v : Vl) (st : Sto) (hv : dat st v = some (kvD (encE E))) (hs : scrOf v = none) : ∀ (cs : Cs), cs.wf (E.map (·.1)) → ∀ n, 3 * cs.dp + 3 ≤ n → ∀ (I : CallF) (f left : My) (w : PyData) (o4 o5 o6 o7 : Option Vl), ∃ o5' o6' o7',
    forS (loopF (run P n) I (.tp [5, 6, 7]) b_p_of_try_3) cs.enc [some (.d w), some v, some (.d (encM f)), some (.d (encM left)), o4, o5, o6, o7, none] st =
      some (.nx, [some (.d w), some v, some (.d (encM f)), some (.d (encM (mayA E f left cs))), o4, o5', o6', o7', none], st)
  | .nil, _, n, _, I, f, left, w, o4, o5, o6, o7 => ⟨o5, o6, o7, rfl⟩
  | .cons s x b r, hw, n, hn, I, f, left, w, o4, o5, o6, o7 => by
    simp only [Cs.wf] at hw
    simp only [Cs.dp] at hn
    obtain ⟨p5, p6, p7, e1⟩ := p_try2 h n (by omega) I f left (mayB E myOn b) s x hw.1 b w v st (p_block h E v st hv hs b hw.2.1 n (by omega)) o4 o5 o6 o7
    obtain ⟨q5, q6, q7, e2⟩ := p_catL h E v st hv hs r hw.2.2 n (by omega) I f (if f s then myU left (mayB E myOn b) else left) w o4 p5 p6 p7
    exact ⟨q5, q6, q7, (forS_nx e1).trans e2⟩
end
end Tw
set_option Elab.async false
set_option linter.all false
set_option maxRecDepth 100000
/-! D20d: of_makers; plain data that may be compared. -/
namespace Tw
open PySem
variable {P : List Fn}
theorem sorts_ok : ∀ w ∈ sorts3, PyData.strOk w = true := by
  intro w hw
  simp [sorts3] at hw
  rcases hw with rfl | rfl | rfl <;> decide +kernel
theorem pl_encS (m : My) : Pl 1 (encS m) := pl_tup (k := 0) (pl_strs fun w hw => sorts_ok w (List.mem_filter.mp hw).1)
/-! ### of_makers -/
def mkE : Ev → List Mk → Ev
  | E, [] => E
  | E, m :: r => mkE (E ++ [(m.nm, mayB E myOn m.bk)]) r
def bookWf : List Str → List Mk → Prop
  | _, [] => True
  | K, m :: r => m.bk.wf K ∧ m.nm ∉ K ∧ m.bk.dp ≤ 4 ∧ bookWf (K ++ [m.nm]) r
theorem putD_new {q : List (Str × PyData)} {z : Str} {x : PyData} (h : z ∉ q.map (·.1)) : putD q z x = q ++ [(z, x)] := by
  unfold putD
  rw [if_neg]
  intro c
  rw [List.any_eq_true] at c
  obtain ⟨p, hp, e⟩ := c
  simp at e
  exact h (List.mem_map.mpr ⟨p, hp, e⟩)
theorem encE_keys (E : Ev) : (encE E).map (·.1) = E.map (·.1) := by simp [encE]
theorem p_makersL (h : MayP P) (n : Nat) (hn : 15 ≤ n) (I : CallF) (w : PyData) (st : Sto) : ∀ (b : List Mk) (E : Ev), bookWf (E.map (·.1)) b → E.length + b.length ≤ 1000 → ∀ (o2 o3 o4 o5 o6 o7 : Option Vl), ∃ o2' o3' o4' o5' o6' o7',
    forS (loopF (run P n) I (.tp [2, 3, 4]) b_p_of_makers_1) (b.map Mk.enc) [some (.d w), some (.r st.length), o2, o3, o4, o5, o6, o7] (st ++ [.dct (encE E)]) =
      some (.nx, [some (.d w), some (.r st.length), o2', o3', o4', o5', o6', o7'], st ++ [.dct (encE (mkE E b))])
  | [], E, _, _, o2, o3, o4, o5, o6, o7 => ⟨o2, o3, o4, o5, o6, o7, rfl⟩
  | m :: r, E, hw, hl, o2, o3, o4, o5, o6, o7 => by
    obtain ⟨h1, h2, h3, h4⟩ := hw
    have e1 := p_block h E (.r st.length) (st ++ [.dct (encE E)]) (by simp) rfl m.bk h1 n (by omega)
    generalize hM : mayB E myOn m.bk = M at e1
    have hz : (encE E).length < 16777216 := by simp [encE]; simp at hl; omega
    have hp : putD (encE E) m.nm (encW M) = encE (E ++ [(m.nm, M)]) := by
      rw [putD_new (by rw [encE_keys]; exact h2)]
      simp [encE]
    have e2 : loopF (run P n) I (.tp [2, 3, 4]) b_p_of_makers_1 m.enc [some (.d w), some (.r st.length), o2, o3, o4, o5, o6, o7] (st ++ [.dct (encE E)]) =
        some (.nx, [some (.d w), some (.r st.length), some (.d (.str m.nm)), some (.d (.tuple (m.ps.map .str))), some (.d (.tuple m.bk.enc)), some (.d (.bool (M "on"))), some (.d (.bool (M "tell"))), some (.d (encS M))], st ++ [.dct (encE (E ++ [(m.nm, M)]))]) := by
      have e1' : run P n 78 [.d (.tuple m.bk.enc), .r st.length] (st ++ [.dct (encE E)]) = some (.tuple [.bool (M "on"), .bool (M "tell"), encS M], st ++ [.dct (encE E)]) := e1
      have hp' : putD (encE E) m.nm (.tuple [.bool (M "on" || M "tell"), encS M]) = encE (E ++ [(m.nm, M)]) := hp
      cases c : M "on" <;> simp [c] at hp' e1' <;> simp [b_p_of_makers_1, Mk.enc, e1', hz, hp', c]
    have hK : (E ++ [(m.nm, M)]).map (·.1) = E.map (·.1) ++ [m.nm] := by simp
    obtain ⟨q2, q3, q4, q5, q6, q7, e3⟩ := p_makersL h n hn I w st r (E ++ [(m.nm, M)]) (by rw [hK]; exact h4) (by simp at hl ⊢; omega) (some (.d (.str m.nm))) (some (.d (.tuple (m.ps.map .str)))) (some (.d (.tuple m.bk.enc))) (some (.d (.bool (M "on")))) (some (.d (.bool (M "tell")))) (some (.d (encS M)))
    refine ⟨q2, q3, q4, q5, q6, q7, ?_⟩
    rw [List.map_cons, mkE, hM]
    exact (forS_nx e2).trans e3
theorem p_makers (h : MayP P) (n : Nat) (hn : 16 ≤ n) (st : Sto) (b : List Mk) (hw : bookWf [] b) (hl : b.length ≤ 1000) : run P n 79 [.d (encB b)] st = some (kvD (encE (mkE [] b)), st) := by
  obtain ⟨m, rfl⟩ : ∃ m, n = m + 1 := ⟨n - 1, by omega⟩
  obtain ⟨o2, o3, o4, o5, o6, o7, e⟩ := p_makersL h m (by omega) (if 2 ≤ m then ini P else noC) (encB b) st b [] hw (by simpa using hl) none none none none none none
  rw [r_p_of_makers h.ofmakers]
  simp [encE] at e
  simp [b_p_of_makers, encB] at e ⊢
  simp [e, encE]
end Tw
set_option Elab.async false
set_option linter.all false
set_option maxRecDepth 100000
/-! D20e: what deeds may do, by the law. -/
namespace Tw
open PySem
variable {P : List Fn}
def LW (ws : List Str) (m : My) : Prop := ws.Nodup ∧ ∀ w, w ∈ ws ↔ m w = true
def notS (s : Str) : Str → Bool := fun w => !decide (w = s)
def fiveW : List Str := ["on", "tell", "red", "green", "blue"]
def Sup (m : My) : Prop := ∀ w, m w = true → w ∈ fiveW
theorem LW.len {ws : List Str} {m : My} (h : LW ws m) (s : Sup m) : ws.length ≤ 5 := nodup_len ws fiveW h.1 fun w hw => s w ((h.2 w).mp hw)
theorem LW.dec {ws : List Str} {m : My} (h : LW ws m) (w : Str) : decide (w ∈ ws) = m w := by
  rw [Bool.eq_iff_iff]; simp [h.2 w]
theorem LW.add {a b : List Str} {m k : My} (h : LW a m) (h' : LW b k) : LW (addW a b) (myU m k) := by
  refine ⟨nodup_addW b a h.1, fun w => ?_⟩
  rw [mem_addW, h.2, h'.2]
  simp [myU]
theorem LW.new {ws : List Str} {m : My} (h : ∀ w, w ∈ ws ↔ m w = true) : LW (addW [] ws) m := by
  refine ⟨nodup_addW ws [] List.nodup_nil, fun w => ?_⟩
  rw [mem_addW, ← h]
  simp
theorem LW.one (s : Str) : LW [s] (myW s) := ⟨by simp, fun w => by simp [myW]⟩
theorem LW.less {ws : List Str} {m : My} (h : LW ws m) (s : Str) : LW (addW [] (ws.filter (notS s))) (myLess m s) := LW.new fun w => by
  rw [List.mem_filter, h.2]; simp [myLess, notS]
theorem sup_on : Sup myOn := fun w h => by simp [myOn] at h; simp [h, fiveW]
theorem sup_u {a b : My} (h : Sup a) (h' : Sup b) : Sup (myU a b) := fun w e => by
  simp [myU] at e
  rcases e with e | e
  · exact h w e
  · exact h' w e
theorem sup_less {a : My} (h : Sup a) (s : Str) : Sup (myLess a s) := fun w e => by
  simp [myLess] at e
  exact h w e.1
theorem sup_call {a : My} (h : Sup a) : Sup (myCall a) := fun w e => by
  unfold myCall at e
  split at e
  · rename_i c; simp [c, fiveW]
  · split at e
    · cases e
    · exact h w e
theorem sup_sort {s : Str} (hs : s ∈ sorts3) : Sup (myW s) := fun w e => by
  simp [myW] at e
  subst e
  simp [sorts3] at hs
  rcases hs with rfl | rfl | rfl <;> simp [fiveW]
theorem sup_tell : Sup (myW "tell") := fun w e => by
  simp [myW] at e
  simp [e, fiveW]
theorem sup_rem (f : My) : ∀ (cs : Cs) (left : My), Sup left → Sup (remC f cs left)
  | .nil, left, h => h
  | .cons s _ _ r, left, h => by
    rw [remC]
    refine sup_rem f r _ ?_
    split
    · exact sup_less h s
    · exact h
mutual
theorem supD (E : Ev) (hE : ∀ f, Sup (evAt E f)) (K : List Str) : ∀ (d : Dd), d.wf K → Sup (mayD E d)
  | .note _, _ => by rw [mayD]; exact sup_on
  | .put _ _, _ => by rw [mayD]; exact sup_on
  | .tell _, _ => by rw [mayD]; exact sup_tell
  | .thr s _, h => by rw [mayD]; exact sup_sort (by simpa [Dd.wf] using h)
  | .call _ f _, _ => by rw [mayD]; exact sup_call (hE f)
  | .ife _ b c, h => by
    simp only [Dd.wf] at h
    rw [mayD]; exact sup_u (supB E hE K b h.1 _ sup_on) (supB E hE K c h.2 _ sup_on)
  | .turns _ b, h => by
    simp only [Dd.wf] at h
    rw [mayD]; exact sup_u sup_on (supB E hE K b h _ sup_on)
  | .tri b cs l, h => by
    simp only [Dd.wf] at h
    rw [mayD]
    unfold mayT
    split
    · exact sup_u (supA E hE K cs h.2.1 _ _ (sup_rem _ _ _ (supB E hE K b h.1 _ sup_on))) (sup_less (supB E hE K l h.2.2 _ sup_on) _)
    · exact supB E hE K l h.2.2 _ sup_on
theorem supB (E : Ev) (hE : ∀ f, Sup (evAt E f)) (K : List Str) : ∀ (b : Bk), b.wf K → ∀ acc, Sup acc → Sup (mayB E acc b)
  | .nil, _, acc, h => by rw [mayB]; exact h
  | .cons d r, hw, acc, h => by
    simp only [Bk.wf] at hw
    rw [mayB]
    refine supB E hE K r hw.2 _ ?_
    split
    · exact sup_u (sup_less h _) (supD E hE K d hw.1)
    · exact h
theorem supA (E : Ev) (hE : ∀ f, Sup (evAt E f)) (K : List Str) : ∀ (cs : Cs), cs.wf K → ∀ f left, Sup left → Sup (mayA E f left cs)
  | .nil, _, f, left, h => by rw [mayA]; exact h
  | .cons s _ b r, hw, f, left, h => by
    simp only [Cs.wf] at hw
    rw [mayA]
    refine supA E hE K r hw.2.2 f _ ?_
    split
    · exact sup_u h (supB E hE K b hw.2.1 _ sup_on)
    · exact h
end
structure MayL (P : List Fn) : Prop where
  both : P[82]? = some f_l_law_both
  may : P[83]? = some f_l_law_may
  ways : P[84]? = some f_l_law_ways
  tryw : P[85]? = some f_l_law_try_ways
/-- the law's book of what was found -/
structure BkL (E : Ev) (v : Vl) (st : Sto) : Prop where
  scr : scrOf v = none
  out : ∀ n, st.length ≤ n → isR n v = false
  look : ∃ q, dat st v = some (kvD q) ∧ ∀ f ∈ E.map (·.1), ∃ ws, lookD q f = some (kvD (tru ws)) ∧ LW ws (evAt E f)
theorem BkL.app {E : Ev} {v : Vl} {st : Sto} (h : BkL E v st) (t : Sto) : BkL E v (st ++ t) := by
  obtain ⟨h1, h2, q, h3, h4⟩ := h
  exact ⟨h1, fun n hn => h2 n (by simp at hn; omega), q, dat_app t h3, h4⟩
theorem l_both (h : MayL P) (n : Nat) (hn : 1 ≤ n) (v1 v2 : Vl) (a b : List Str) (st : Sto) (h1 : dat st v1 = some (kvD (tru a))) (h2 : dat st v2 = some (kvD (tru b))) (hr : isR st.length v2 = false) (hl : a.length + b.length ≤ 1000) :
    run P n 82 [v1, v2] st = some (kvD (tru (addW a b)), st) := by
  obtain ⟨m, rfl⟩ : ∃ m, n = m + 1 := ⟨n - 1, by omega⟩
  rw [r_l_law_both h.both]
  have e := mt1S_updS st (tru a) (tru b) v2 (dat_app _ h2) hr (by simp; omega)
  simp [b_l_law_both, h1, e, merge_tru]
def bl_may_r : Ss := (.cons (.asg 2 (.ndc1 (.comp b_l_law_may_1 (.nm 4) (.keys (.var 2)) (.some (.cmp .ne (.var 4) (.cst (.str "on")))))))
    (.cons (.exp (.mt1 .upd (.var 2) (.call 84 (.cons (.var 3) (.cons (.var 1) .nil))))) .nil))
theorem bl_may_2 : b_l_law_may_2 = .cons (.ite (.cmp .inn (.cst (.str "on")) (.var 2)) (.cons (.frz 2) bl_may_r) .nil) .nil := rfl
/-- one turn of _law_may -/
theorem l_may1 (n : Nat) (I : CallF) (E : Ev) (M acc : My) (ws : List Str) (hw : LW ws acc) (ha : Sup acc) (hM : Sup M) (d : Dd) (w : PyData) (v : Vl) (S : Sto) (hS : BkL E v S)
    (e : ∀ S0, BkL E v S0 → ∃ vs, LW vs M ∧ run P n 84 [.d d.enc, v] S0 = some (kvD (tru vs), S0)) (o3 : Option Vl) :
    ∃ S' ws' o3', LW ws' (if acc "on" then myU (myLess acc "on") M else acc) ∧ (S' = S ∨ S' = S ++ [.dead]) ∧
      loopF (run P n) I (.nm 3) b_l_law_may_2 d.enc [some (.d w), some v, some (.r S.length), o3, none] (S ++ [.dct (tru ws)]) = some (.nx, [some (.d w), some v, some (.r S'.length), o3', none], S' ++ [.dct (tru ws')]) := by
  have hd := hw.dec "on"
  cases h1 : acc "on" with
  | false =>
    rw [h1] at hd
    simp at hd
    exact ⟨S, ws, some (.d d.enc), by simpa using hw, .inl rfl, by simp [b_l_law_may_2, hd]⟩
  | true =>
    rw [h1] at hd
    simp at hd
    have l0 := hw.less "on"
    obtain ⟨vs, hv, e1⟩ := e ((S ++ [.dead]) ++ [.dct (tru (addW [] (ws.filter (notS "on"))))]) ((hS.app _).app _)
    have hlen : (addW [] (ws.filter (notS "on"))).length + vs.length ≤ 16777216 := by
      have q1 := l0.len (sup_less ha _)
      have q2 := hv.len hM
      omega
    refine ⟨S ++ [.dead], addW (addW [] (ws.filter (notS "on"))) vs, some (.d d.enc), by simpa using l0.add hv, .inr rfl, ?_⟩
    have key : ∀ S', run P n 84 [.d d.enc, v] (S' ++ [.dct (tru (addW [] (ws.filter (notS "on"))))]) = some (kvD (tru vs), S' ++ [.dct (tru (addW [] (ws.filter (notS "on"))))]) →
        evSs (run P n) I bl_may_r [some (.d w), some v, some (.d (kvD (tru ws))), some (.d d.enc), none] S' = some (.nx, [some (.d w), some v, some (.r S'.length), some (.d d.enc), none], S' ++ [.dct (tru (addW (addW [] (ws.filter (notS "on"))) vs))]) := by
      intro S' e2
      have cm : compS (compF (.nm 4) (evC (run P n) I (.some (.cmp .ne (.var 4) (.cst (.str "on"))))) (evE (run P n) I b_l_law_may_1) [some (.d w), some v, some (.d (kvD (tru ws))), some (.d d.enc), none]) (ws.map .str) S' = some ((ws.filter (notS "on")).map fun w => .tuple [.str w, .bool true], S') :=
        compS_filter PyData.str (fun w => .tuple [.str w, .bool true]) (notS "on") _ S' ws (by
          intro y hy
          by_cases hys : y = "on" <;> simp [b_l_law_may_1, notS, hys])
      simp [bl_may_r, cm, merge_tru0, e2, hlen, merge_tru]
    have hr := frz1_v (x := kvD (tru ws)) (hS.out S.length (Nat.le_refl _))
    have e3 := key (S ++ [.dead]) e1
    rw [bl_may_2]
    simp [hd, frzS_top, hr, e3]
end Tw
set_option Elab.async false
set_option linter.all false
set_option maxRecDepth 100000
set_option maxHeartbeats 2000000
/-! D20f: what deeds may do, by the law: the whole. -/
namespace Tw
open PySem
variable {P : List Fn}
def Cs.toL : Cs → List C1t
  | .nil => []
  | .cons s x b r => (s, x, b) :: r.toL
theorem Cs.toL_enc : ∀ cs : Cs, cs.enc = cs.toL.map encC
  | .nil => rfl
  | .cons s x b r => by rw [Cs.enc, Cs.toL, List.map_cons, Cs.toL_enc r]; rfl
def caughtL (f : My) (cs : Cs) : List C1t := cs.toL.filter fun c => f c.1
theorem remC_eq (f : My) (w : Str) : ∀ (cs : Cs) (left : My), remC f cs left w = (left w && !decide (w ∈ (caughtL f cs).map (·.1)))
  | .nil, left => by simp [remC, caughtL, Cs.toL]
  | .cons s x b r, left => by
    rw [remC, remC_eq f w r]
    cases hf : f s with
    | false =>
      have e : caughtL f (.cons s x b r) = caughtL f r := by simp [caughtL, Cs.toL, hf]
      rw [e]; rfl
    | true =>
      have e : caughtL f (.cons s x b r) = (s, x, b) :: caughtL f r := by simp [caughtL, Cs.toL, hf]
      rw [e, Bool.eq_iff_iff]
      by_cases hw : w = s
      · simp [myLess, hw]
      · simp [myLess, hw]
/-- a dict made of the keys that a test leaves -/
theorem LW.filt {ws : List Str} {m k : My} (h : LW ws m) (p : Str → Bool) (hk : ∀ w, k w = (m w && p w)) : LW (addW [] (ws.filter p)) k := LW.new fun w => by
  rw [List.mem_filter, h.2, hk]; simp
theorem dat2 (st : Sto) (a b : MO) : (st ++ [a, b])[st.length + 1]? = some b := by simp
/-- one turn of the loop of _law_try_ways -/
theorem l_tryL (h : MayL P) (n : Nat) (hn : 1 ≤ n) (I : CallF) (E : Ev) (v : Vl) (S : Sto) (w c : PyData) (o2 : Option Vl) (f : My) (hE : ∀ f, Sup (evAt E f)) (K : List Str) : ∀ (cs : Cs), cs.wf K →
    (∀ x ∈ cs.toL, ∃ vs, LW vs (mayB E myOn x.2.2) ∧ run P n 83 [.d (.tuple x.2.2.enc), v] S = some (kvD (tru vs), S)) → ∀ (left : My) (ws : List Str) (u : Vl), LW ws left → Sup left → dat S u = some (kvD (tru ws)) → ∀ (o7 o8 o9 : Option Vl),
    ∃ u' ws' o7' o8' o9', LW ws' (mayA E f left cs) ∧ dat S u' = some (kvD (tru ws')) ∧ forS (loopF (run P n) I (.tp [7, 8, 9]) b_l_law_try_ways_4) ((caughtL f cs).map encC) [some (.d w), some v, o2, some (.d c), some u, none, none, o7, o8, o9, none, none] S =
      some (.nx, [some (.d w), some v, o2, some (.d c), some u', none, none, o7', o8', o9', none, none], S)
  | .nil, _, _, left, ws, u, hl, hs, hu, o7, o8, o9 => ⟨u, ws, o7, o8, o9, by rw [mayA]; exact hl, hu, rfl⟩
  | .cons s x b r, hw, hb, left, ws, u, hl, hs, hu, o7, o8, o9 => by
    simp only [Cs.wf] at hw
    have hr : ∀ y ∈ r.toL, ∃ vs, LW vs (mayB E myOn y.2.2) ∧ run P n 83 [.d (.tuple y.2.2.enc), v] S = some (kvD (tru vs), S) := fun y hy => hb y (by simp [Cs.toL, hy])
    cases hf : f s with
    | false =>
      have e0 : caughtL f (.cons s x b r) = caughtL f r := by simp [caughtL, Cs.toL, hf]
      rw [e0, mayA]
      simp only [hf, Bool.false_eq_true, if_false]
      exact l_tryL h n hn I E v S w c o2 f hE K r hw.2.2 hr left ws u hl hs hu o7 o8 o9
    | true =>
      have e0 : caughtL f (.cons s x b r) = (s, x, b) :: caughtL f r := by simp [caughtL, Cs.toL, hf]
      rw [e0, mayA, List.map_cons]
      simp only [hf, if_true]
      obtain ⟨vs, hv, e1⟩ := hb (s, x, b) (by simp [Cs.toL])
      dsimp only at hv e1
      have sb := supB E hE K b hw.2.1 _ sup_on
      have q1 := hl.len hs
      have q2 := hv.len sb
      have e2 := l_both h n hn u (.d (kvD (tru vs))) ws vs S hu rfl rfl (by omega)
      have e3 : loopF (run P n) I (.tp [7, 8, 9]) b_l_law_try_ways_4 (encC (s, x, b)) [some (.d w), some v, o2, some (.d c), some u, none, none, o7, o8, o9, none, none] S =
          some (.nx, [some (.d w), some v, o2, some (.d c), some (.d (kvD (tru (addW ws vs)))), none, none, some (.d (.str s)), some (.d (.str x)), some (.d (.tuple b.enc)), none, none], S) := by
        simp [b_l_law_try_ways_4, encC, e1, e2]
      obtain ⟨u', ws', p7, p8, p9, k1, k2, k3⟩ := l_tryL h n hn I E v S w c o2 f hE K r hw.2.2 hr (myU left (mayB E myOn b)) (addW ws vs) (.d (kvD (tru (addW ws vs)))) (hl.add hv) (sup_u hs sb) rfl (some (.d (.str s))) (some (.d (.str x))) (some (.d (.tuple b.enc)))
      exact ⟨u', ws', p7, p8, p9, k1, k2, (forS_nx e3).trans k3⟩
def okW (w : Str) : Bool := !(decide (("on" : Str) = w) || decide (("tell" : Str) = w))
mutual
theorem l_deed (h : MayL P) (E : Ev) (hE : ∀ f, Sup (evAt E f)) : ∀ (d : Dd), d.wf (E.map (·.1)) → ∀ n, 3 * d.dp + 5 ≤ n → ∀ (v : Vl) (st : Sto), BkL E v st → ∃ ws, LW ws (mayD E d) ∧ run P n 84 [.d d.enc, v] st = some (kvD (tru ws), st)
  | .note a, _, n, hn, v, st, hv => by
    obtain ⟨m, rfl⟩ : ∃ m, n = m + 1 := ⟨n - 1, by omega⟩
    refine ⟨["on"], by rw [mayD]; exact LW.one "on", ?_⟩
    rw [r_l_law_ways h.ways]
    simp [b_l_law_ways, Dd.enc, tru]
  | .put x a, _, n, hn, v, st, hv => by
    obtain ⟨m, rfl⟩ : ∃ m, n = m + 1 := ⟨n - 1, by omega⟩
    refine ⟨["on"], by rw [mayD]; exact LW.one "on", ?_⟩
    rw [r_l_law_ways h.ways]
    simp [b_l_law_ways, Dd.enc, tru]
  | .tell a, _, n, hn, v, st, hv => by
    obtain ⟨m, rfl⟩ : ∃ m, n = m + 1 := ⟨n - 1, by omega⟩
    refine ⟨["tell"], by rw [mayD]; exact LW.one "tell", ?_⟩
    rw [r_l_law_ways h.ways]
    simp [b_l_law_ways, Dd.enc, tru]
  | .thr s a, hw, n, hn, v, st, hv => by
    obtain ⟨m, rfl⟩ : ∃ m, n = m + 1 := ⟨n - 1, by omega⟩
    refine ⟨[s], by rw [mayD]; exact LW.one s, ?_⟩
    rw [r_l_law_ways h.ways]
    simp [b_l_law_ways, Dd.enc, tru]
  | .call x f as, hw, n, hn, v, st, hv => by
    obtain ⟨m, rfl⟩ : ∃ m, n = m + 1 := ⟨n - 1, by omega⟩
    simp only [Dd.wf] at hw
    obtain ⟨q, hq, hl⟩ := hv.look
    obtain ⟨ws, hf, hws⟩ := hl f hw
    have hi := ixS_v hv.scr
    have hq2 : ∀ t, dat (st ++ t) v = some (kvD q) := fun t => dat_app t hq
    have d1 := hws.dec "on"
    have d2 := hws.dec "tell"
    have n0 : (addW [] (ws.filter okW)).length < 16777216 := by
      have q1 := (hws.filt (k := fun w => evAt E f w && okW w) okW (fun w => rfl)).len (fun w hw => hE f w (by simp at hw; exact hw.1))
      omega
    have cm : compS (compF (.nm 4) (evC (run P m) (if 2 ≤ m then ini P else noC) (.some (.cmp .nin (.var 4) (.tup (.cons (.cst (.str "on")) (.cons (.cst (.str "tell")) .nil)))))) (evE (run P m) (if 2 ≤ m then ini P else noC) b_l_law_ways_1) [some (.d (Dd.call x f as).enc), some v, some (.d (.str "call")), none, none]) (ws.map .str) st = some ((ws.filter okW).map fun w => .tuple [.str w, .bool true], st) :=
      compS_filter PyData.str (fun w => .tuple [.str w, .bool true]) okW _ st ws (by
        intro y hy
        cases c : okW y <;> simp [okW] at c <;> simp [b_l_law_ways_1, inD, c] <;> exact c)
    rw [Dd.enc] at cm
    rw [r_l_law_ways h.ways, Dd.enc]
    by_cases c : (evAt E f "on" || evAt E f "tell") = true
    · refine ⟨addW (addW [] (ws.filter okW)) ["on"], ?_, ?_⟩
      · have l1 := (hws.filt (k := fun w => evAt E f w && okW w) okW (fun w => rfl)).add (LW.one "on")
        refine ⟨l1.1, fun w => ?_⟩
        rw [l1.2, mayD]
        simp only [myU, myW, myCall, okW]
        by_cases w1 : w = "on"
        · simp [w1] at c ⊢; exact c
        · by_cases w2 : w = "tell"
          · simp [w2]
          · have w1' : ¬ (("on" : Str) = w) := fun e => w1 e.symm
            have w2' : ¬ (("tell" : Str) = w) := fun e => w2 e.symm
            simp [w1, w2, w1', w2']
      · have ep : putD (tru (addW [] (ws.filter okW))) "on" (.bool true) = tru (addW (addW [] (ws.filter okW)) ["on"]) := putD_tru _ _
        cases c1 : evAt E f "on" with
        | true =>
          rw [c1] at d1
          simp at d1
          simp [b_l_law_ways, hi, hq, hq2, hf, cm, merge_tru0, n0, d1, ep]
        | false =>
          rw [c1] at c d1
          simp at c
          rw [c] at d2
          simp at d1 d2
          simp [b_l_law_ways, hi, hq, hq2, hf, cm, merge_tru0, n0, d1, d2, ep]
    · refine ⟨addW [] (ws.filter okW), ?_, ?_⟩
      · refine hws.filt okW fun w => ?_
        rw [mayD]
        simp only [Bool.not_eq_true, Bool.or_eq_false_iff] at c
        simp only [myCall, okW]
        by_cases w1 : w = "on"
        · simp [w1, c.1, c.2]
        · by_cases w2 : w = "tell"
          · simp [w2, c.2]
          · have w1' : ¬ (("on" : Str) = w) := fun e => w1 e.symm
            have w2' : ¬ (("tell" : Str) = w) := fun e => w2 e.symm
            simp [w1, w2, w1', w2']
      · simp only [Bool.not_eq_true, Bool.or_eq_false_iff] at c
        rw [c.1] at d1
        rw [c.2] at d2
        simp at d1 d2
        simp [b_l_law_ways, hi, hq, hq2, hf, cm, merge_tru0, d1, d2]
  | .ife a b c, hw, n, hn, v, st, hv => by
    obtain ⟨m, rfl⟩ : ∃ m, n = m + 1 := ⟨n - 1, by omega⟩
    simp only [Dd.wf] at hw
    simp only [Dd.dp] at hn
    obtain ⟨w1, k1, e1⟩ := l_block h E hE b hw.1 m (by omega) v st hv
    obtain ⟨w2, k2, e2⟩ := l_block h E hE c hw.2 m (by omega) v st hv
    have q1 := k1.len (supB E hE _ b hw.1 _ sup_on)
    have q2 := k2.len (supB E hE _ c hw.2 _ sup_on)
    have e3 := l_both h m (by omega) (.d (kvD (tru w1))) (.d (kvD (tru w2))) w1 w2 st rfl rfl rfl (by omega)
    refine ⟨addW w1 w2, by rw [mayD]; exact k1.add k2, ?_⟩
    rw [r_l_law_ways h.ways]
    simp [b_l_law_ways, Dd.enc, e1, e2, e3]
  | .turns a b, hw, n, hn, v, st, hv => by
    obtain ⟨m, rfl⟩ : ∃ m, n = m + 1 := ⟨n - 1, by omega⟩
    simp only [Dd.wf] at hw
    simp only [Dd.dp] at hn
    obtain ⟨w1, k1, e1⟩ := l_block h E hE b hw m (by omega) v (st ++ [.dct (tru ["on"])]) (hv.app _)
    have q1 := k1.len (supB E hE _ b hw _ sup_on)
    have e3 := l_both h m (by omega) (.r st.length) (.d (kvD (tru w1))) ["on"] w1 (st ++ [.dct (tru ["on"])]) (by simp) rfl rfl (by simp; omega)
    refine ⟨addW ["on"] w1, by rw [mayD]; exact (LW.one "on").add k1, ?_⟩
    rw [r_l_law_ways h.ways]
    have t1 : tru ["on"] = [(("on" : Str), PyData.bool true)] := rfl
    rw [t1] at e1 e3
    simp [b_l_law_ways, Dd.enc, e1, e3]
  | .tri b cs l, hw, n, hn, v, st, hv => by
    obtain ⟨m, rfl⟩ : ∃ m, n = m + 1 := ⟨n - 1, by omega⟩
    simp only [Dd.wf] at hw
    simp only [Dd.dp] at hn
    obtain ⟨k, rfl⟩ : ∃ k, m = k + 1 := ⟨m - 1, by omega⟩
    obtain ⟨w1, k1, e1⟩ := l_block h E hE b hw.1 k (by omega) v st hv
    have s1 := supB E hE _ b hw.1 _ sup_on
    generalize hI : (if 2 ≤ k then ini P else noC) = I
    generalize hfo : mayB E myOn b = fo at k1 s1
    generalize hdd : (Dd.tri b cs l).enc = dd
    rw [Dd.enc] at hdd
    have cm1 : compS (compF (.nm 10) (evC (run P k) I (.some (.cmp .inn (.ix (.var 10) (.cst (.int 0))) (.var 2)))) (evE (run P k) I b_l_law_try_ways_1) [some (.d dd), some v, some (.d (kvD (tru w1))), none, none, none, none, none, none, none, none, none]) (cs.toL.map encC) st = some ((caughtL fo cs).map encC, st) :=
      compS_filter encC encC (fun c => fo c.1) _ st cs.toL (by
        intro y hy
        have := k1.dec y.1
        cases c : fo y.1 <;> rw [c] at this <;> simp at this <;> simp [b_l_law_try_ways_1, encC, this])
    obtain ⟨L, hL⟩ : ∃ L, L = (caughtL fo cs).map (·.1) := ⟨_, rfl⟩
    have cm2 : ∀ o : Option Vl, compS (compF (.nm 10) (evC (run P k) I .none) (evE (run P k) I b_l_law_try_ways_3) [some (.d dd), some v, some (.d (kvD (tru w1))), some (.d (.list ((caughtL fo cs).map encC))), none, none, none, none, none, none, none, o]) ((caughtL fo cs).map encC) st = some (L.map .str, st) := fun o => by
      rw [hL, List.map_map]
      exact compS_map encC (PyData.str ∘ (·.1)) _ st (caughtL fo cs) (by intro y hy; simp [b_l_law_try_ways_3, encC])
    have cm3 : compS (compF (.nm 11) (evC (run P k) I (.some (.cmp .nin (.var 11) (.comp b_l_law_try_ways_3 (.nm 10) (.seq (.var 3)) .none)))) (evE (run P k) I b_l_law_try_ways_2) [some (.d dd), some v, some (.d (kvD (tru w1))), some (.d (.list ((caughtL fo cs).map encC))), none, none, none, none, none, none, none, none]) (w1.map .str) st =
        some ((w1.filter fun w => !decide (w ∈ L)).map fun w => .tuple [.str w, .bool true], st) :=
      compS_filter PyData.str (fun w => .tuple [.str w, .bool true]) (fun w => !decide (w ∈ L)) _ st w1 (by
        intro y hy
        have c2 := cm2 (some (.d (.str y)))
        by_cases c : y ∈ L
        · simp [b_l_law_try_ways_2, c2, c]
        · simp [b_l_law_try_ways_2, c2, c])
    obtain ⟨W0, hW0⟩ : ∃ W0, W0 = addW [] (w1.filter fun w => !decide (w ∈ L)) := ⟨_, rfl⟩
    have k0 : LW W0 (remC fo cs fo) := by
      rw [hW0]
      refine k1.filt _ fun w => ?_
      rw [remC_eq, hL]
    have hvS : BkL E v (st ++ [.dct (tru W0)]) := hv.app _
    obtain ⟨u, ws, o7, o8, o9, j1, j2, j3⟩ := l_tryL h k (by omega) I E v (st ++ [.dct (tru W0)]) dd (.list ((caughtL fo cs).map encC)) (some (.d (kvD (tru w1)))) fo hE _ cs hw.2.1 (l_cats h E hE cs hw.2.1 k (by omega) v _ hvS) (remC fo cs fo) W0 (.r st.length) k0 (sup_rem _ _ _ s1) (by simp) none none none
    obtain ⟨w2, k2, e2⟩ := l_block h E hE l hw.2.2 k (by omega) v _ hvS
    have s2 := supB E hE _ l hw.2.2 _ sup_on
    have s3 := supA E hE _ cs hw.2.1 fo _ (sup_rem fo cs fo s1)
    have hdl := k2.dec "on"
    have hm : mayD E (.tri b cs l) = mayT (mayA E fo (remC fo cs fo) cs) (mayB E myOn l) := by rw [mayD, hfo]
    have i1 : ixD dd (.int 1) = some (.tuple b.enc) := by rw [← hdd]; rfl
    have i2 : ixD dd (.int 2) = some (.tuple (cs.toL.map encC)) := by rw [← hdd, ← Cs.toL_enc]; rfl
    have i3 : ixD dd (.int 3) = some (.tuple l.enc) := by rw [← hdd]; rfl
    have e6 : ∃ vs, LW vs (mayD E (.tri b cs l)) ∧ run P (k + 1) 85 [.d dd, v] st = some (kvD (tru vs), st) := by
      rw [r_l_law_try_ways h.tryw, hm, hI]
      unfold mayT
      cases hon : mayB E myOn l "on" with
      | false =>
        rw [hon] at hdl
        simp at hdl
        refine ⟨w2, by simpa using k2, ?_⟩
        simp [b_l_law_try_ways, i1, i2, i3, e1, cm1, cm3, merge_tru0, ← hW0, j3, e2, hdl]
      | true =>
        rw [hon] at hdl
        simp at hdl
        obtain ⟨W2, hW2⟩ : ∃ W2, W2 = addW [] (w2.filter (notS "on")) := ⟨_, rfl⟩
        have k3 : LW W2 (myLess (mayB E myOn l) "on") := by rw [hW2]; exact k2.less "on"
        have cm5 : compS (compF (.nm 11) (evC (run P k) I (.some (.cmp .ne (.var 11) (.cst (.str "on"))))) (evE (run P k) I b_l_law_try_ways_5) [some (.d dd), some v, some (.d (kvD (tru w1))), some (.d (.list ((caughtL fo cs).map encC))), some u, some (.d (kvD (tru w2))), none, o7, o8, o9, none, none]) (w2.map .str) (st ++ [.dct (tru W0)]) =
            some ((w2.filter (notS "on")).map fun w => .tuple [.str w, .bool true], st ++ [.dct (tru W0)]) :=
          compS_filter PyData.str (fun w => .tuple [.str w, .bool true]) (notS "on") _ _ w2 (by
            intro y hy
            by_cases c : y = "on" <;> simp [b_l_law_try_ways_5, notS, c])
        have q1 := j1.len s3
        have q2 := k3.len (sup_less s2 _)
        have e5 := l_both h k (by omega) u (.r (st ++ [MO.dct (tru W0)]).length) ws W2 ((st ++ [MO.dct (tru W0)]) ++ [MO.dct (tru W2)]) (dat_app _ j2) (by simp only [dat_topd]) (by simp [isR]) (by omega)
        refine ⟨addW ws W2, by simpa using j1.add k3, ?_⟩
        simp at e5
        simp [b_l_law_try_ways, i1, i2, i3, e1, cm1, cm3, merge_tru0, ← hW0, j3, e2, hdl, cm5, ← hW2, e5]
    obtain ⟨vs, t1, t2⟩ := e6
    refine ⟨vs, t1, ?_⟩
    have i0 : ixD dd (.int 0) = some (.str "try") := by rw [← hdd]; rfl
    rw [r_l_law_ways h.ways]
    simp [b_l_law_ways, i0, t2]
theorem l_cats (h : MayL P) (E : Ev) (hE : ∀ f, Sup (evAt E f)) : ∀ (cs : Cs), cs.wf (E.map (·.1)) → ∀ n, 3 * cs.dp + 3 ≤ n → ∀ (v : Vl) (S : Sto), BkL E v S → ∀ x ∈ cs.toL, ∃ vs, LW vs (mayB E myOn x.2.2) ∧ run P n 83 [.d (.tuple x.2.2.enc), v] S = some (kvD (tru vs), S)
  | .nil, _, n, _, v, S, hS, x, hx => by simp [Cs.toL] at hx
  | .cons s y b r, hw, n, hn, v, S, hS, x, hx => by
    simp only [Cs.wf] at hw
    simp only [Cs.dp] at hn
    rw [Cs.toL] at hx
    rcases List.mem_cons.mp hx with hx | hx
    · rw [hx]
      exact l_block h E hE b hw.2.1 n (by omega) v S hS
    · exact l_cats h E hE r hw.2.2 n (by omega) v S hS x hx
theorem l_block (h : MayL P) (E : Ev) (hE : ∀ f, Sup (evAt E f)) : ∀ (b : Bk), b.wf (E.map (·.1)) → ∀ n, 3 * b.dp + 3 ≤ n → ∀ (v : Vl) (st : Sto), BkL E v st → ∃ ws, LW ws (mayB E myOn b) ∧ run P n 83 [.d (.tuple b.enc), v] st = some (kvD (tru ws), st)
  | b, hw, n, hn, v, st, hv => by
    obtain ⟨m, rfl⟩ : ∃ m, n = m + 1 := ⟨n - 1, by omega⟩
    obtain ⟨S', ws', o3, k1, k2, k3, k4, e⟩ := l_blockL h E hE b hw m (by omega) v (if 2 ≤ m then ini P else noC) (.tuple b.enc) st st hv (Nat.le_refl _) (List.take_length) myOn ["on"] (LW.one "on") sup_on none
    refine ⟨ws', k1, ?_⟩
    rw [r_l_law_may h.may]
    have t1 : tru ["on"] = [(("on" : Str), PyData.bool true)] := rfl
    rw [t1] at e
    have e2 : (S' ++ [MO.dct (tru ws')]).take st.length = st := by rw [List.take_append_of_le_length k3, k4]
    simp [b_l_law_may, e, retD_r _ _ _ k3, e2]
theorem l_blockL (h : MayL P) (E : Ev) (hE : ∀ f, Sup (evAt E f)) : ∀ (b : Bk), b.wf (E.map (·.1)) → ∀ n, 3 * b.dp + 2 ≤ n → ∀ (v : Vl) (I : CallF) (w : PyData) (st S : Sto), BkL E v S → st.length ≤ S.length → S.take st.length = st → ∀ (acc : My) (ws : List Str), LW ws acc → Sup acc → ∀ (o3 : Option Vl),
    ∃ S' ws' o3', LW ws' (mayB E acc b) ∧ BkL E v S' ∧ st.length ≤ S'.length ∧ S'.take st.length = st ∧
      forS (loopF (run P n) I (.nm 3) b_l_law_may_2) b.enc [some (.d w), some v, some (.r S.length), o3, none] (S ++ [.dct (tru ws)]) = some (.nx, [some (.d w), some v, some (.r S'.length), o3', none], S' ++ [.dct (tru ws')])
  | .nil, _, n, _, v, I, w, st, S, hS, h1, h2, acc, ws, hl, hs, o3 => ⟨S, ws, o3, by rw [mayB]; exact hl, hS, h1, h2, rfl⟩
  | .cons d r, hw, n, hn, v, I, w, st, S, hS, h1, h2, acc, ws, hl, hs, o3 => by
    simp only [Bk.wf] at hw
    simp only [Bk.dp] at hn
    have sD := supD E hE _ d hw.1
    obtain ⟨S1, ws1, p3, k1, k2, k3⟩ := l_may1 n I E (mayD E d) acc ws hl hs sD d w v S hS (fun S0 h0 => l_deed h E hE d hw.1 n (by omega) v S0 h0) o3
    have hS1 : BkL E v S1 ∧ st.length ≤ S1.length ∧ S1.take st.length = st := by
      rcases k2 with rfl | rfl
      · exact ⟨hS, h1, h2⟩
      · exact ⟨hS.app _, by simp; omega, by rw [List.take_append_of_le_length h1, h2]⟩
    have s1 : Sup (if acc "on" then myU (myLess acc "on") (mayD E d) else acc) := by
      split
      · exact sup_u (sup_less hs _) sD
      · exact hs
    obtain ⟨S', ws', q3, j1, j2, j3, j4, j5⟩ := l_blockL h E hE r hw.2 n (by omega) v I w st S1 hS1.1 hS1.2.1 hS1.2.2 _ ws1 k1 s1 p3
    exact ⟨S', ws', q3, by rw [mayB]; exact j1, j2, j3, j4, (forS_nx k3).trans j5⟩
end
end Tw
set_option Elab.async false
set_option linter.all false
set_option maxRecDepth 100000
set_option maxHeartbeats 2000000
/-! D20g: the makers, by the law. -/
namespace Tw
open PySem
variable {P : List Fn}
theorem bookWf_of : ∀ (K : Kn) (b : List Mk), bookOk K b → (K.map (·.1) ++ b.map (·.nm)).Nodup → bookWf (K.map (·.1)) b
  | K, [], _, _ => trivial
  | K, m :: r, h, nd => by
    obtain ⟨⟨_, k, _, hk4, hb⟩, hr⟩ := h
    obtain ⟨w1, w2⟩ := Bk.ok_wf K m.bk k 4 hb
    refine ⟨w1, fun c => ?_, by omega, ?_⟩
    · have := (List.nodup_append.mp nd).2.2 m.nm c m.nm (by simp)
      exact this rfl
    · have := bookWf_of (K ++ [m.kn]) r hr (by simpa [Mk.kn] using nd)
      simpa [Mk.kn] using this
theorem Book.ok.wf {b : List Mk} (h : Book.ok b) : bookWf [] b := by
  obtain ⟨n, _, hn4, e⟩ := h.nms
  refine bookWf_of [] b h.mks ?_
  rw [e]
  simp only [List.map_nil, List.nil_append]
  refine List.Nodup.sublist (List.take_sublist n names4') ?_
  simp [names4']
theorem Book.ok.len {b : List Mk} (h : Book.ok b) : b.length ≤ 4 := by
  obtain ⟨n, _, hn4, e⟩ := h.nms
  have := congrArg List.length e
  simp at this; omega
theorem Book.ok.nmOk {b : List Mk} (h : Book.ok b) : ∀ m ∈ b, PyData.strOk m.nm = true := fun m hm => by
  obtain ⟨n, _, hn4, e⟩ := h.nms
  have h1 : m.nm ∈ names4'.take n := by rw [← e]; exact List.mem_map.mpr ⟨m, hm, rfl⟩
  have h2 := List.mem_of_mem_take h1
  simp [names4'] at h2
  rcases h2 with h | h | h | h <;> rw [h] <;> decide +kernel
def SupE (E : Ev) : Prop := ∀ p ∈ E, Sup p.2
theorem evAt_sup {E : Ev} (h : SupE E) (f : Str) : Sup (evAt E f) := by
  unfold evAt
  cases e : E.find? fun p => decide (p.1 = f) with
  | none => intro w hw; simp at hw
  | some p => exact h p (List.mem_of_find?_eq_some e)
theorem evAt_old {E : Ev} {f nm : Str} {M : My} (h : f ∈ E.map (·.1)) : evAt (E ++ [(nm, M)]) f = evAt E f := by
  have := evAt_some h
  unfold evAt
  rw [List.find?_append, this]
  rfl
theorem evAt_new {E : Ev} {nm : Str} {M : My} (h : nm ∉ E.map (·.1)) : evAt (E ++ [(nm, M)]) nm = M := by
  have : (E.find? fun p => decide (p.1 = nm)) = none := by
    rw [List.find?_eq_none]
    intro p hp c
    simp at c
    exact h (List.mem_map.mpr ⟨p, hp, c⟩)
  unfold evAt
  rw [List.find?_append, this]
  simp
def RelQ (q : List (Str × PyData)) (E : Ev) : Prop := q.map (·.1) = E.map (·.1) ∧ ∀ f ∈ E.map (·.1), ∃ ws, lookD q f = some (kvD (tru ws)) ∧ LW ws (evAt E f)
theorem lookD_old {q : List (Str × PyData)} {f nm : Str} {x : PyData} (h : f ∈ q.map (·.1)) : lookD (q ++ [(nm, x)]) f = lookD q f := by
  unfold lookD
  rw [List.find?_append]
  cases e : q.find? fun p => decide (p.1 = f) with
  | some p => rfl
  | none =>
    obtain ⟨p, hp, rfl⟩ := List.mem_map.mp h
    have := List.find?_eq_none.mp e p hp
    simp at this
theorem lookD_new {q : List (Str × PyData)} {nm : Str} {x : PyData} (h : nm ∉ q.map (·.1)) : lookD (q ++ [(nm, x)]) nm = some x := by
  unfold lookD
  have : (q.find? fun p => decide (p.1 = nm)) = none := by
    rw [List.find?_eq_none]
    intro p hp c
    simp at c
    exact h (List.mem_map.mpr ⟨p, hp, c⟩)
  rw [List.find?_append, this]
  simp
theorem RelQ.snoc {q : List (Str × PyData)} {E : Ev} {nm : Str} {ws : List Str} {M : My} (h : RelQ q E) (hn : nm ∉ E.map (·.1)) (hw : LW ws M) : RelQ (q ++ [(nm, kvD (tru ws))]) (E ++ [(nm, M)]) := by
  refine ⟨by simp [h.1], fun f hf => ?_⟩
  by_cases c : f ∈ E.map (·.1)
  · obtain ⟨vs, h1, h2⟩ := h.2 f c
    exact ⟨vs, by rw [lookD_old (by rw [h.1]; exact c)]; exact h1, by rw [evAt_old c]; exact h2⟩
  · have : f = nm := by
      rw [List.map_append, List.mem_append] at hf
      rcases hf with hf | hf
      · exact absurd hf c
      · simpa using hf
    subst this
    exact ⟨ws, lookD_new (by rw [h.1]; exact c), by rw [evAt_new c]; exact hw⟩
theorem mkE_keys : ∀ (b : List Mk) (E : Ev), (mkE E b).map (·.1) = E.map (·.1) ++ b.map (·.nm)
  | [], E => by simp [mkE]
  | m :: r, E => by rw [mkE, mkE_keys r]; simp
end Tw
set_option Elab.async false
set_option linter.all false
set_option maxRecDepth 100000
set_option maxHeartbeats 2000000
/-! D20m: the makers, by the law. -/
namespace Tw
open PySem
structure MayM (P : List Fn) : Prop extends MayL P where
  makers : P[86]? = some f_l_law_makers_may
variable {P : List Fn}
theorem l_makersL (h : MayL P) (n : Nat) (hn : 15 ≤ n) (I : CallF) (w : PyData) (st : Sto) : ∀ (b : List Mk) (E : Ev) (q : List (Str × PyData)), bookWf (E.map (·.1)) b → SupE E → RelQ q E → E.length + b.length ≤ 1000 → ∀ (o2 o3 o4 : Option Vl), ∃ q' o2' o3' o4', RelQ q' (mkE E b) ∧
    forS (loopF (run P n) I (.tp [2, 3, 4]) b_l_law_makers_may_1) (b.map Mk.enc) [some (.d w), some (.r st.length), o2, o3, o4] (st ++ [.dct q]) =
      some (.nx, [some (.d w), some (.r st.length), o2', o3', o4'], st ++ [.dct q'])
  | [], E, q, _, _, hq, _, o2, o3, o4 => ⟨q, o2, o3, o4, hq, rfl⟩
  | m :: r, E, q, hw, hs, hq, hl, o2, o3, o4 => by
    obtain ⟨h1, h2, h3, h4⟩ := hw
    have hv : BkL E (.r st.length) (st ++ [.dct q]) := ⟨rfl, fun k hk => by simp [isR] at hk ⊢; omega, q, by simp, hq.2⟩
    obtain ⟨ws, k1, e1⟩ := l_block h E (evAt_sup hs) m.bk h1 n (by omega) (.r st.length) (st ++ [.dct q]) hv
    have sM := supB E (evAt_sup hs) _ m.bk h1 _ sup_on
    have hz : q.length < 16777216 := by
      have := congrArg List.length hq.1
      simp at this hl; omega
    have hp : putD q m.nm (kvD (tru ws)) = q ++ [(m.nm, kvD (tru ws))] := putD_new (by rw [hq.1]; exact h2)
    have e2 : loopF (run P n) I (.tp [2, 3, 4]) b_l_law_makers_may_1 m.enc [some (.d w), some (.r st.length), o2, o3, o4] (st ++ [.dct q]) =
        some (.nx, [some (.d w), some (.r st.length), some (.d (.str m.nm)), some (.d (.tuple (m.ps.map .str))), some (.d (.tuple m.bk.enc))], st ++ [.dct (q ++ [(m.nm, kvD (tru ws))])]) := by
      simp [b_l_law_makers_may_1, Mk.enc, e1, hz, hp]
    have hK : (E ++ [(m.nm, mayB E myOn m.bk)]).map (·.1) = E.map (·.1) ++ [m.nm] := by simp
    obtain ⟨q', p2, p3, p4, j1, j2⟩ := l_makersL h n hn I w st r (E ++ [(m.nm, mayB E myOn m.bk)]) (q ++ [(m.nm, kvD (tru ws))]) (by rw [hK]; exact h4) (fun p hp => by
      rcases List.mem_append.mp hp with hp | hp
      · exact hs p hp
      · simp at hp; rw [hp]; exact sM) (hq.snoc h2 k1) (by simp at hl ⊢; omega) (some (.d (.str m.nm))) (some (.d (.tuple (m.ps.map .str)))) (some (.d (.tuple m.bk.enc)))
    refine ⟨q', p2, p3, p4, j1, ?_⟩
    rw [List.map_cons]
    exact (forS_nx e2).trans j2
theorem l_makers (h : MayM P) (n : Nat) (hn : 16 ≤ n) (st : Sto) (b : List Mk) (hw : bookWf [] b) (hl : b.length ≤ 1000) : ∃ q, RelQ q (mkE [] b) ∧ run P n 86 [.d (encB b)] st = some (kvD q, st) := by
  obtain ⟨m, rfl⟩ : ∃ m, n = m + 1 := ⟨n - 1, by omega⟩
  obtain ⟨q, o2, o3, o4, k1, e⟩ := l_makersL h.toMayL m (by omega) (if 2 ≤ m then ini P else noC) (encB b) st b [] [] hw (by intro p hp; simp at hp) ⟨rfl, by intro f hf; simp at hf⟩ (by simpa using hl) none none none
  refine ⟨q, k1, ?_⟩
  rw [r_l_law_makers_may h.makers]
  simp [b_l_law_makers_may, encB] at e ⊢
  simp [e]
end Tw
set_option Elab.async false
set_option linter.all false
set_option maxRecDepth 100000
set_option maxHeartbeats 2000000
/-! D80: where throws come from; the program's own. -/
namespace Tw
open PySem
abbrev Prs := List (Str × Str)
mutual
def frD (E : Ev) : Dd → Prs
  | .note _ => []
  | .put _ _ => []
  | .tell _ => []
  | .thr s _ => [(s, "throw")]
  | .call _ f _ => (sorts3.filter (evAt E f)).map fun s => (s, f)
  | .ife _ b c => frB E b ++ frB E c
  | .turns _ b => frB E b
  | .tri b cs l => (if mayB E myOn l "on" then (frB E b).filter (fun p => !decide (p.1 ∈ cs.sorts)) ++ frC E (mayB E myOn b) cs else []) ++ frB E l
def frB (E : Ev) : Bk → Prs
  | .nil => []
  | .cons d r => frD E d ++ (if mayD E d "on" then frB E r else [])
def frC (E : Ev) (f : My) : Cs → Prs
  | .nil => []
  | .cons s _ b r => (if f s then frB E b else []) ++ frC E f r
end
mutual
def szD : Dd → Nat
  | .note _ => 0
  | .put _ _ => 0
  | .tell _ => 0
  | .thr _ _ => 1
  | .call _ _ _ => 3
  | .ife _ b c => szB b + szB c
  | .turns _ b => szB b
  | .tri b cs l => szB b + szC cs + szB l
def szB : Bk → Nat
  | .nil => 0
  | .cons d r => szD d + szB r
def szC : Cs → Nat
  | .nil => 0
  | .cons _ _ b r => szB b + szC r
end
mutual
theorem frD_len (E : Ev) : ∀ d : Dd, (frD E d).length ≤ szD d
  | .note _ => by simp [frD, szD]
  | .put _ _ => by simp [frD, szD]
  | .tell _ => by simp [frD, szD]
  | .thr _ _ => by simp [frD, szD]
  | .call _ f _ => by
    have := List.length_filter_le (evAt E f) sorts3
    simp [frD, szD, sorts3] at this ⊢
    omega
  | .ife _ b c => by
    have := frB_len E b
    have := frB_len E c
    simp [frD, szD]; omega
  | .turns _ b => by
    have := frB_len E b
    simp [frD, szD]; omega
  | .tri b cs l => by
    have := frB_len E b
    have := frB_len E l
    have := frC_len E (mayB E myOn b) cs
    have := List.length_filter_le (fun p : Str × Str => !decide (p.1 ∈ cs.sorts)) (frB E b)
    rw [frD, szD, List.length_append]
    split
    · rw [List.length_append]; omega
    · simp; omega
theorem frB_len (E : Ev) : ∀ b : Bk, (frB E b).length ≤ szB b
  | .nil => by simp [frB, szB]
  | .cons d r => by
    have := frD_len E d
    have := frB_len E r
    rw [frB, szB, List.length_append]
    split
    · omega
    · simp; omega
theorem frC_len (E : Ev) (f : My) : ∀ c : Cs, (frC E f c).length ≤ szC c
  | .nil => by simp [frC, szC]
  | .cons s x b r => by
    have := frB_len E b
    have := frC_len E f r
    rw [frC, szC, List.length_append]
    split
    · omega
    · simp; omega
end
mutual
theorem szD_ok (K : Kn) : ∀ (d : Dd) (k : Nat), d.ok K k → szD d ≤ 3 * 20 ^ k
  | .note _, k, _ => by simp [szD]
  | .put _ _, k, _ => by simp [szD]
  | .tell _, k, _ => by simp [szD]
  | .thr _ _, k, _ => by
    have : 0 < 20 ^ k := Nat.pow_pos (by omega)
    simp only [szD]; omega
  | .call _ _ _, k, _ => by
    have : 0 < 20 ^ k := Nat.pow_pos (by omega)
    simp only [szD]; omega
  | .ife _ b c, k, h => by
    simp only [Dd.ok] at h
    have h1 := szB_ok K b k 4 h.2.2.1
    have h2 := szB_ok K c k 4 h.2.2.2
    simp only [szD]; omega
  | .turns _ b, k, h => by
    simp only [Dd.ok] at h
    have h1 := szB_ok K b k 4 h.2.2
    simp only [szD]; omega
  | .tri b cs l, k, h => by
    simp only [Dd.ok] at h
    have h1 := szB_ok K b k 4 h.2.1
    have h2 := szB_ok K l k 4 h.2.2.2.2
    have h3 := szC_ok K cs k h.2.2.2.1
    have h4 : cs.sorts.length ≤ 3 := by
      rcases h.2.2.1 with q | q
      · simpa [sorts3] using q.length_le
      · simpa [sorts3'] using q.length_le
    have h5 : cs.sorts.length * (4 * (3 * 20 ^ k)) ≤ 3 * (4 * (3 * 20 ^ k)) := Nat.mul_le_mul_right _ h4
    simp only [szD]; omega
theorem szB_ok (K : Kn) : ∀ (b : Bk) (k m : Nat), b.ok K k m → szB b * 20 ≤ m * (3 * 20 ^ k)
  | .nil, k, m, _ => by simp [szB]
  | .cons d r, 0, m, h => by simp [Bk.ok] at h
  | .cons d r, k + 1, 0, h => by simp [Bk.ok] at h
  | .cons d r, k + 1, m + 1, h => by
    simp only [Bk.ok] at h
    have h1 := szD_ok K d k h.1
    have h2 := szB_ok K r (k + 1) m h.2
    rw [szB, Nat.add_mul, Nat.add_mul (m := 1)]
    rw [Nat.pow_succ] at h2 ⊢
    omega
theorem szC_ok (K : Kn) : ∀ (c : Cs) (k : Nat), c.ok K k → szC c * 20 ≤ c.sorts.length * (4 * (3 * 20 ^ k))
  | .nil, k, _ => by simp [szC]
  | .cons s x b r, k, h => by
    simp only [Cs.ok] at h
    have h1 := szB_ok K b k 4 h.2.1
    have h2 := szC_ok K r k h.2.2
    rw [szC, Nat.add_mul, Cs.sorts, List.length_cons, Nat.add_mul (m := 1)]
    omega
end
theorem bookSz : ∀ (K : Kn) (b : List Mk), bookOk K b → ∀ m ∈ b, szB m.bk ≤ 100000
  | K, [], _, m, hm => by simp at hm
  | K, m :: r, h, m', hm => by
    rcases List.mem_cons.mp hm with rfl | hm
    · obtain ⟨_, k, _, h4, hb⟩ := h.1
      have := szB_ok K m'.bk k 4 hb
      have h5 : 20 ^ k ≤ 20 ^ 4 := Nat.pow_le_pow_right (by omega) h4
      omega
    · exact bookSz _ r h.2 m' hm
abbrev encPs (l : Prs) : List PyData := l.map encP
structure FrP (P : List Fn) : Prop extends MayP P where
  ftry : P[127]? = some f_p_from_try
  fdeed : P[128]? = some f_p_from_deed
  fblock : P[129]? = some f_p_from_block
variable {P : List Fn}
theorem mt1S_ext (st : Sto) (xs zs : List PyData) (h : xs.length + zs.length ≤ 16777216) : mt1S .ext (.r st.length) (.d (.list zs)) (st ++ [.lst xs]) = some (.d .none, st ++ [.lst (xs ++ zs)]) := by
  simp [mt1S]
  exact h
theorem rcvOk_ext (st : Sto) (xs : List PyData) : rcvOk .ext (.r st.length) (st ++ [.lst xs]) = true := by simp [rcvOk]
theorem sorts_toL : ∀ cs : Cs, cs.sorts = cs.toL.map (·.1)
  | .nil => rfl
  | .cons s x b r => by rw [Cs.sorts, Cs.toL, List.map_cons, sorts_toL r]
/-- one catch -/
theorem p_fcatL (E : Ev) (n : Nat) (I : CallF) (w d0 c0 : PyData) (st : Sto) (e0 : run P n 78 [.d d0, .d (kvD (encE E))] = fun S => some (c0, S)) (f : My) (hw : ixD w (.int 1) = some d0) (hc : ixD c0 (.int 2) = some (encS f)) (s : PyData) (K : List Str) : ∀ (cs : Cs), cs.wf K →
    (∀ x ∈ cs.toL, ∀ S, run P n 129 [.d (.tuple x.2.2.enc), .d (kvD (encE E))] S = some (.list (encPs (frB E x.2.2)), S)) → ∀ (pre : Prs), pre.length + szC cs ≤ 16777216 → ∀ (o5 o6 o7 : Option Vl), ∃ o5' o6' o7',
    forS (loopF (run P n) I (.tp [5, 6, 7]) b_p_from_try_3) cs.enc [some (.d w), some (.d (kvD (encE E))), some (.r st.length), some (.d s), none, o5, o6, o7, none] (st ++ [.lst (encPs pre)]) =
      some (.nx, [some (.d w), some (.d (kvD (encE E))), some (.r st.length), some (.d s), none, o5', o6', o7', none], st ++ [.lst (encPs (pre ++ frC E f cs))])
  | .nil, _, _, pre, _, o5, o6, o7 => ⟨o5, o6, o7, by simp [frC, Cs.enc]⟩
  | .cons s1 x b r, hwf, hr, pre, hl, o5, o6, o7 => by
    simp only [Cs.wf] at hwf
    simp only [szC] at hl
    have hb := frB_len E b
    have e1 := hr (s1, x, b) (by simp [Cs.toL])
    have ei : cmpD .inn (.str s1) (encS f) = some (f s1) := by
      show inD (.str s1) ((sorts3.filter f).map .str) = some (f s1)
      rw [inD_str, filt_mem f s1 hwf.1]
    have l1 : pre.length + (frB E b).length ≤ 16777216 := by omega
    have e2 : loopF (run P n) I (.tp [5, 6, 7]) b_p_from_try_3 (.tuple [.str s1, .str x, .tuple b.enc]) [some (.d w), some (.d (kvD (encE E))), some (.r st.length), some (.d s), none, o5, o6, o7, none] (st ++ [.lst (encPs pre)]) =
        some (.nx, [some (.d w), some (.d (kvD (encE E))), some (.r st.length), some (.d s), none, some (.d (.str s1)), some (.d (.str x)), some (.d (.tuple b.enc)), none], st ++ [.lst (encPs (pre ++ if f s1 then frB E b else []))]) := by
      cases c : f s1 with
      | false => simp [b_p_from_try_3, hw, e0, hc, ei, c]
      | true =>
        have m1 := mt1S_ext st (encPs pre) (encPs (frB E b)) (by simpa using l1)
        have m2 := rcvOk_ext st (encPs pre)
        simp [b_p_from_try_3, hw, e0, hc, ei, c, e1, m1, m2]
    obtain ⟨q5, q6, q7, e3⟩ := p_fcatL E n I w d0 c0 st e0 f hw hc s K r hwf.2.2 (fun y hy => hr y (by simp [Cs.toL, hy])) (pre ++ if f s1 then frB E b else []) (by
      split <;> simp <;> omega) (some (.d (.str s1))) (some (.d (.str x))) (some (.d (.tuple b.enc)))
    refine ⟨q5, q6, q7, ?_⟩
    rw [Cs.enc, forS_nx e2, e3, frC, List.append_assoc]
theorem wf_toL {K : List Str} : ∀ (cs : Cs), cs.wf K → ∀ x ∈ cs.toL, x.2.2.wf K ∧ x.2.2.dp ≤ cs.dp ∧ szB x.2.2 ≤ szC cs
  | .nil, _, x, hx => by simp [Cs.toL] at hx
  | .cons s y b r, h, x, hx => by
    simp only [Cs.wf] at h
    simp only [Cs.dp, szC]
    rcases List.mem_cons.mp hx with rfl | hx
    · exact ⟨h.2.1, by simp; omega, by simp⟩
    · obtain ⟨h1, h2, h3⟩ := wf_toL r h.2.2 x hx
      exact ⟨h1, by omega, by omega⟩
end Tw
set_option Elab.async false
set_option linter.all false
set_option maxRecDepth 100000
set_option maxHeartbeats 4000000
/-! D80b: from_deed, from_block. -/
namespace Tw
open PySem
variable {P : List Fn}
theorem retD_l (st : Sto) (xs : List PyData) : retD st.length (st ++ [.lst xs]) (.r st.length) = some (.list xs) := by simp [retD]
theorem ixM0 (m : My) : ixD (encM m) (.int 0) = some (.bool (m "on")) := rfl
theorem ixM2 (m : My) : ixD (encM m) (.int 2) = some (encS m) := rfl
theorem filt_pairs (E : Ev) (n : Nat) (I : CallF) (ρ : En) (sorts : List Str) (st : Sto) (h3 : ρ[3]? = some (some (.d (.list (sorts.map .str))))) (hρ : ρ.length = 9) (l : Prs) :
    compS (compF (.nm 8) (evC (run P n) I (.some (.cmp .nin (.ix (.var 8) (.cst (.int 0))) (.var 3)))) (evE (run P n) I b_p_from_try_2) ρ) (encPs l) st = some (encPs (l.filter fun p => !decide (p.1 ∈ sorts)), st) :=
  compS_filter encP encP (fun p => !decide (p.1 ∈ sorts)) _ st l (by
    intro p _
    have e3 : (ρ.set 8 none)[3]? = some (some (.d (.list (sorts.map .str)))) := by rw [List.getElem?_set_ne (by omega)]; exact h3
    have l8 : 8 < ρ.length := by omega
    by_cases c : p.1 ∈ sorts <;> simp [b_p_from_try_2, encP, c, h3, l8])
mutual
theorem p_fdeed (h : FrP P) (E : Ev) : ∀ (d : Dd), d.wf (E.map (·.1)) → szD d ≤ 1000000 → ∀ n, 3 * d.dp + 6 ≤ n → ∀ st, run P n 128 [.d d.enc, .d (kvD (encE E))] st = some (.list (encPs (frD E d)), st)
  | .note a, _, _, n, hn, st => by
    obtain ⟨m, rfl⟩ : ∃ m, n = m + 1 := ⟨n - 1, by omega⟩
    rw [r_p_from_deed h.fdeed, frD]
    simp [b_p_from_deed, Dd.enc]
  | .put x a, _, _, n, hn, st => by
    obtain ⟨m, rfl⟩ : ∃ m, n = m + 1 := ⟨n - 1, by omega⟩
    rw [r_p_from_deed h.fdeed, frD]
    simp [b_p_from_deed, Dd.enc]
  | .tell a, _, _, n, hn, st => by
    obtain ⟨m, rfl⟩ : ∃ m, n = m + 1 := ⟨n - 1, by omega⟩
    rw [r_p_from_deed h.fdeed, frD]
    simp [b_p_from_deed, Dd.enc]
  | .thr s a, _, _, n, hn, st => by
    obtain ⟨m, rfl⟩ : ∃ m, n = m + 1 := ⟨n - 1, by omega⟩
    rw [r_p_from_deed h.fdeed, frD]
    simp [b_p_from_deed, Dd.enc, encP]
  | .call x f as, hw, _, n, hn, st => by
    obtain ⟨m, rfl⟩ : ∃ m, n = m + 1 := ⟨n - 1, by omega⟩
    simp only [Dd.wf] at hw
    have hl := look_encE hw
    have w1 : ∀ m : My, ixD (encW m) (.int 1) = some (encS m) := fun _ => rfl
    have cm : compS (compF (.nm 3) (evC (run P m) (if 2 ≤ m then ini P else noC) .none) (evE (run P m) (if 2 ≤ m then ini P else noC) b_p_from_deed_1) [some (.d (.tuple [.str "call", .str x, .str f, .tuple (as.map Sm.enc)])), some (.d (kvD (encE E))), some (.d (.str "call")), none])
        ((sorts3.filter (evAt E f)).map .str) st = some (encPs ((sorts3.filter (evAt E f)).map fun s => (s, f)), st) := by
      rw [show encPs ((sorts3.filter (evAt E f)).map fun s => (s, f)) = (sorts3.filter (evAt E f)).map fun s => encP (s, f) from List.map_map]
      exact compS_map PyData.str (fun s => encP (s, f)) _ st _ fun s _ => by simp [b_p_from_deed_1, encP]
    rw [r_p_from_deed h.fdeed, frD]
    simp [b_p_from_deed, Dd.enc, hl, w1, encS, cm]
  | .ife a b c, hw, hz, n, hn, st => by
    obtain ⟨m, rfl⟩ : ∃ m, n = m + 1 := ⟨n - 1, by omega⟩
    simp only [Dd.wf] at hw
    simp only [Dd.dp] at hn
    simp only [szD] at hz
    have e1 := p_fblock h E b hw.1 (by omega) m (by omega) st
    have e2 := p_fblock h E c hw.2 (by omega) m (by omega) st
    have l1 := frB_len E b
    have l2 := frB_len E c
    have l3 : (frB E b).length + (frB E c).length ≤ 16777216 := by omega
    rw [r_p_from_deed h.fdeed, frD]
    simp [b_p_from_deed, Dd.enc, e1, e2, l3]
  | .turns a b, hw, hz, n, hn, st => by
    obtain ⟨m, rfl⟩ : ∃ m, n = m + 1 := ⟨n - 1, by omega⟩
    simp only [Dd.wf] at hw
    simp only [Dd.dp] at hn
    simp only [szD] at hz
    have e1 := p_fblock h E b hw (by omega) m (by omega) st
    rw [r_p_from_deed h.fdeed, frD]
    simp [b_p_from_deed, Dd.enc, e1]
  | .tri b cs l, hw, hz, n, hn, st => by
    obtain ⟨m, rfl⟩ : ∃ m, n = m + 1 := ⟨n - 1, by omega⟩
    simp only [Dd.wf] at hw
    simp only [Dd.dp] at hn
    simp only [szD] at hz
    obtain ⟨k, rfl⟩ : ∃ k, m = k + 1 := ⟨m - 1, by omega⟩
    have e1 : ∀ S, run P k 129 [.d (.tuple b.enc), .d (kvD (encE E))] S = some (.list (encPs (frB E b)), S) := p_fblock h E b hw.1 (by omega) k (by omega)
    have e2 : ∀ S, run P k 129 [.d (.tuple l.enc), .d (kvD (encE E))] S = some (.list (encPs (frB E l)), S) := p_fblock h E l hw.2.2 (by omega) k (by omega)
    have e3 : ∀ S, run P k 78 [.d (.tuple b.enc), .d (kvD (encE E))] S = some (encM (mayB E myOn b), S) := fun S => p_block h.toMayP E (.d (kvD (encE E))) S rfl rfl b hw.1 k (by omega)
    have e4 : ∀ S, run P k 78 [.d (.tuple l.enc), .d (kvD (encE E))] S = some (encM (mayB E myOn l), S) := fun S => p_block h.toMayP E (.d (kvD (encE E))) S rfl rfl l hw.2.2 k (by omega)
    have l1 := frB_len E b
    have l2 := frB_len E l
    have l3 := frC_len E (mayB E myOn b) cs
    have l4 := List.length_filter_le (fun p : Str × Str => !decide (p.1 ∈ cs.sorts)) (frB E b)
    have e6 : run P (k + 1) 127 [.d (Dd.tri b cs l).enc, .d (kvD (encE E))] st = some (.list (encPs (frD E (.tri b cs l))), st) := by
      rw [r_p_from_try h.ftry, frD, Dd.enc]
      have cs1 : compS (compF (.nm 4) (evC (run P k) (if 2 ≤ k then ini P else noC) .none) (evE (run P k) (if 2 ≤ k then ini P else noC) b_p_from_try_1) [some (.d (.tuple [.str "try", .tuple b.enc, .tuple cs.enc, .tuple l.enc])), some (.d (kvD (encE E))), some (.r st.length), none, none, none, none, none, none]) cs.enc (st ++ [.lst []]) =
          some (cs.sorts.map .str, st ++ [.lst []]) := by
        rw [Cs.toL_enc, sorts_toL, List.map_map]
        exact compS_map encC (fun c => .str c.1) _ _ _ fun c _ => by simp [b_p_from_try_1, encC]
      cases hon : mayB E myOn l "on" with
      | false =>
        have l5 : (frB E l).length ≤ 16777216 := by omega
        simp [b_p_from_try, cs1, e4, ixM0, hon, e2, l5]
      | true =>
        have m1 := mt1S_ext st [] (encPs ((frB E b).filter fun p => !decide (p.1 ∈ cs.sorts))) (by simp; omega)
        have m2 := rcvOk_ext st []
        have fp := filt_pairs (P := P) E k (if 2 ≤ k then ini P else noC) [some (.d (.tuple [.str "try", .tuple b.enc, .tuple cs.enc, .tuple l.enc])), some (.d (kvD (encE E))), some (.r st.length), some (.d (.list (cs.sorts.map .str))), none, none, none, none, none] cs.sorts (st ++ [.lst []]) rfl rfl (frB E b)
        obtain ⟨o5, o6, o7, e7⟩ := p_fcatL (P := P) E k (if 2 ≤ k then ini P else noC) (.tuple [.str "try", .tuple b.enc, .tuple cs.enc, .tuple l.enc]) (.tuple b.enc) (encM (mayB E myOn b)) st (funext e3) (mayB E myOn b) rfl (ixM2 _) (.list (cs.sorts.map .str)) (E.map (·.1)) cs hw.2.1
          (fun x hx S => by
            obtain ⟨w1, w2, w3⟩ := wf_toL cs hw.2.1 x hx
            exact p_fcat h E cs hw.2.1 (by omega) k (by omega) x hx S) ((frB E b).filter fun p => !decide (p.1 ∈ cs.sorts)) (by omega) none none none
        have l5 : ((frB E b).filter (fun p => !decide (p.1 ∈ cs.sorts)) ++ frC E (mayB E myOn b) cs).length + (frB E l).length ≤ 16777216 := by rw [List.length_append]; omega
        generalize hL : (frB E b).filter (fun p => !decide (p.1 ∈ cs.sorts)) = L at *
        simp only [List.nil_append] at m1
        have l7 : L.length + (frC E (mayB E myOn b) cs).length + (frB E l).length ≤ 16777216 := by rw [List.length_append] at l5; exact l5
        simp [b_p_from_try, cs1, e4, ixM0, hon, e1, fp, m1, m2, e7, e2, l7]
    rw [r_p_from_deed h.fdeed]
    rw [Dd.enc] at e6 ⊢
    simp [b_p_from_deed, e6]
theorem p_fblock (h : FrP P) (E : Ev) : ∀ (b : Bk), b.wf (E.map (·.1)) → szB b ≤ 1000000 → ∀ n, 3 * b.dp + 4 ≤ n → ∀ st, run P n 129 [.d (.tuple b.enc), .d (kvD (encE E))] st = some (.list (encPs (frB E b)), st)
  | b, hw, hz, n, hn, st => by
    obtain ⟨m, rfl⟩ : ∃ m, n = m + 1 := ⟨n - 1, by omega⟩
    obtain ⟨o, o3, e, he⟩ := p_fblockL h E b hw hz m (by omega) (if 2 ≤ m then ini P else noC) [] (by simp; omega) (.tuple b.enc) none st
    rw [r_p_from_block h.fblock]
    simp only [List.map_nil, List.nil_append] at e
    rcases he with rfl | rfl <;> simp [b_p_from_block, e, retD_l]
theorem p_fblockL (h : FrP P) (E : Ev) : ∀ (b : Bk), b.wf (E.map (·.1)) → szB b ≤ 1000000 → ∀ n, 3 * b.dp + 3 ≤ n → ∀ (I : CallF) (pre : Prs), pre.length + szB b ≤ 16777216 → ∀ (w : PyData) (o3 : Option Vl) (st : Sto), ∃ (o : Out) (o3' : Option Vl),
    forS (loopF (run P n) I (.nm 3) b_p_from_block_1) b.enc [some (.d w), some (.d (kvD (encE E))), some (.r st.length), o3] (st ++ [.lst (encPs pre)]) =
      some (o, [some (.d w), some (.d (kvD (encE E))), some (.r st.length), o3'], st ++ [.lst (encPs (pre ++ frB E b))]) ∧ (o = .nx ∨ o = .ret (.r st.length))
  | .nil, _, _, n, _, I, pre, _, w, o3, st => ⟨.nx, o3, by simp [Bk.enc, frB], .inl rfl⟩
  | .cons d r, hw, hz, n, hn, I, pre, hl, w, o3, st => by
    simp only [Bk.wf] at hw
    simp only [Bk.dp] at hn
    simp only [szB] at hz hl
    have e1 := p_fdeed h E d hw.1 (by omega) n (by omega) (st ++ [.lst (encPs pre)])
    have e2 : ∀ S, run P n 77 [.d d.enc, .d (kvD (encE E))] S = some (encM (mayD E d), S) := fun S => p_deed h.toMayP E (.d (kvD (encE E))) S rfl rfl d hw.1 n (by omega)
    have l1 := frD_len E d
    have m1 := mt1S_ext st (encPs pre) (encPs (frD E d)) (by simp; omega)
    have m2 := rcvOk_ext st (encPs pre)
    cases hon : mayD E d "on" with
    | false =>
      refine ⟨.ret (.r st.length), some (.d d.enc), ?_, .inr rfl⟩
      rw [Bk.enc, forS_cons, frB, hon]
      simp [b_p_from_block_1, e1, m1, m2, e2, ixM0, hon]
    | true =>
      obtain ⟨o, o3', e3, ho⟩ := p_fblockL h E r hw.2 (by omega) n (by omega) I (pre ++ frD E d) (by rw [List.length_append]; omega) w (some (.d d.enc)) st
      refine ⟨o, o3', ?_, ho⟩
      have e4 : loopF (run P n) I (.nm 3) b_p_from_block_1 d.enc [some (.d w), some (.d (kvD (encE E))), some (.r st.length), o3] (st ++ [.lst (encPs pre)]) = some (.nx, [some (.d w), some (.d (kvD (encE E))), some (.r st.length), some (.d d.enc)], st ++ [.lst (encPs (pre ++ frD E d))]) := by
        simp [b_p_from_block_1, e1, m1, m2, e2, ixM0, hon]
      rw [Bk.enc, forS_nx e4, e3, frB, hon, if_pos rfl, List.append_assoc]
theorem p_fcat (h : FrP P) (E : Ev) : ∀ (cs : Cs), cs.wf (E.map (·.1)) → szC cs ≤ 1000000 → ∀ n, 3 * cs.dp + 4 ≤ n → ∀ x ∈ cs.toL, ∀ S, run P n 129 [.d (.tuple x.2.2.enc), .d (kvD (encE E))] S = some (.list (encPs (frB E x.2.2)), S)
  | .nil, _, _, n, _, x, hx, S => by simp [Cs.toL] at hx
  | .cons s y b r, hw, hz, n, hn, x, hx, S => by
    simp only [Cs.wf] at hw
    simp only [Cs.dp] at hn
    simp only [szC] at hz
    rcases List.mem_cons.mp hx with rfl | hx
    · exact p_fblock h E b hw.2.1 (by omega) n (by omega) S
    · exact p_fcat h E r hw.2.2 (by omega) n (by omega) x hx S
end
end Tw
set_option Elab.async false
set_option linter.all false
set_option maxRecDepth 100000
set_option maxHeartbeats 2000000
/-! D80c: sources. -/
namespace Tw
open PySem
variable {P : List Fn}
mutual
theorem Dd.wf_up {K K' : List Str} (s : ∀ x ∈ K, x ∈ K') : ∀ d : Dd, d.wf K → d.wf K'
  | .note _, _ => trivial
  | .put _ _, _ => trivial
  | .tell _, _ => trivial
  | .thr _ _, h => by simpa only [Dd.wf] using h
  | .call _ f _, h => by simp only [Dd.wf] at h ⊢; exact s _ h
  | .ife _ b c, h => by simp only [Dd.wf] at h ⊢; exact ⟨Bk.wf_up s b h.1, Bk.wf_up s c h.2⟩
  | .turns _ b, h => by simp only [Dd.wf] at h ⊢; exact Bk.wf_up s b h
  | .tri b cs l, h => by simp only [Dd.wf] at h ⊢; exact ⟨Bk.wf_up s b h.1, Cs.wf_up s cs h.2.1, Bk.wf_up s l h.2.2⟩
theorem Bk.wf_up {K K' : List Str} (s : ∀ x ∈ K, x ∈ K') : ∀ b : Bk, b.wf K → b.wf K'
  | .nil, _ => trivial
  | .cons d r, h => by simp only [Bk.wf] at h ⊢; exact ⟨Dd.wf_up s d h.1, Bk.wf_up s r h.2⟩
theorem Cs.wf_up {K K' : List Str} (s : ∀ x ∈ K, x ∈ K') : ∀ c : Cs, c.wf K → c.wf K'
  | .nil, _ => trivial
  | .cons _ _ b r, h => by simp only [Cs.wf] at h ⊢; exact ⟨h.1, Bk.wf_up s b h.2.1, Cs.wf_up s r h.2.2⟩
end
theorem wf_book : ∀ (b : List Mk) (K : List Str), bookWf K b → ∀ m ∈ b, m.bk.wf (K ++ b.map (·.nm)) ∧ m.bk.dp ≤ 4
  | [], K, _, m, hm => by simp at hm
  | k :: r, K, h, m, hm => by
    obtain ⟨h1, h2, h3, h4⟩ := h
    rcases List.mem_cons.mp hm with rfl | hm
    · exact ⟨Bk.wf_up (fun x hx => List.mem_append_left _ hx) _ h1, h3⟩
    · have := wf_book r (K ++ [k.nm]) h4 m hm
      simpa using this
mutual
theorem frD_mem (E : Ev) (K : List Str) : ∀ d : Dd, d.wf K → ∀ p ∈ frD E d, p.1 ∈ sorts3 ∧ (p.2 = "throw" ∨ p.2 ∈ K)
  | .note _, _, p, hp => by simp [frD] at hp
  | .put _ _, _, p, hp => by simp [frD] at hp
  | .tell _, _, p, hp => by simp [frD] at hp
  | .thr s _, h, p, hp => by
    simp [frD] at hp
    subst hp
    exact ⟨by simpa only [Dd.wf] using h, .inl rfl⟩
  | .call _ f _, h, p, hp => by
    simp only [Dd.wf] at h
    rw [frD] at hp
    obtain ⟨s, hs, rfl⟩ := List.mem_map.mp hp
    exact ⟨(List.mem_filter.mp hs).1, .inr h⟩
  | .ife _ b c, h, p, hp => by
    simp only [Dd.wf] at h
    rw [frD] at hp
    rcases List.mem_append.mp hp with hp | hp
    · exact frB_mem E K b h.1 p hp
    · exact frB_mem E K c h.2 p hp
  | .turns _ b, h, p, hp => by
    simp only [Dd.wf] at h
    rw [frD] at hp
    exact frB_mem E K b h p hp
  | .tri b cs l, h, p, hp => by
    simp only [Dd.wf] at h
    rw [frD] at hp
    rcases List.mem_append.mp hp with hp | hp
    · split at hp
      · rcases List.mem_append.mp hp with hp | hp
        · exact frB_mem E K b h.1 p (List.mem_filter.mp hp).1
        · exact frC_mem E K _ cs h.2.1 p hp
      · simp at hp
    · exact frB_mem E K l h.2.2 p hp
theorem frB_mem (E : Ev) (K : List Str) : ∀ b : Bk, b.wf K → ∀ p ∈ frB E b, p.1 ∈ sorts3 ∧ (p.2 = "throw" ∨ p.2 ∈ K)
  | .nil, _, p, hp => by simp [frB] at hp
  | .cons d r, h, p, hp => by
    simp only [Bk.wf] at h
    rw [frB] at hp
    rcases List.mem_append.mp hp with hp | hp
    · exact frD_mem E K d h.1 p hp
    · split at hp
      · exact frB_mem E K r h.2 p hp
      · simp at hp
theorem frC_mem (E : Ev) (K : List Str) (f : My) : ∀ c : Cs, c.wf K → ∀ p ∈ frC E f c, p.1 ∈ sorts3 ∧ (p.2 = "throw" ∨ p.2 ∈ K)
  | .nil, _, p, hp => by simp [frC] at hp
  | .cons s x b r, h, p, hp => by
    simp only [Cs.wf] at h
    rw [frC] at hp
    rcases List.mem_append.mp hp with hp | hp
    · split at hp
      · exact frB_mem E K b h.2.1 p hp
      · simp at hp
    · exact frC_mem E K f r h.2.2 p hp
end
theorem dedP_mem' : ∀ (l : Prs) (x : Str × Str), x ∈ dedP l ↔ x ∈ l
  | [], x => Iff.rfl
  | y :: r, x => by
    unfold dedP
    split
    · rename_i h
      rw [dedP_mem' r x, List.mem_cons]
      exact ⟨.inr, fun z => z.elim (fun e => e ▸ h) id⟩
    · rw [List.mem_cons, List.mem_cons, dedP_mem' r x]
theorem dedP_nodup' : ∀ l : Prs, (dedP l).Nodup
  | [] => List.nodup_nil
  | y :: r => by
    unfold dedP
    split
    · exact dedP_nodup' r
    · rename_i h
      exact List.nodup_cons.mpr ⟨fun z => h ((dedP_mem' r y).mp z), dedP_nodup' r⟩
theorem ded_few {l : Prs} {K : List Str} (hK : K.length ≤ 4) (h : ∀ p ∈ l, p.1 ∈ sorts3 ∧ (p.2 = "throw" ∨ p.2 ∈ K)) : (dedP l).length ≤ 15 := by
  have e := nodup_len (dedP l) ((sorts3.map fun s => (((Str.ofString "throw") :: K).map fun k => (s, k) : List (Str × Str))).flatten) (dedP_nodup' l) fun p hp => by
    obtain ⟨h1, h2⟩ := h p ((dedP_mem' l p).mp hp)
    refine List.mem_flatten.mpr ⟨_, List.mem_map.mpr ⟨p.1, h1, rfl⟩, List.mem_map.mpr ⟨p.2, ?_, rfl⟩⟩
    rcases h2 with e | e
    · rw [e]; exact List.mem_cons_self
    · exact List.mem_cons_of_mem _ e
  simp [sorts3] at e
  omega
theorem prsD_enc : ∀ l : Prs, prsD (encPs l) = some l
  | [] => rfl
  | (a, b) :: l => by
    show prsD (encP (a, b) :: encPs l) = _
    rw [encP, prsD, prsD_enc l]; rfl
theorem srtset_prs (l : Prs) (h : (dedP l).length < 63) : fn1D .srtset (.list (encPs l)) = some (.list (encPs ((dedP l).mergeSort leP))) := by
  show srtsetD _ = _
  cases l with
  | nil => simp [srtsetD, strsD, dedS, dedP]
  | cons p l =>
    have e1 : strsD (encPs (p :: l)) = none := rfl
    unfold srtsetD
    rw [e1, prsD_enc]
    exact if_pos h
def srcs (E : Ev) (b : Bk) : Prs := (dedP (frB E b)).mergeSort leP
theorem mem_srcs {E : Ev} {b : Bk} {p : Str × Str} : p ∈ srcs E b ↔ p ∈ frB E b := by
  unfold srcs
  rw [(List.mergeSort_perm _ leP).mem_iff, dedP_mem']
theorem pl_encPs {l : Prs} (h : ∀ p ∈ l, PyData.strOk p.1 = true ∧ PyData.strOk p.2 = true) : Pl 2 (.tuple (encPs l)) := pl_tup (k := 1) fun x hx => by
  obtain ⟨p, hp, rfl⟩ := List.mem_map.mp hx
  obtain ⟨h1, h2⟩ := h p hp
  refine pl_tup (k := 0) fun y hy => ?_
  simp at hy
  rcases hy with rfl | rfl
  · exact pl_str 0 _ h1
  · exact pl_str 0 _ h2
theorem srcs_ok {E : Ev} {b : Bk} {K : List Str} (hb : b.wf K) (hK : ∀ k ∈ K, PyData.strOk k = true) : ∀ p ∈ srcs E b, PyData.strOk p.1 = true ∧ PyData.strOk p.2 = true := fun p hp => by
  obtain ⟨h1, h2⟩ := frB_mem E K b hb p (mem_srcs.mp hp)
  refine ⟨sorts_ok _ h1, ?_⟩
  rcases h2 with e | e
  · rw [e]; decide +kernel
  · exact hK _ e
/-! ### the program's -/
theorem find_mk : ∀ (b : List Mk), (b.map (·.nm)).Nodup → ∀ m ∈ b, b.filter (fun k => decide (k.nm = m.nm)) = [m]
  | [], _, m, hm => by simp at hm
  | k :: r, nd, m, hm => by
    rw [List.map_cons, List.nodup_cons] at nd
    rcases List.mem_cons.mp hm with rfl | hm
    · rw [List.filter_cons, if_pos (by simp)]
      have : r.filter (fun k => decide (k.nm = m.nm)) = [] := by
        rw [List.filter_eq_nil_iff]
        intro k hk c
        simp at c
        exact nd.1 (List.mem_map.mpr ⟨k, hk, c⟩)
      rw [this]
    · have hne : ¬ k.nm = m.nm := fun e => nd.1 (List.mem_map.mpr ⟨m, hm, e.symm⟩)
      rw [List.filter_cons, if_neg (by simpa using hne)]
      exact find_mk r nd.2 m hm
theorem Book.ok.nd {b : List Mk} (h : Book.ok b) : (b.map (·.nm)).Nodup := by
  obtain ⟨n, _, _, e⟩ := h.nms
  rw [e]
  refine List.Nodup.sublist (List.take_sublist n names4') ?_
  simp [names4']
structure SrcP (P : List Fn) : Prop extends FrP P where
  mkr : P[70]? = some f_p_maker_of
  src : P[130]? = some f_p_sources
theorem p_mk (h : P[70]? = some f_p_maker_of) (n : Nat) (hn : 1 ≤ n) (st : Sto) (b : List Mk) (nd : (b.map (·.nm)).Nodup) (m : Mk) (hm : m ∈ b) : run P n 70 [.d (encB b), .d (.str m.nm)] st = some (m.enc, st) := by
  obtain ⟨k, rfl⟩ : ∃ k, n = k + 1 := ⟨n - 1, by omega⟩
  rw [r_p_maker_of h]
  have cm : compS (compF (.nm 2) (evC (run P k) (if 2 ≤ k then ini P else noC) (.some (.cmp .eq (.ix (.var 2) (.cst (.int 0))) (.var 1)))) (evE (run P k) (if 2 ≤ k then ini P else noC) b_p_maker_of_1) [some (.d (encB b)), some (.d (.str m.nm)), none]) (b.map Mk.enc) st = some ([m.enc], st) := by
    have := compS_filter Mk.enc Mk.enc (fun k => decide (k.nm = m.nm)) (compF (.nm 2) (evC (run P k) (if 2 ≤ k then ini P else noC) (.some (.cmp .eq (.ix (.var 2) (.cst (.int 0))) (.var 1)))) (evE (run P k) (if 2 ≤ k then ini P else noC) b_p_maker_of_1) [some (.d (encB b)), some (.d (.str m.nm)), none]) st b (by
      intro y hy
      by_cases c : y.nm = m.nm <;> simp [b_p_maker_of_1, Mk.enc, c])
    rw [this, find_mk b nd m hm]; rfl
  simp only [encB] at cm ⊢
  simp [b_p_maker_of, cm]
theorem p_sources (h : SrcP P) (n : Nat) (hn : 18 ≤ n) (st : Sto) (b : List Mk) (hb : Book.ok b) (m : Mk) (hm : m ∈ b) : run P n 130 [.d (encB b), .d (.str m.nm)] st = some (.tuple (encPs (srcs (mkE [] b) m.bk)), st) := by
  obtain ⟨k, rfl⟩ : ∃ k, n = k + 1 := ⟨n - 1, by omega⟩
  have e1 := p_mk h.mkr k (by omega) st b hb.nd m hm
  have e2 := p_makers h.toMayP k (by omega) st b hb.wf (by have := hb.len; omega)
  have hk : (mkE [] b).map (·.1) = b.map (·.nm) := by rw [mkE_keys]; rfl
  obtain ⟨w1, w2⟩ := wf_book b [] hb.wf m hm
  rw [List.nil_append, ← hk] at w1
  have e3 := p_fblock h.toFrP (mkE [] b) m.bk w1 (by have := bookSz [] b hb.mks m hm; omega) k (by omega) st
  have e4 := srtset_prs (frB (mkE [] b) m.bk) (by
    have := ded_few (l := frB (mkE [] b) m.bk) (K := (mkE [] b).map (·.1)) (by rw [hk, List.length_map]; exact hb.len) (frB_mem _ _ _ w1)
    omega)
  rw [r_p_sources h.src]
  have i2 : ixD m.enc (.int 2) = some (.tuple m.bk.enc) := rfl
  simp [b_p_sources, e1, e2, i2, e3, e4, srcs]
end Tw
set_option Elab.async false
set_option linter.all false
set_option maxRecDepth 100000
set_option maxHeartbeats 4000000
/-! D80d: where throws come from, by the law. -/
namespace Tw
open PySem
variable {P : List Fn}
def blf_0 : S := (.asg 4 (.ix (.var 3) (.cst (.int 0))))
def blf_1 : S := (.ite (.cmp .eq (.var 4) (.cst (.str "throw"))) (.cons (.exp (.mt1 .app (.var 2) (.tup (.cons (.ix (.var 3) (.cst (.int 1))) (.cons (.cst (.str "throw")) .nil))))) .nil) .nil)
def blf_2 : S := (.ite (.cmp .eq (.var 4) (.cst (.str "call"))) (.cons (.asg 2 (.nadd (.var 2) (.comp b_l_law_from_1 (.nm 8) (.seq (.tup (.cons (.cst (.str "red")) (.cons (.cst (.str "green")) (.cons (.cst (.str "blue")) .nil))))) (.some (.cmp .inn (.var 8) (.ix (.var 1) (.ix (.var 3) (.cst (.int 2))))))))) .nil) .nil)
def blf_3 : S := (.ite (.cmp .inn (.var 4) (.tup (.cons (.cst (.str "if")) (.cons (.cst (.str "turns")) .nil)))) (.cons (.fors (.nm 5) (.seq (.sl (.var 3) (.some (.cst (.int 2))) .none)) b_l_law_from_2) .nil) .nil)
def blf_4 : S := (.ite (.cmp .eq (.var 4) (.cst (.str "try"))) (.cons (.asg 6 (.call 83 (.cons (.ix (.var 3) (.cst (.int 1))) (.cons (.var 1) .nil)))) (.cons (.asg 7 (.comp b_l_law_from_3 (.nm 10) (.seq (.call 131 (.cons (.ix (.var 3) (.cst (.int 1))) (.cons (.var 1) .nil)))) (.some (.cmp .nin (.ix (.var 10) (.cst (.int 0))) (.comp b_l_law_from_4 (.nm 11) (.seq (.ix (.var 3) (.cst (.int 2)))) .none))))) (.cons (.fors (.tp [8, 9, 5]) (.seq (.ix (.var 3) (.cst (.int 2)))) b_l_law_from_5) (.cons (.ite (.cmp .inn (.cst (.str "on")) (.call 83 (.cons (.ix (.var 3) (.cst (.int 3))) (.cons (.var 1) .nil)))) (.cons (.asg 2 (.nadd (.var 2) (.var 7))) .nil) .nil) (.cons (.asg 2 (.nadd (.var 2) (.call 131 (.cons (.ix (.var 3) (.cst (.int 3))) (.cons (.var 1) .nil))))) .nil))))) .nil)
def blf_5 : S := (.ite (.cmp .nin (.cst (.str "on")) (.call 84 (.cons (.var 3) (.cons (.var 1) .nil)))) (.cons .brk .nil) .nil)
def blf5 (X : Ss) : Ss := (.cons blf_0 (.cons blf_1 (.cons blf_2 (.cons blf_3 (.cons blf_4 X)))))
theorem blf_eq : b_l_law_from_6 = blf5 (.cons blf_5 .nil) := rfl
structure FrL (P : List Fn) : Prop extends MayL P where
  from_ : P[131]? = some f_l_law_from
theorem BkL.of {q : List (Str × PyData)} {E : Ev} (h : RelQ q E) (S : Sto) : BkL E (.d (kvD q)) S := ⟨rfl, fun _ _ => rfl, q, rfl, h.2⟩
theorem l_sorts (n : Nat) (I : CallF) (cs : Cs) (a0 a1 a2 a3 a4 a5 a6 a7 a8 a9 a10 a11 : Option Vl) (st : Sto) :
    compS (compF (.nm 11) (evC (run P n) I .none) (evE (run P n) I b_l_law_from_4) [a0, a1, a2, a3, a4, a5, a6, a7, a8, a9, a10, a11]) cs.enc st = some (cs.sorts.map .str, st) := by
  rw [Cs.toL_enc, sorts_toL, List.map_map]
  exact compS_map encC (fun c => .str c.1) _ _ _ fun c _ => by simp [b_l_law_from_4, encC]
theorem l_filt (n : Nat) (I : CallF) (b l : Bk) (cs : Cs) (a0 a1 a2 a4 a5 a6 a7 a8 a9 a10 a11 : Option Vl) (st : Sto) (xs : Prs) :
    compS (compF (.nm 10) (evC (run P n) I (.some (.cmp .nin (.ix (.var 10) (.cst (.int 0))) (.comp b_l_law_from_4 (.nm 11) (.seq (.ix (.var 3) (.cst (.int 2)))) .none)))) (evE (run P n) I b_l_law_from_3) [a0, a1, a2, some (.d (Dd.tri b cs l).enc), a4, a5, a6, a7, a8, a9, a10, a11]) (encPs xs) st =
      some (encPs (xs.filter fun p => !decide (p.1 ∈ cs.sorts)), st) :=
  compS_filter encP encP (fun p => !decide (p.1 ∈ cs.sorts)) _ st xs (by
    intro p _
    have e := l_sorts (P := P) n I cs
    by_cases c : p.1 ∈ cs.sorts <;> simp [Dd.enc, encP, e, c, b_l_law_from_3])
/-- the pairs of one part more -/
theorem l_part (n : Nat) (I : CallF) (q : List (Str × PyData)) (E : Ev) (b : Bk) (e : ∀ S, run P n 131 [.d (.tuple b.enc), .d (kvD q)] S = some (.list (encPs (frB E b)), S)) (pre : Prs) (hl : pre.length + (frB E b).length ≤ 16777216) (S : Sto) (w d : PyData) (o4 o5 o6 o7 o8 o9 : Option Vl) :
    loopF (run P n) I (.nm 5) b_l_law_from_2 (.tuple b.enc) [some (.d w), some (.d (kvD q)), some (.r S.length), some (.d d), o4, o5, o6, o7, o8, o9, none, none] (S ++ [.lst (encPs pre)]) =
      some (.nx, [some (.d w), some (.d (kvD q)), some (.r (S ++ [MO.lst (encPs pre)]).length), some (.d d), o4, some (.d (.tuple b.enc)), o6, o7, o8, o9, none, none], (S ++ [.lst (encPs pre)]) ++ [.lst (encPs (pre ++ frB E b))]) := by
  have c1 : catL (.list (encPs pre)) (.list (encPs (frB E b))) = some (encPs (pre ++ frB E b)) := by
    rw [show encPs (pre ++ frB E b) = encPs pre ++ encPs (frB E b) from List.map_append]
    exact if_pos (by simpa using hl)
  simp only [loopF_ap, tgS_nm, List.set, Option.bind_some]
  simp [b_l_law_from_2, e, c1, -List.map_append]
/-- one catch more -/
theorem l_catL (n : Nat) (I : CallF) (q : List (Str × PyData)) (E : Ev) (f : My) (ws : List Str) (hws : LW ws f) (w d : PyData) (o2 o4 : Option Vl) (st : Sto) : ∀ (cs : Cs), (∀ x ∈ cs.toL, ∀ S, run P n 131 [.d (.tuple x.2.2.enc), .d (kvD q)] S = some (.list (encPs (frB E x.2.2)), S)) →
    ∀ (pre : Prs), pre.length + szC cs ≤ 16777216 → ∀ (o5 o8 o9 : Option Vl), ∃ o5' o8' o9',
    forS (loopF (run P n) I (.tp [8, 9, 5]) b_l_law_from_5) cs.enc [some (.d w), some (.d (kvD q)), o2, some (.d d), o4, o5, some (.d (kvD (tru ws))), some (.d (.list (encPs pre))), o8, o9, none, none] st =
      some (.nx, [some (.d w), some (.d (kvD q)), o2, some (.d d), o4, o5', some (.d (kvD (tru ws))), some (.d (.list (encPs (pre ++ frC E f cs)))), o8', o9', none, none], st)
  | .nil, _, pre, _, o5, o8, o9 => ⟨o5, o8, o9, by simp [frC, Cs.enc]⟩
  | .cons s x b r, hr, pre, hl, o5, o8, o9 => by
    simp only [szC] at hl
    have hb := frB_len E b
    have e1 := hr (s, x, b) (by simp [Cs.toL])
    have hd := hws.dec s
    have l1 : pre.length + (frB E b).length ≤ 16777216 := by omega
    have e2 : loopF (run P n) I (.tp [8, 9, 5]) b_l_law_from_5 (.tuple [.str s, .str x, .tuple b.enc]) [some (.d w), some (.d (kvD q)), o2, some (.d d), o4, o5, some (.d (kvD (tru ws))), some (.d (.list (encPs pre))), o8, o9, none, none] st =
        some (.nx, [some (.d w), some (.d (kvD q)), o2, some (.d d), o4, some (.d (.tuple b.enc)), some (.d (kvD (tru ws))), some (.d (.list (encPs (pre ++ if f s then frB E b else [])))), some (.d (.str s)), some (.d (.str x)), none, none], st) := by
      cases c : f s with
      | false => rw [c] at hd; simp at hd; simp [b_l_law_from_5, hd]
      | true => rw [c] at hd; simp at hd; simp [b_l_law_from_5, hd, e1, l1]
    obtain ⟨q5, q8, q9, e3⟩ := l_catL n I q E f ws hws w d o2 o4 st r (fun y hy => hr y (by simp [Cs.toL, hy])) (pre ++ if f s then frB E b else []) (by
      split <;> simp <;> omega) (some (.d (.tuple b.enc))) (some (.d (.str s))) (some (.d (.str x)))
    refine ⟨q5, q8, q9, ?_⟩
    rw [Cs.enc, forS_nx e2, e3, frC, List.append_assoc]
/-- what is asked last of a deed -/
theorem l_last (h : FrL P) (E : Ev) (q : List (Str × PyData)) (hq : RelQ q E) (hS : SupE E) (d : Dd) (hw : d.wf (E.map (·.1))) (n : Nat) (hn : 3 * d.dp + 5 ≤ n) (I : CallF) (S : Sto) (w : PyData) (o2 o4 o5 o6 o7 o8 o9 o10 o11 : Option Vl) :
    evSs (run P n) I (.cons blf_5 .nil) [some (.d w), some (.d (kvD q)), o2, some (.d d.enc), o4, o5, o6, o7, o8, o9, o10, o11] S = some (if mayD E d "on" then .nx else .brk, [some (.d w), some (.d (kvD q)), o2, some (.d d.enc), o4, o5, o6, o7, o8, o9, o10, o11], S) := by
  obtain ⟨ws, h1, e⟩ := l_deed h.toMayL E (evAt_sup hS) d hw n hn (.d (kvD q)) S (.of hq S)
  have hd := h1.dec "on"
  cases c : mayD E d "on" <;> rw [c] at hd <;> simp at hd <;> simp [blf_5, e, hd]
abbrev Env12 (w : PyData) (q : List (Str × PyData)) (k : Nat) (d : PyData) (o4 o5 o6 o7 o8 o9 : Option Vl) : En := [some (.d w), some (.d (kvD q)), some (.r k), some (.d d), o4, o5, o6, o7, o8, o9, none, none]
end Tw
set_option Elab.async false
set_option linter.all false
set_option maxRecDepth 100000
set_option maxHeartbeats 4000000
/-! D80e: where throws come from, by the law: the whole. -/
namespace Tw
open PySem
variable {P : List Fn}
/-- what the first five statements about a deed do -/
def Does5 (n : Nat) (I : CallF) (q : List (Str × PyData)) (E : Ev) (d : Dd) : Prop := ∀ (X : Ss) (pre : Prs), pre.length + szD d ≤ 16777216 → ∀ (w : PyData) (S : Sto) (o4 o5 o6 o7 o8 o9 : Option Vl), ∃ (T : Sto) (o4' o5' o6' o7' o8' o9' : Option Vl),
  evSs (run P n) I (blf5 X) (Env12 w q S.length d.enc o4 o5 o6 o7 o8 o9) (S ++ [.lst (encPs pre)]) = evSs (run P n) I X (Env12 w q (S ++ T).length d.enc o4' o5' o6' o7' o8' o9') ((S ++ T) ++ [.lst (encPs (pre ++ frD E d))])
theorem catPs (a b : Prs) (h : a.length + b.length ≤ 16777216) : catL (.list (encPs a)) (.list (encPs b)) = some (encPs (a ++ b)) := by
  rw [show encPs (a ++ b) = encPs a ++ encPs b from List.map_append]
  exact if_pos (by simpa using h)
theorem does_thr (n : Nat) (I : CallF) (q : List (Str × PyData)) (E : Ev) (s : Str) (a : Sm) : Does5 (P := P) n I q E (.thr s a) := by
  intro X pre hl w S o4 o5 o6 o7 o8 o9
  simp only [szD] at hl
  have l1 : pre.length < 16777216 := by omega
  refine ⟨[], some (.d (.str "throw")), o5, o6, o7, o8, o9, ?_⟩
  simp [blf5, blf_0, blf_1, blf_2, blf_3, blf_4, Env12, Dd.enc, l1, frD, encP, inD]
theorem does_call (n : Nat) (I : CallF) (q : List (Str × PyData)) (E : Ev) (hq : RelQ q E) (x f : Str) (as : List Sm) (hf : f ∈ E.map (·.1)) : Does5 (P := P) n I q E (.call x f as) := by
  intro X pre hl w S o4 o5 o6 o7 o8 o9
  simp only [szD] at hl
  obtain ⟨ws, h1, h2⟩ := hq.2 f hf
  have cm : ∀ (a0 a2 a4 a5 a6 a7 a8 a9 a10 a11 : Option Vl) (St : Sto), compS (compF (.nm 8) (evC (run P n) I (.some (.cmp .inn (.var 8) (.ix (.var 1) (.ix (.var 3) (.cst (.int 2))))))) (evE (run P n) I b_l_law_from_1) [a0, some (.d (kvD q)), a2, some (.d (.tuple [.str "call", .str x, .str f, .tuple (as.map Sm.enc)])), a4, a5, a6, a7, a8, a9, a10, a11])
      [.str "red", .str "green", .str "blue"] St = some (encPs ((sorts3.filter (evAt E f)).map fun s => (s, f)), St) := fun a0 a2 a4 a5 a6 a7 a8 a9 a10 a11 St => by
    rw [show encPs ((sorts3.filter (evAt E f)).map fun s => (s, f)) = (sorts3.filter (evAt E f)).map fun s => encP (s, f) from List.map_map]
    refine compS_filter PyData.str (fun s => encP (s, f)) (evAt E f) _ St sorts3 fun y hy => ?_
    have hd := h2.dec y
    cases c : evAt E f y <;> rw [c] at hd <;> simp at hd <;> simp [b_l_law_from_1, encP, h1, hd]
  have c1 := catPs pre ((sorts3.filter (evAt E f)).map fun s => (s, f)) (by
    have := List.length_filter_le (evAt E f) sorts3
    simp [sorts3] at this ⊢
    omega)
  refine ⟨[.lst (encPs pre)], some (.d (.str "call")), o5, o6, o7, o8, o9, ?_⟩
  simp only [frD]
  generalize (sorts3.filter (evAt E f)).map (fun s => (s, f)) = L at cm c1 ⊢
  simp [blf5, blf_0, blf_1, blf_2, blf_3, blf_4, Env12, Dd.enc, cm, c1, inD, -List.map_append]
theorem does_if (n : Nat) (I : CallF) (q : List (Str × PyData)) (E : Ev) (a : Sm) (b c : Bk) (e1 : ∀ S, run P n 131 [.d (.tuple b.enc), .d (kvD q)] S = some (.list (encPs (frB E b)), S)) (e2 : ∀ S, run P n 131 [.d (.tuple c.enc), .d (kvD q)] S = some (.list (encPs (frB E c)), S)) : Does5 (P := P) n I q E (.ife a b c) := by
  intro X pre hl w S o4 o5 o6 o7 o8 o9
  simp only [szD] at hl
  have l1 := frB_len E b
  have l2 := frB_len E c
  have p1 := l_part n I q E b e1 pre (by omega) S w (Dd.ife a b c).enc (some (.d (.str "if"))) o5 o6 o7 o8 o9
  have p2 := l_part n I q E c e2 (pre ++ frB E b) (by rw [List.length_append]; omega) (S ++ [.lst (encPs pre)]) w (Dd.ife a b c).enc (some (.d (.str "if"))) (some (.d (.tuple b.enc))) o6 o7 o8 o9
  have e : forS (loopF (run P n) I (.nm 5) b_l_law_from_2) [.tuple b.enc, .tuple c.enc] (Env12 w q S.length (Dd.ife a b c).enc (some (.d (.str "if"))) o5 o6 o7 o8 o9) (S ++ [.lst (encPs pre)]) = _ := (forS_nx p1).trans ((forS_nx p2).trans (forS_nil _ _ _))
  refine ⟨[.lst (encPs pre)] ++ [.lst (encPs (pre ++ frB E b))], some (.d (.str "if")), some (.d (.tuple c.enc)), o6, o7, o8, o9, ?_⟩
  simp only [frD]
  rw [← List.append_assoc, ← List.append_assoc]
  simp only [Dd.enc, Env12] at e ⊢
  simp [blf5, blf_0, blf_1, blf_2, blf_3, blf_4, e, inD, -List.map_append, -List.append_assoc]
theorem does_turns (n : Nat) (I : CallF) (q : List (Str × PyData)) (E : Ev) (a : Sm) (b : Bk) (e1 : ∀ S, run P n 131 [.d (.tuple b.enc), .d (kvD q)] S = some (.list (encPs (frB E b)), S)) : Does5 (P := P) n I q E (.turns a b) := by
  intro X pre hl w S o4 o5 o6 o7 o8 o9
  simp only [szD] at hl
  have l1 := frB_len E b
  have p1 := l_part n I q E b e1 pre (by omega) S w (Dd.turns a b).enc (some (.d (.str "turns"))) o5 o6 o7 o8 o9
  have e : forS (loopF (run P n) I (.nm 5) b_l_law_from_2) [.tuple b.enc] (Env12 w q S.length (Dd.turns a b).enc (some (.d (.str "turns"))) o5 o6 o7 o8 o9) (S ++ [.lst (encPs pre)]) = _ := (forS_nx p1).trans (forS_nil _ _ _)
  refine ⟨[.lst (encPs pre)], some (.d (.str "turns")), some (.d (.tuple b.enc)), o6, o7, o8, o9, ?_⟩
  simp only [frD]
  simp only [Dd.enc, Env12] at e ⊢
  simp [blf5, blf_0, blf_1, blf_2, blf_3, blf_4, e, inD, -List.map_append, -List.append_assoc]
theorem does_none (n : Nat) (I : CallF) (q : List (Str × PyData)) (E : Ev) (d : Dd) (hd : (∃ a, d = .note a) ∨ (∃ a, d = .tell a) ∨ ∃ x a, d = .put x a) : Does5 (P := P) n I q E d := by
  intro X pre hl w S o4 o5 o6 o7 o8 o9
  rcases hd with ⟨a, rfl⟩ | ⟨a, rfl⟩ | ⟨x, a, rfl⟩
  · exact ⟨[], some (.d (.str "note")), o5, o6, o7, o8, o9, by simp [blf5, blf_0, blf_1, blf_2, blf_3, blf_4, Env12, Dd.enc, frD, inD]⟩
  · exact ⟨[], some (.d (.str "tell")), o5, o6, o7, o8, o9, by simp [blf5, blf_0, blf_1, blf_2, blf_3, blf_4, Env12, Dd.enc, frD, inD]⟩
  · exact ⟨[], some (.d (.str "put")), o5, o6, o7, o8, o9, by simp [blf5, blf_0, blf_1, blf_2, blf_3, blf_4, Env12, Dd.enc, frD, inD]⟩
theorem does_try (h : FrL P) (n : Nat) (I : CallF) (q : List (Str × PyData)) (E : Ev) (hq : RelQ q E) (hS : SupE E) (b : Bk) (cs : Cs) (l : Bk) (hb : b.wf (E.map (·.1))) (hlw : l.wf (E.map (·.1))) (nb : 3 * b.dp + 3 ≤ n) (nl : 3 * l.dp + 3 ≤ n)
    (e1 : ∀ S, run P n 131 [.d (.tuple b.enc), .d (kvD q)] S = some (.list (encPs (frB E b)), S)) (e2 : ∀ S, run P n 131 [.d (.tuple l.enc), .d (kvD q)] S = some (.list (encPs (frB E l)), S))
    (e3 : ∀ x ∈ cs.toL, ∀ S, run P n 131 [.d (.tuple x.2.2.enc), .d (kvD q)] S = some (.list (encPs (frB E x.2.2)), S)) : Does5 (P := P) n I q E (.tri b cs l) := by
  intro X pre hl w S o4 o5 o6 o7 o8 o9
  simp only [szD] at hl
  have l1 := frB_len E b
  have l2 := frB_len E l
  have l3 := frC_len E (mayB E myOn b) cs
  have l4 := List.length_filter_le (fun p : Str × Str => !decide (p.1 ∈ cs.sorts)) (frB E b)
  obtain ⟨ws1, k1, m1⟩ := l_block h.toMayL E (evAt_sup hS) b hb n nb (.d (kvD q)) (S ++ [.lst (encPs pre)]) (.of hq _)
  obtain ⟨ws2, k2, m2⟩ := l_block h.toMayL E (evAt_sup hS) l hlw n nl (.d (kvD q)) (S ++ [.lst (encPs pre)]) (.of hq _)
  have hd := k2.dec "on"
  have fl := fun a0 a1 a2 a4 a5 a6 a7 a8 a9 a10 a11 st => l_filt (P := P) n I b l cs a0 a1 a2 a4 a5 a6 a7 a8 a9 a10 a11 st (frB E b)
  obtain ⟨o5', o8', o9', e7⟩ := l_catL (P := P) n I q E (mayB E myOn b) ws1 k1 w (Dd.tri b cs l).enc (some (.r S.length)) (some (.d (.str "try"))) (S ++ [.lst (encPs pre)]) cs e3 ((frB E b).filter fun p => !decide (p.1 ∈ cs.sorts)) (by omega) o5 o8 o9
  have el := l_sorts (P := P) n I cs
  cases hon : mayB E myOn l "on" with
  | false =>
    rw [hon] at hd
    simp at hd
    have c1 := catPs pre (frB E l) (by omega)
    refine ⟨[.lst (encPs pre)], some (.d (.str "try")), o5', some (.d (kvD (tru ws1))), some (.d (.list (encPs ((frB E b).filter (fun p => !decide (p.1 ∈ cs.sorts)) ++ frC E (mayB E myOn b) cs)))), o8', o9', ?_⟩
    simp only [frD, hon, Bool.false_eq_true, if_false, List.nil_append]
    generalize (frB E b).filter (fun p => !decide (p.1 ∈ cs.sorts)) ++ frC E (mayB E myOn b) cs = L at e7 ⊢
    generalize (frB E b).filter (fun p => !decide (p.1 ∈ cs.sorts)) = L0 at fl e7
    simp only [Dd.enc, Env12] at e7 fl ⊢
    simp [blf5, blf_0, blf_1, blf_2, blf_3, blf_4, m1, m2, e1, e2, fl, e7, hd, c1, inD, -List.map_append]
  | true =>
    rw [hon] at hd
    simp at hd
    have c1 := catPs pre ((frB E b).filter (fun p => !decide (p.1 ∈ cs.sorts)) ++ frC E (mayB E myOn b) cs) (by rw [List.length_append]; omega)
    have c2 := catPs (pre ++ ((frB E b).filter (fun p => !decide (p.1 ∈ cs.sorts)) ++ frC E (mayB E myOn b) cs)) (frB E l) (by rw [List.length_append, List.length_append]; omega)
    refine ⟨[.lst (encPs pre), .lst (encPs (pre ++ ((frB E b).filter (fun p => !decide (p.1 ∈ cs.sorts)) ++ frC E (mayB E myOn b) cs)))], some (.d (.str "try")), o5', some (.d (kvD (tru ws1))), some (.d (.list (encPs ((frB E b).filter (fun p => !decide (p.1 ∈ cs.sorts)) ++ frC E (mayB E myOn b) cs)))), o8', o9', ?_⟩
    simp only [frD, hon, if_true]
    generalize (frB E b).filter (fun p => !decide (p.1 ∈ cs.sorts)) ++ frC E (mayB E myOn b) cs = L at e7 c1 c2 ⊢
    generalize (frB E b).filter (fun p => !decide (p.1 ∈ cs.sorts)) = L0 at fl e7
    rw [← List.append_assoc pre L (frB E l)]
    generalize hPL : pre ++ L = PL at c1 c2 ⊢
    generalize PL ++ frB E l = PLL at c2 ⊢
    have g2 : ∀ (T : Sto) (x y : MO), (T ++ [x, y])[T.length + 1]? = some y := fun T x y => by simp
    simp only [Dd.enc, Env12] at e7 fl ⊢
    simp [blf5, blf_0, blf_1, blf_2, blf_3, blf_4, m1, m2, e1, e2, fl, e7, hd, c1, c2, inD, dat]
mutual
theorem l_fdeed (h : FrL P) (E : Ev) (q : List (Str × PyData)) (hq : RelQ q E) (hS : SupE E) : ∀ d : Dd, d.wf (E.map (·.1)) → szD d ≤ 1000000 → ∀ n, 3 * d.dp + 5 ≤ n → ∀ I, Does5 (P := P) n I q E d
  | .note a, _, _, n, _, I => does_none n I q E _ (.inl ⟨a, rfl⟩)
  | .tell a, _, _, n, _, I => does_none n I q E _ (.inr (.inl ⟨a, rfl⟩))
  | .put x a, _, _, n, _, I => does_none n I q E _ (.inr (.inr ⟨x, a, rfl⟩))
  | .thr s a, _, _, n, _, I => does_thr n I q E s a
  | .call x f as, hw, _, n, _, I => does_call n I q E hq x f as (by simpa only [Dd.wf] using hw)
  | .ife a b c, hw, hz, n, hn, I => by
    simp only [Dd.wf] at hw
    simp only [Dd.dp] at hn
    simp only [szD] at hz
    exact does_if n I q E a b c (l_fblock h E q hq hS b hw.1 (by omega) n (by omega)) (l_fblock h E q hq hS c hw.2 (by omega) n (by omega))
  | .turns a b, hw, hz, n, hn, I => by
    simp only [Dd.wf] at hw
    simp only [Dd.dp] at hn
    simp only [szD] at hz
    exact does_turns n I q E a b (l_fblock h E q hq hS b hw (by omega) n (by omega))
  | .tri b cs l, hw, hz, n, hn, I => by
    simp only [Dd.wf] at hw
    simp only [Dd.dp] at hn
    simp only [szD] at hz
    exact does_try h n I q E hq hS b cs l hw.1 hw.2.2 (by omega) (by omega) (l_fblock h E q hq hS b hw.1 (by omega) n (by omega)) (l_fblock h E q hq hS l hw.2.2 (by omega) n (by omega)) (l_fcat h E q hq hS cs hw.2.1 (by omega) n (by omega))
theorem l_fblock (h : FrL P) (E : Ev) (q : List (Str × PyData)) (hq : RelQ q E) (hS : SupE E) : ∀ b : Bk, b.wf (E.map (·.1)) → szB b ≤ 1000000 → ∀ n, 3 * b.dp + 3 ≤ n → ∀ S, run P n 131 [.d (.tuple b.enc), .d (kvD q)] S = some (.list (encPs (frB E b)), S)
  | b, hw, hz, n, hn, S => by
    obtain ⟨m, rfl⟩ : ∃ m, n = m + 1 := ⟨n - 1, by omega⟩
    obtain ⟨T, o3, o4, o5, o6, o7, o8, o9, e⟩ := l_fblockL h E q hq hS b hw hz m (by omega) (if 2 ≤ m then ini P else noC) [] (by simp; omega) (.tuple b.enc) S none none none none none none none
    rw [r_l_law_from h.from_]
    have e' : forS (loopF (run P m) (if 2 ≤ m then ini P else noC) (.nm 3) b_l_law_from_6) b.enc [some (.d (.tuple b.enc)), some (.d (kvD q)), some (.r S.length), none, none, none, none, none, none, none, none, none] (S ++ [.lst []]) = _ := e
    simp only [List.nil_append] at e'
    simp [b_l_law_from, e', -List.length_append, -List.append_assoc]
    rw [retD_r _ _ _ (by simp)]
    simp only [dat_top, Option.map_some, Option.some.injEq, Prod.mk.injEq, true_and]
    rw [List.append_assoc, List.take_left]
    exact ⟨_, rfl, rfl, rfl⟩
theorem l_fblockL (h : FrL P) (E : Ev) (q : List (Str × PyData)) (hq : RelQ q E) (hS : SupE E) : ∀ b : Bk, b.wf (E.map (·.1)) → szB b ≤ 1000000 → ∀ n, 3 * b.dp + 2 ≤ n → ∀ (I : CallF) (pre : Prs), pre.length + szB b ≤ 16777216 → ∀ (w : PyData) (S : Sto) (o3 o4 o5 o6 o7 o8 o9 : Option Vl), ∃ (T : Sto) (o3' o4' o5' o6' o7' o8' o9' : Option Vl),
    forS (loopF (run P n) I (.nm 3) b_l_law_from_6) b.enc [some (.d w), some (.d (kvD q)), some (.r S.length), o3, o4, o5, o6, o7, o8, o9, none, none] (S ++ [.lst (encPs pre)]) =
      some (.nx, [some (.d w), some (.d (kvD q)), some (.r (S ++ T).length), o3', o4', o5', o6', o7', o8', o9', none, none], (S ++ T) ++ [.lst (encPs (pre ++ frB E b))])
  | .nil, _, _, n, _, I, pre, _, w, S, o3, o4, o5, o6, o7, o8, o9 => ⟨[], o3, o4, o5, o6, o7, o8, o9, by simp [Bk.enc, frB]⟩
  | .cons d r, hw, hz, n, hn, I, pre, hl, w, S, o3, o4, o5, o6, o7, o8, o9 => by
    simp only [Bk.wf] at hw
    simp only [Bk.dp] at hn
    simp only [szB] at hz hl
    have l1 := frD_len E d
    obtain ⟨T, p4, p5, p6, p7, p8, p9, e1⟩ := l_fdeed h E q hq hS d hw.1 (by omega) n (by omega) I (.cons blf_5 .nil) pre (by omega) w S o4 o5 o6 o7 o8 o9
    have e2 := l_last h E q hq hS d hw.1 n (by omega) I ((S ++ T) ++ [.lst (encPs (pre ++ frD E d))]) w (some (.r (S ++ T).length)) p4 p5 p6 p7 p8 p9 none none
    have e3 : loopF (run P n) I (.nm 3) b_l_law_from_6 d.enc [some (.d w), some (.d (kvD q)), some (.r S.length), o3, o4, o5, o6, o7, o8, o9, none, none] (S ++ [.lst (encPs pre)]) =
        some (if mayD E d "on" then .nx else .brk, Env12 w q (S ++ T).length d.enc p4 p5 p6 p7 p8 p9, (S ++ T) ++ [.lst (encPs (pre ++ frD E d))]) := by
      rw [loopF_ap, tgS_nm, Option.bind_some, blf_eq]
      exact e1.trans e2
    cases hon : mayD E d "on" with
    | false =>
      rw [hon] at e3
      refine ⟨T, some (.d d.enc), p4, p5, p6, p7, p8, p9, ?_⟩
      rw [Bk.enc, forS_cons, e3, frB, hon]
      simp
    | true =>
      rw [hon] at e3
      obtain ⟨T2, o3', q4, q5, q6, q7, q8, q9, e4⟩ := l_fblockL h E q hq hS r hw.2 (by omega) n (by omega) I (pre ++ frD E d) (by rw [List.length_append]; omega) w (S ++ T) (some (.d d.enc)) p4 p5 p6 p7 p8 p9
      refine ⟨T ++ T2, o3', q4, q5, q6, q7, q8, q9, ?_⟩
      rw [Bk.enc, forS_nx e3, e4, frB, hon, if_pos rfl, List.append_assoc pre, List.append_assoc S]
theorem l_fcat (h : FrL P) (E : Ev) (q : List (Str × PyData)) (hq : RelQ q E) (hS : SupE E) : ∀ cs : Cs, cs.wf (E.map (·.1)) → szC cs ≤ 1000000 → ∀ n, 3 * cs.dp + 3 ≤ n → ∀ x ∈ cs.toL, ∀ S, run P n 131 [.d (.tuple x.2.2.enc), .d (kvD q)] S = some (.list (encPs (frB E x.2.2)), S)
  | .nil, _, _, n, _, x, hx, S => by simp [Cs.toL] at hx
  | .cons s y b r, hw, hz, n, hn, x, hx, S => by
    simp only [Cs.wf] at hw
    simp only [Cs.dp] at hn
    simp only [szC] at hz
    rcases List.mem_cons.mp hx with rfl | hx
    · exact l_fblock h E q hq hS b hw.2.1 (by omega) n (by omega) S
    · exact l_fcat h E q hq hS r hw.2.2 (by omega) n (by omega) x hx S
end
end Tw
set_option Elab.async false
set_option linter.all false
set_option maxRecDepth 100000
set_option maxHeartbeats 2000000
namespace Tw.K80
open PySem Tw
def lvl : Nat := 40
theorem genB : GenB G.P := ⟨⟨⟨rfl, rfl, rfl, rfl⟩, rfl, rfl, rfl⟩, rfl⟩
theorem srcP : SrcP G.P := ⟨⟨⟨rfl, rfl, rfl, rfl, rfl, rfl⟩, rfl, rfl, rfl⟩, rfl, rfl⟩
theorem mayL : MayM G.P := ⟨⟨rfl, rfl, rfl, rfl⟩, rfl⟩
theorem frL : FrL G.P := ⟨⟨rfl, rfl, rfl, rfl⟩, rfl⟩
theorem supE_mk : ∀ (b : List Mk) (E : Ev), bookWf (E.map (·.1)) b → SupE E → SupE (mkE E b)
  | [], E, _, h => h
  | m :: r, E, hw, h => by
    obtain ⟨h1, h2, h3, h4⟩ := hw
    refine supE_mk r _ (by simpa using h4) fun p hp => ?_
    rcases List.mem_append.mp hp with hp | hp
    · exact h p hp
    · simp at hp
      rw [hp]
      exact supB E (evAt_sup h) _ m.bk h1 _ sup_on
theorem loop (n : Nat) (hn : 20 ≤ n) (I : CallF) (b0 : List Mk) (hb : Book.ok b0) (q : List (Str × PyData)) (hq : RelQ q (mkE [] b0)) (sc : Vl) : ∀ (b : List Mk), (∀ m ∈ b, m ∈ b0) → ∀ (o3 o4 o5 : Option Vl), ∃ o3' o4' o5',
    forS (loopF (run G.P n) I (.tp [3, 4, 5]) b_law_k80_1) (b.map Mk.enc) [some sc, some (.d (encB b0)), some (.d (kvD q)), o3, o4, o5] [] = some (.nx, [some sc, some (.d (encB b0)), some (.d (kvD q)), o3', o4', o5'], [])
  | [], _, o3, o4, o5 => ⟨o3, o4, o5, rfl⟩
  | m :: r, hm, o3, o4, o5 => by
    have hmm := hm m (by simp)
    have e1 := p_sources srcP n (by omega) [] b0 hb m hmm
    have hk : (mkE [] b0).map (·.1) = b0.map (·.nm) := by rw [mkE_keys]; rfl
    obtain ⟨w1, w2⟩ := wf_book b0 [] hb.wf m hmm
    rw [List.nil_append, ← hk] at w1
    have e2 := l_fblock frL (mkE [] b0) q hq (supE_mk b0 [] hb.wf (by intro p hp; simp at hp)) m.bk w1 (by have := bookSz [] b0 hb.mks m hmm; omega) n (by omega) []
    have e3 := srtset_prs (frB (mkE [] b0) m.bk) (by
      have := ded_few (l := frB (mkE [] b0) m.bk) (K := (mkE [] b0).map (·.1)) (by rw [hk, List.length_map]; exact hb.len) (frB_mem _ _ _ w1)
      omega)
    have e4 := eqD_self (pl_encPs (srcs_ok (E := mkE [] b0) w1 (by
      intro k hkm
      rw [hk] at hkm
      obtain ⟨m', h1, rfl⟩ := List.mem_map.mp hkm
      exact hb.nmOk m' h1))) (by omega)
    have e5 : loopF (run G.P n) I (.tp [3, 4, 5]) b_law_k80_1 m.enc [some sc, some (.d (encB b0)), some (.d (kvD q)), o3, o4, o5] [] = some (.nx, [some sc, some (.d (encB b0)), some (.d (kvD q)), some (.d (.str m.nm)), some (.d (.tuple (m.ps.map .str))), some (.d (.tuple m.bk.enc))], []) := by
      unfold srcs at e1 e4
      simp [b_law_k80_1, Mk.enc, e1, e2, e3, e4]
    obtain ⟨p3, p4, p5, e6⟩ := loop n hn I b0 hb q hq sc r (fun k hk => hm k (by simp [hk])) (some (.d (.str m.nm))) (some (.d (.tuple (m.ps.map .str)))) (some (.d (.tuple m.bk.enc)))
    refine ⟨p3, p4, p5, ?_⟩
    rw [List.map_cons, forS_nx e5, e6]
theorem law_true : ∀ ns : List Int, ns.length ≤ 63 → ∃ st', run G.P lvl 0 [.s ns] [] = some (.bool true, st') := by
  intro ns _
  refine ⟨[], ?_⟩
  obtain ⟨a, _, e1⟩ := g_mixed genB.toGen 39 (by omega) ns 0 []
  obtain ⟨b, hb, e2⟩ := g_book genB 39 (by omega) a []
  obtain ⟨q, hq, e3⟩ := l_makers mayL 39 (by omega) [] b hb.wf (by have := hb.len; omega)
  obtain ⟨o3, o4, o5, e6⟩ := loop 39 (by omega) (ini G.P) b hb q hq (.s ns) b (fun m hm => hm) none none none
  show run G.P (39 + 1) 0 [.s ns] [] = _
  rw [r_law_k80 (P := G.P) rfl 39 (.s ns) [], show (if 2 ≤ 39 then ini G.P else noC) = ini G.P from rfl]
  have e1' : run G.P 39 2 [.s ns, .d (.int 0)] [] = some (.int a, []) := e1
  have hEB : encB b = .tuple (b.map Mk.enc) := rfl
  rw [hEB] at e2 e3 e6
  simp [b_law_k80, e1', e2, e3, e6]
end Tw.K80
/-! printed by gen.py: the row has these defs -/
namespace Tw.K80
open PySem Tw L2 LamX NdefX
def rowS (i : Nat) : Stmt := PySem.Challenge.pw_throwless_k80_sources.main.body.getD i (.Pass ⟨0, 0, 0, 0⟩)
abbrev s_p_maker_of : Stmt := rowS 2
theorem c_p_maker_of : FnScope f_p_maker_of.N f_p_maker_of.ps (defScope s_p_maker_of) :=
  ⟨rfl, rfl, rfl, by decide +kernel, rfl, by decide +kernel, by decide +kernel⟩
theorem m_p_maker_of : mSs (G.wm f_p_maker_of.crt) f_p_maker_of.N (defScope s_p_maker_of) b_p_maker_of (defBody s_p_maker_of) = true := by decide +kernel
abbrev s_p_merged : Stmt := rowS 5
theorem c_p_merged : FnScope f_p_merged.N f_p_merged.ps (defScope s_p_merged) :=
  ⟨rfl, rfl, rfl, by decide +kernel, rfl, by decide +kernel, by decide +kernel⟩
theorem m_p_merged : mSs (G.wm f_p_merged.crt) f_p_merged.N (defScope s_p_merged) b_p_merged (defBody s_p_merged) = true := by decide +kernel
abbrev s_p_joined : Stmt := rowS 6
theorem c_p_joined : FnScope f_p_joined.N f_p_joined.ps (defScope s_p_joined) :=
  ⟨rfl, rfl, rfl, by decide +kernel, rfl, by decide +kernel, by decide +kernel⟩
theorem m_p_joined : mSs (G.wm f_p_joined.crt) f_p_joined.N (defScope s_p_joined) b_p_joined (defBody s_p_joined) = true := by decide +kernel
abbrev s_p_of_try : Stmt := rowS 7
theorem c_p_of_try : FnScope f_p_of_try.N f_p_of_try.ps (defScope s_p_of_try) :=
  ⟨rfl, rfl, rfl, by decide +kernel, rfl, by decide +kernel, by decide +kernel⟩
theorem m_p_of_try : mSs (G.wm f_p_of_try.crt) f_p_of_try.N (defScope s_p_of_try) b_p_of_try (defBody s_p_of_try) = true := by decide +kernel
abbrev s_p_of_deed : Stmt := rowS 8
theorem c_p_of_deed : FnScope f_p_of_deed.N f_p_of_deed.ps (defScope s_p_of_deed) :=
  ⟨rfl, rfl, rfl, by decide +kernel, rfl, by decide +kernel, by decide +kernel⟩
theorem m_p_of_deed : mSs (G.wm f_p_of_deed.crt) f_p_of_deed.N (defScope s_p_of_deed) b_p_of_deed (defBody s_p_of_deed) = true := by decide +kernel
abbrev s_p_of_block : Stmt := rowS 9
theorem c_p_of_block : FnScope f_p_of_block.N f_p_of_block.ps (defScope s_p_of_block) :=
  ⟨rfl, rfl, rfl, by decide +kernel, rfl, by decide +kernel, by decide +kernel⟩
theorem m_p_of_block : mSs (G.wm f_p_of_block.crt) f_p_of_block.N (defScope s_p_of_block) b_p_of_block (defBody s_p_of_block) = true := by decide +kernel
abbrev s_p_of_makers : Stmt := rowS 10
theorem c_p_of_makers : FnScope f_p_of_makers.N f_p_of_makers.ps (defScope s_p_of_makers) :=
  ⟨rfl, rfl, rfl, by decide +kernel, rfl, by decide +kernel, by decide +kernel⟩
theorem m_p_of_makers : mSs (G.wm f_p_of_makers.crt) f_p_of_makers.N (defScope s_p_of_makers) b_p_of_makers (defBody s_p_of_makers) = true := by decide +kernel
abbrev s_p_from_try : Stmt := rowS 13
theorem c_p_from_try : FnScope f_p_from_try.N f_p_from_try.ps (defScope s_p_from_try) :=
  ⟨rfl, rfl, rfl, by decide +kernel, rfl, by decide +kernel, by decide +kernel⟩
theorem m_p_from_try : mSs (G.wm f_p_from_try.crt) f_p_from_try.N (defScope s_p_from_try) b_p_from_try (defBody s_p_from_try) = true := by decide +kernel
abbrev s_p_from_deed : Stmt := rowS 14
theorem c_p_from_deed : FnScope f_p_from_deed.N f_p_from_deed.ps (defScope s_p_from_deed) :=
  ⟨rfl, rfl, rfl, by decide +kernel, rfl, by decide +kernel, by decide +kernel⟩
theorem m_p_from_deed : mSs (G.wm f_p_from_deed.crt) f_p_from_deed.N (defScope s_p_from_deed) b_p_from_deed (defBody s_p_from_deed) = true := by decide +kernel
abbrev s_p_from_block : Stmt := rowS 15
theorem c_p_from_block : FnScope f_p_from_block.N f_p_from_block.ps (defScope s_p_from_block) :=
  ⟨rfl, rfl, rfl, by decide +kernel, rfl, by decide +kernel, by decide +kernel⟩
theorem m_p_from_block : mSs (G.wm f_p_from_block.crt) f_p_from_block.N (defScope s_p_from_block) b_p_from_block (defBody s_p_from_block) = true := by decide +kernel
abbrev s_p_sources : Stmt := rowS 16
theorem c_p_sources : FnScope f_p_sources.N f_p_sources.ps (defScope s_p_sources) :=
  ⟨rfl, rfl, rfl, by decide +kernel, rfl, by decide +kernel, by decide +kernel⟩
theorem m_p_sources : mSs (G.wm f_p_sources.crt) f_p_sources.N (defScope s_p_sources) b_p_sources (defBody s_p_sources) = true := by decide +kernel
abbrev s_l_law_cell_at : Stmt := rowS 18
theorem c_l_law_cell_at : FnScope f_l_law_cell_at.N f_l_law_cell_at.ps (defScope s_l_law_cell_at) :=
  ⟨rfl, rfl, rfl, by decide +kernel, rfl, by decide +kernel, by decide +kernel⟩
theorem m_l_law_cell_at : mSs (G.wm f_l_law_cell_at.crt) f_l_law_cell_at.N (defScope s_l_law_cell_at) b_l_law_cell_at (defBody s_l_law_cell_at) = true := by decide +kernel
abbrev s_l_law_mixed : Stmt := rowS 19
theorem c_l_law_mixed : FnScope f_l_law_mixed.N f_l_law_mixed.ps (defScope s_l_law_mixed) :=
  ⟨rfl, rfl, rfl, by decide +kernel, rfl, by decide +kernel, by decide +kernel⟩
theorem m_l_law_mixed : mSs (G.wm f_l_law_mixed.crt) f_l_law_mixed.N (defScope s_l_law_mixed) b_l_law_mixed (defBody s_l_law_mixed) = true := by decide +kernel
abbrev s_l_law_drawn : Stmt := rowS 20
theorem c_l_law_drawn : FnScope f_l_law_drawn.N f_l_law_drawn.ps (defScope s_l_law_drawn) :=
  ⟨rfl, rfl, rfl, by decide +kernel, rfl, by decide +kernel, by decide +kernel⟩
theorem m_l_law_drawn : mSs (G.wm f_l_law_drawn.crt) f_l_law_drawn.N (defScope s_l_law_drawn) b_l_law_drawn (defBody s_l_law_drawn) = true := by decide +kernel
abbrev s_l_law_sum : Stmt := rowS 21
theorem c_l_law_sum : FnScope f_l_law_sum.N f_l_law_sum.ps (defScope s_l_law_sum) :=
  ⟨rfl, rfl, rfl, by decide +kernel, rfl, by decide +kernel, by decide +kernel⟩
theorem m_l_law_sum : mSs (G.wm f_l_law_sum.crt) f_l_law_sum.N (defScope s_l_law_sum) b_l_law_sum (defBody s_l_law_sum) = true := by decide +kernel
abbrev s_l_law_try : Stmt := rowS 22
theorem c_l_law_try : FnScope f_l_law_try.N f_l_law_try.ps (defScope s_l_law_try) :=
  ⟨rfl, rfl, rfl, by decide +kernel, rfl, by decide +kernel, by decide +kernel⟩
theorem m_l_law_try : mSs (G.wm f_l_law_try.crt) f_l_law_try.N (defScope s_l_law_try) b_l_law_try (defBody s_l_law_try) = true := by decide +kernel
abbrev s_l_law_deed : Stmt := rowS 23
theorem c_l_law_deed : FnScope f_l_law_deed.N f_l_law_deed.ps (defScope s_l_law_deed) :=
  ⟨rfl, rfl, rfl, by decide +kernel, rfl, by decide +kernel, by decide +kernel⟩
theorem m_l_law_deed : mSs (G.wm f_l_law_deed.crt) f_l_law_deed.N (defScope s_l_law_deed) b_l_law_deed (defBody s_l_law_deed) = true := by decide +kernel
abbrev s_l_law_block : Stmt := rowS 24
theorem c_l_law_block : FnScope f_l_law_block.N f_l_law_block.ps (defScope s_l_law_block) :=
  ⟨rfl, rfl, rfl, by decide +kernel, rfl, by decide +kernel, by decide +kernel⟩
theorem m_l_law_block : mSs (G.wm f_l_law_block.crt) f_l_law_block.N (defScope s_l_law_block) b_l_law_block (defBody s_l_law_block) = true := by decide +kernel
abbrev s_l_law_book : Stmt := rowS 25
theorem c_l_law_book : FnScope f_l_law_book.N f_l_law_book.ps (defScope s_l_law_book) :=
  ⟨rfl, rfl, rfl, by decide +kernel, rfl, by decide +kernel, by decide +kernel⟩
theorem m_l_law_book : mSs (G.wm f_l_law_book.crt) f_l_law_book.N (defScope s_l_law_book) b_l_law_book (defBody s_l_law_book) = true := by decide +kernel
abbrev s_l_law_both : Stmt := rowS 27
theorem c_l_law_both : FnScope f_l_law_both.N f_l_law_both.ps (defScope s_l_law_both) :=
  ⟨rfl, rfl, rfl, by decide +kernel, rfl, by decide +kernel, by decide +kernel⟩
theorem m_l_law_both : mSs (G.wm f_l_law_both.crt) f_l_law_both.N (defScope s_l_law_both) b_l_law_both (defBody s_l_law_both) = true := by decide +kernel
abbrev s_l_law_may : Stmt := rowS 28
theorem c_l_law_may : FnScope f_l_law_may.N f_l_law_may.ps (defScope s_l_law_may) :=
  ⟨rfl, rfl, rfl, by decide +kernel, rfl, by decide +kernel, by decide +kernel⟩
theorem m_l_law_may : mSs (G.wm f_l_law_may.crt) f_l_law_may.N (defScope s_l_law_may) b_l_law_may (defBody s_l_law_may) = true := by decide +kernel
abbrev s_l_law_ways : Stmt := rowS 29
theorem c_l_law_ways : FnScope f_l_law_ways.N f_l_law_ways.ps (defScope s_l_law_ways) :=
  ⟨rfl, rfl, rfl, by decide +kernel, rfl, by decide +kernel, by decide +kernel⟩
theorem m_l_law_ways : mSs (G.wm f_l_law_ways.crt) f_l_law_ways.N (defScope s_l_law_ways) b_l_law_ways (defBody s_l_law_ways) = true := by decide +kernel
abbrev s_l_law_try_ways : Stmt := rowS 30
theorem c_l_law_try_ways : FnScope f_l_law_try_ways.N f_l_law_try_ways.ps (defScope s_l_law_try_ways) :=
  ⟨rfl, rfl, rfl, by decide +kernel, rfl, by decide +kernel, by decide +kernel⟩
theorem m_l_law_try_ways : mSs (G.wm f_l_law_try_ways.crt) f_l_law_try_ways.N (defScope s_l_law_try_ways) b_l_law_try_ways (defBody s_l_law_try_ways) = true := by decide +kernel
abbrev s_l_law_makers_may : Stmt := rowS 31
theorem c_l_law_makers_may : FnScope f_l_law_makers_may.N f_l_law_makers_may.ps (defScope s_l_law_makers_may) :=
  ⟨rfl, rfl, rfl, by decide +kernel, rfl, by decide +kernel, by decide +kernel⟩
theorem m_l_law_makers_may : mSs (G.wm f_l_law_makers_may.crt) f_l_law_makers_may.N (defScope s_l_law_makers_may) b_l_law_makers_may (defBody s_l_law_makers_may) = true := by decide +kernel
abbrev s_l_law_from : Stmt := rowS 32
theorem c_l_law_from : FnScope f_l_law_from.N f_l_law_from.ps (defScope s_l_law_from) :=
  ⟨rfl, rfl, rfl, by decide +kernel, rfl, by decide +kernel, by decide +kernel⟩
theorem m_l_law_from : mSs (G.wm f_l_law_from.crt) f_l_law_from.N (defScope s_l_law_from) b_l_law_from (defBody s_l_law_from) = true := by decide +kernel
abbrev s_law_k80 : Stmt := rowS 33
theorem c_law_k80 : FnScope f_law_k80.N f_law_k80.ps (defScope s_law_k80) :=
  ⟨rfl, rfl, rfl, by decide +kernel, rfl, by decide +kernel, by decide +kernel⟩
theorem m_law_k80 : mSs (G.wm f_law_k80.crt) f_law_k80.N (defScope s_law_k80) b_law_k80 (defBody s_law_k80) = true := by decide +kernel
theorem top {w : World} {K : PySem.W.Frag} {h : Heap} {mg : Str → Option Value} {fa f0 f1 f2 f3 f4 f5 f6 f7 f8 f9 f10 f11 f12 f13 f14 f15 f16 f17 f18 f19 f20 f21 f22 f23 f24 f25 ga0_2 ga0 ga1 : Addr} {od0 an0 od1 an1 od2 an2 od3 an3 od4 an4 od5 an5 od6 an6 od7 an7 od8 an8 od9 an9 od10 an10 od11 an11 od12 an12 od13 an13 od14 an14 od15 an15 od16 an16 od17 an17 od18 an18 od19 an19 od20 an20 od21 an21 od22 an22 od23 an23 od24 an24 od25 an25 go0_2 : Option Addr} {sl0 sl1 sl2 sl3 sl4 sl5 sl6 sl7 sl8 sl9 sl10 sl11 sl12 sl13 sl14 sl15 sl16 sl17 sl18 sl19 sl20 sl21 sl22 sl23 sl24 sl25 gs0_2 gs0 gs1 : Array (Option Value)} {oc0 kV0 dc0 pm0 ct0 cd0 oc1 kV1 dc1 pm1 ct1 cd1 oc2 kV2 dc2 pm2 ct2 cd2 oc3 kV3 dc3 pm3 ct3 cd3 oc4 kV4 dc4 pm4 ct4 cd4 oc5 kV5 dc5 pm5 ct5 cd5 oc6 kV6 dc6 pm6 ct6 cd6 oc7 kV7 dc7 pm7 ct7 cd7 oc8 kV8 dc8 pm8 ct8 cd8 oc9 kV9 dc9 pm9 ct9 cd9 oc10 kV10 dc10 pm10 ct10 cd10 oc11 kV11 dc11 pm11 ct11 cd11 oc12 kV12 dc12 pm12 ct12 cd12 oc13 kV13 dc13 pm13 ct13 cd13 oc14 kV14 dc14 pm14 ct14 cd14 oc15 kV15 dc15 pm15 ct15 cd15 oc16 kV16 dc16 pm16 ct16 cd16 oc17 kV17 dc17 pm17 ct17 cd17 oc18 kV18 dc18 pm18 ct18 cd18 oc19 kV19 dc19 pm19 ct19 cd19 oc20 kV20 dc20 pm20 ct20 cd20 oc21 kV21 dc21 pm21 ct21 cd21 oc22 kV22 dc22 pm22 ct22 cd22 oc23 kV23 dc23 pm23 ct23 cd23 oc24 kV24 dc24 pm24 ct24 cd24 oc25 kV25 dc25 pm25 ct25 cd25 : Value} {t1_0 t1_1 t1_2 t2 : Tok} {gn0_2 gn0 gn1 : Nat} (X : K.In h) (hG : h.Ns mainGlobals mg) (hfa : mg "law" = some (.ref fa))
    (a0 : PySem.W.nsIn K mainGlobals "maker_of" = some (some (.ref f0)))
    (l0 : K.lookup f0 = some ⟨oc0, od0, .func (PySem.W.fnOf "maker_of" "maker_of" (defArgs s_p_maker_of) (defBody s_p_maker_of) (defScope s_p_maker_of) .none kV0 dc0 pm0 an0 cd0 ct0), sl0⟩)
    (c0 : PySem.W.codeIn K cd0 "maker_of" = true) (k0 : PySem.W.keepIn K (.ref f0) = true)
    (a1 : PySem.W.nsIn K mainGlobals "merged" = some (some (.ref f1)))
    (l1 : K.lookup f1 = some ⟨oc1, od1, .func (PySem.W.fnOf "merged" "merged" (defArgs s_p_merged) (defBody s_p_merged) (defScope s_p_merged) .none kV1 dc1 pm1 an1 cd1 ct1), sl1⟩)
    (c1 : PySem.W.codeIn K cd1 "merged" = true) (k1 : PySem.W.keepIn K (.ref f1) = true)
    (a2 : PySem.W.nsIn K mainGlobals "joined" = some (some (.ref f2)))
    (l2 : K.lookup f2 = some ⟨oc2, od2, .func (PySem.W.fnOf "joined" "joined" (defArgs s_p_joined) (defBody s_p_joined) (defScope s_p_joined) .none kV2 dc2 pm2 an2 cd2 ct2), sl2⟩)
    (c2 : PySem.W.codeIn K cd2 "joined" = true) (k2 : PySem.W.keepIn K (.ref f2) = true)
    (a3 : PySem.W.nsIn K mainGlobals "of_try" = some (some (.ref f3)))
    (l3 : K.lookup f3 = some ⟨oc3, od3, .func (PySem.W.fnOf "of_try" "of_try" (defArgs s_p_of_try) (defBody s_p_of_try) (defScope s_p_of_try) .none kV3 dc3 pm3 an3 cd3 ct3), sl3⟩)
    (c3 : PySem.W.codeIn K cd3 "of_try" = true) (k3 : PySem.W.keepIn K (.ref f3) = true)
    (a4 : PySem.W.nsIn K mainGlobals "of_deed" = some (some (.ref f4)))
    (l4 : K.lookup f4 = some ⟨oc4, od4, .func (PySem.W.fnOf "of_deed" "of_deed" (defArgs s_p_of_deed) (defBody s_p_of_deed) (defScope s_p_of_deed) .none kV4 dc4 pm4 an4 cd4 ct4), sl4⟩)
    (c4 : PySem.W.codeIn K cd4 "of_deed" = true) (k4 : PySem.W.keepIn K (.ref f4) = true)
    (a5 : PySem.W.nsIn K mainGlobals "of_block" = some (some (.ref f5)))
    (l5 : K.lookup f5 = some ⟨oc5, od5, .func (PySem.W.fnOf "of_block" "of_block" (defArgs s_p_of_block) (defBody s_p_of_block) (defScope s_p_of_block) .none kV5 dc5 pm5 an5 cd5 ct5), sl5⟩)
    (c5 : PySem.W.codeIn K cd5 "of_block" = true) (k5 : PySem.W.keepIn K (.ref f5) = true)
    (a6 : PySem.W.nsIn K mainGlobals "of_makers" = some (some (.ref f6)))
    (l6 : K.lookup f6 = some ⟨oc6, od6, .func (PySem.W.fnOf "of_makers" "of_makers" (defArgs s_p_of_makers) (defBody s_p_of_makers) (defScope s_p_of_makers) .none kV6 dc6 pm6 an6 cd6 ct6), sl6⟩)
    (c6 : PySem.W.codeIn K cd6 "of_makers" = true) (k6 : PySem.W.keepIn K (.ref f6) = true)
    (a7 : PySem.W.nsIn K mainGlobals "from_try" = some (some (.ref f7)))
    (l7 : K.lookup f7 = some ⟨oc7, od7, .func (PySem.W.fnOf "from_try" "from_try" (defArgs s_p_from_try) (defBody s_p_from_try) (defScope s_p_from_try) .none kV7 dc7 pm7 an7 cd7 ct7), sl7⟩)
    (c7 : PySem.W.codeIn K cd7 "from_try" = true) (k7 : PySem.W.keepIn K (.ref f7) = true)
    (a8 : PySem.W.nsIn K mainGlobals "from_deed" = some (some (.ref f8)))
    (l8 : K.lookup f8 = some ⟨oc8, od8, .func (PySem.W.fnOf "from_deed" "from_deed" (defArgs s_p_from_deed) (defBody s_p_from_deed) (defScope s_p_from_deed) .none kV8 dc8 pm8 an8 cd8 ct8), sl8⟩)
    (c8 : PySem.W.codeIn K cd8 "from_deed" = true) (k8 : PySem.W.keepIn K (.ref f8) = true)
    (a9 : PySem.W.nsIn K mainGlobals "from_block" = some (some (.ref f9)))
    (l9 : K.lookup f9 = some ⟨oc9, od9, .func (PySem.W.fnOf "from_block" "from_block" (defArgs s_p_from_block) (defBody s_p_from_block) (defScope s_p_from_block) .none kV9 dc9 pm9 an9 cd9 ct9), sl9⟩)
    (c9 : PySem.W.codeIn K cd9 "from_block" = true) (k9 : PySem.W.keepIn K (.ref f9) = true)
    (a10 : PySem.W.nsIn K mainGlobals "sources" = some (some (.ref f10)))
    (l10 : K.lookup f10 = some ⟨oc10, od10, .func (PySem.W.fnOf "sources" "sources" (defArgs s_p_sources) (defBody s_p_sources) (defScope s_p_sources) .none kV10 dc10 pm10 an10 cd10 ct10), sl10⟩)
    (c10 : PySem.W.codeIn K cd10 "sources" = true) (k10 : PySem.W.keepIn K (.ref f10) = true)
    (a11 : PySem.W.nsIn K mainGlobals "_law_cell_at" = some (some (.ref f11)))
    (l11 : K.lookup f11 = some ⟨oc11, od11, .func (PySem.W.fnOf "_law_cell_at" "_law_cell_at" (defArgs s_l_law_cell_at) (defBody s_l_law_cell_at) (defScope s_l_law_cell_at) .none kV11 dc11 pm11 an11 cd11 ct11), sl11⟩)
    (c11 : PySem.W.codeIn K cd11 "_law_cell_at" = true) (k11 : PySem.W.keepIn K (.ref f11) = true)
    (a12 : PySem.W.nsIn K mainGlobals "_law_mixed" = some (some (.ref f12)))
    (l12 : K.lookup f12 = some ⟨oc12, od12, .func (PySem.W.fnOf "_law_mixed" "_law_mixed" (defArgs s_l_law_mixed) (defBody s_l_law_mixed) (defScope s_l_law_mixed) .none kV12 dc12 pm12 an12 cd12 ct12), sl12⟩)
    (c12 : PySem.W.codeIn K cd12 "_law_mixed" = true) (k12 : PySem.W.keepIn K (.ref f12) = true)
    (a13 : PySem.W.nsIn K mainGlobals "_law_drawn" = some (some (.ref f13)))
    (l13 : K.lookup f13 = some ⟨oc13, od13, .func (PySem.W.fnOf "_law_drawn" "_law_drawn" (defArgs s_l_law_drawn) (defBody s_l_law_drawn) (defScope s_l_law_drawn) .none kV13 dc13 pm13 an13 cd13 ct13), sl13⟩)
    (c13 : PySem.W.codeIn K cd13 "_law_drawn" = true) (k13 : PySem.W.keepIn K (.ref f13) = true)
    (a14 : PySem.W.nsIn K mainGlobals "_law_sum" = some (some (.ref f14)))
    (l14 : K.lookup f14 = some ⟨oc14, od14, .func (PySem.W.fnOf "_law_sum" "_law_sum" (defArgs s_l_law_sum) (defBody s_l_law_sum) (defScope s_l_law_sum) .none kV14 dc14 pm14 an14 cd14 ct14), sl14⟩)
    (c14 : PySem.W.codeIn K cd14 "_law_sum" = true) (k14 : PySem.W.keepIn K (.ref f14) = true)
    (a15 : PySem.W.nsIn K mainGlobals "_law_try" = some (some (.ref f15)))
    (l15 : K.lookup f15 = some ⟨oc15, od15, .func (PySem.W.fnOf "_law_try" "_law_try" (defArgs s_l_law_try) (defBody s_l_law_try) (defScope s_l_law_try) .none kV15 dc15 pm15 an15 cd15 ct15), sl15⟩)
    (c15 : PySem.W.codeIn K cd15 "_law_try" = true) (k15 : PySem.W.keepIn K (.ref f15) = true)
    (a16 : PySem.W.nsIn K mainGlobals "_law_deed" = some (some (.ref f16)))
    (l16 : K.lookup f16 = some ⟨oc16, od16, .func (PySem.W.fnOf "_law_deed" "_law_deed" (defArgs s_l_law_deed) (defBody s_l_law_deed) (defScope s_l_law_deed) .none kV16 dc16 pm16 an16 cd16 ct16), sl16⟩)
    (c16 : PySem.W.codeIn K cd16 "_law_deed" = true) (k16 : PySem.W.keepIn K (.ref f16) = true)
    (a17 : PySem.W.nsIn K mainGlobals "_law_block" = some (some (.ref f17)))
    (l17 : K.lookup f17 = some ⟨oc17, od17, .func (PySem.W.fnOf "_law_block" "_law_block" (defArgs s_l_law_block) (defBody s_l_law_block) (defScope s_l_law_block) .none kV17 dc17 pm17 an17 cd17 ct17), sl17⟩)
    (c17 : PySem.W.codeIn K cd17 "_law_block" = true) (k17 : PySem.W.keepIn K (.ref f17) = true)
    (a18 : PySem.W.nsIn K mainGlobals "_law_book" = some (some (.ref f18)))
    (l18 : K.lookup f18 = some ⟨oc18, od18, .func (PySem.W.fnOf "_law_book" "_law_book" (defArgs s_l_law_book) (defBody s_l_law_book) (defScope s_l_law_book) .none kV18 dc18 pm18 an18 cd18 ct18), sl18⟩)
    (c18 : PySem.W.codeIn K cd18 "_law_book" = true) (k18 : PySem.W.keepIn K (.ref f18) = true)
    (a19 : PySem.W.nsIn K mainGlobals "_law_both" = some (some (.ref f19)))
    (l19 : K.lookup f19 = some ⟨oc19, od19, .func (PySem.W.fnOf "_law_both" "_law_both" (defArgs s_l_law_both) (defBody s_l_law_both) (defScope s_l_law_both) .none kV19 dc19 pm19 an19 cd19 ct19), sl19⟩)
    (c19 : PySem.W.codeIn K cd19 "_law_both" = true) (k19 : PySem.W.keepIn K (.ref f19) = true)
    (a20 : PySem.W.nsIn K mainGlobals "_law_may" = some (some (.ref f20)))
    (l20 : K.lookup f20 = some ⟨oc20, od20, .func (PySem.W.fnOf "_law_may" "_law_may" (defArgs s_l_law_may) (defBody s_l_law_may) (defScope s_l_law_may) .none kV20 dc20 pm20 an20 cd20 ct20), sl20⟩)
    (c20 : PySem.W.codeIn K cd20 "_law_may" = true) (k20 : PySem.W.keepIn K (.ref f20) = true)
    (a21 : PySem.W.nsIn K mainGlobals "_law_ways" = some (some (.ref f21)))
    (l21 : K.lookup f21 = some ⟨oc21, od21, .func (PySem.W.fnOf "_law_ways" "_law_ways" (defArgs s_l_law_ways) (defBody s_l_law_ways) (defScope s_l_law_ways) .none kV21 dc21 pm21 an21 cd21 ct21), sl21⟩)
    (c21 : PySem.W.codeIn K cd21 "_law_ways" = true) (k21 : PySem.W.keepIn K (.ref f21) = true)
    (a22 : PySem.W.nsIn K mainGlobals "_law_try_ways" = some (some (.ref f22)))
    (l22 : K.lookup f22 = some ⟨oc22, od22, .func (PySem.W.fnOf "_law_try_ways" "_law_try_ways" (defArgs s_l_law_try_ways) (defBody s_l_law_try_ways) (defScope s_l_law_try_ways) .none kV22 dc22 pm22 an22 cd22 ct22), sl22⟩)
    (c22 : PySem.W.codeIn K cd22 "_law_try_ways" = true) (k22 : PySem.W.keepIn K (.ref f22) = true)
    (a23 : PySem.W.nsIn K mainGlobals "_law_makers_may" = some (some (.ref f23)))
    (l23 : K.lookup f23 = some ⟨oc23, od23, .func (PySem.W.fnOf "_law_makers_may" "_law_makers_may" (defArgs s_l_law_makers_may) (defBody s_l_law_makers_may) (defScope s_l_law_makers_may) .none kV23 dc23 pm23 an23 cd23 ct23), sl23⟩)
    (c23 : PySem.W.codeIn K cd23 "_law_makers_may" = true) (k23 : PySem.W.keepIn K (.ref f23) = true)
    (a24 : PySem.W.nsIn K mainGlobals "_law_from" = some (some (.ref f24)))
    (l24 : K.lookup f24 = some ⟨oc24, od24, .func (PySem.W.fnOf "_law_from" "_law_from" (defArgs s_l_law_from) (defBody s_l_law_from) (defScope s_l_law_from) .none kV24 dc24 pm24 an24 cd24 ct24), sl24⟩)
    (c24 : PySem.W.codeIn K cd24 "_law_from" = true) (k24 : PySem.W.keepIn K (.ref f24) = true)
    (a25 : PySem.W.nsIn K mainGlobals "law" = some (some (.ref f25)))
    (l25 : K.lookup f25 = some ⟨oc25, od25, .func (PySem.W.fnOf "law" "law" (defArgs s_law_k80) (defBody s_law_k80) (defScope s_law_k80) .none kV25 dc25 pm25 an25 cd25 ct25), sl25⟩)
    (c25 : PySem.W.codeIn K cd25 "law" = true) (k25 : PySem.W.keepIn K (.ref f25) = true)
    (z0 : PySem.W.nsIn K mainGlobals "dict" = some none)
    (z1 : PySem.W.nsIn K mainGlobals "enumerate" = some none)
    (z2 : PySem.W.nsIn K mainGlobals "len" = some none)
    (z3 : PySem.W.nsIn K mainGlobals "range" = some none)
    (z4 : PySem.W.nsIn K mainGlobals "set" = some none)
    (z5 : PySem.W.nsIn K mainGlobals "sorted" = some none)
    (z6 : PySem.W.nsIn K mainGlobals "tuple" = some none)
    (gk0 : PySem.W.nsIn K mainGlobals "GOES" = some (some (.ref ga0))) (hk0 : K.lookup ga0 = some ⟨.type "tuple", none, .seq (List.toArray [.bool true, .bool false, .ref ga0_2]) gn0, gs0⟩)
    (hk0_2 : K.lookup ga0_2 = some ⟨.type "tuple", go0_2, .seq (List.toArray []) gn0_2, gs0_2⟩)
    (gk1 : PySem.W.nsIn K mainGlobals "SORTS" = some (some (.ref ga1))) (hk1 : K.lookup ga1 = some ⟨.type "tuple", none, .seq (List.toArray [.str "red" t1_0, .str "green" t1_1, .str "blue" t1_2]) gn1, gs1⟩)
    (gk2 : PySem.W.nsIn K mainGlobals "THROW" = some (some (.str "throw" t2)))
    : ∃ CA FA FD, PF G K mg CA FA FD ∧ FA 0 = fa ∧ ∀ (s : Shared) (u : Value), BindsTo s (FD 0) ⟨[u], []⟩ [("script", u)] := by
  have e : f25 = fa := by have e := hfa.symm.trans (PySem.W.mg_of X hG a25); simp only [Option.some.injEq, Value.ref.injEq] at e; exact e.symm
  rw [← e]; clear hfa e
  generalize hCA : caOf (fun c => ([][c]?).getD 0) = CA
  have F0 := fun_mk (st := s_p_maker_of) l0 c0 k0
  have b0 := F0.binds (ps := f_p_maker_of.ps) fun _ _ _ _ _ _ us hl => match us, hl with | [_, _], _ => rfl
  have o0 : Ok1 G K mg CA f_p_maker_of _ _ := ⟨⟨_, _, _, F0, c_p_maker_of, m_p_maker_of, fun j k z => nomatch z⟩, b0, fun _ => PySem.W.mg_of X hG a0⟩
  have F1 := fun_mk (st := s_p_merged) l1 c1 k1
  have b1 := F1.binds (ps := f_p_merged.ps) fun _ _ _ _ _ _ us hl => match us, hl with | [_, _], _ => rfl
  have o1 : Ok1 G K mg CA f_p_merged _ _ := ⟨⟨_, _, _, F1, c_p_merged, m_p_merged, fun j k z => nomatch z⟩, b1, fun _ => PySem.W.mg_of X hG a1⟩
  have F2 := fun_mk (st := s_p_joined) l2 c2 k2
  have b2 := F2.binds (ps := f_p_joined.ps) fun _ _ _ _ _ _ us hl => match us, hl with | [_, _], _ => rfl
  have o2 : Ok1 G K mg CA f_p_joined _ _ := ⟨⟨_, _, _, F2, c_p_joined, m_p_joined, fun j k z => nomatch z⟩, b2, fun _ => PySem.W.mg_of X hG a2⟩
  have F3 := fun_mk (st := s_p_of_try) l3 c3 k3
  have b3 := F3.binds (ps := f_p_of_try.ps) fun _ _ _ _ _ _ us hl => match us, hl with | [_, _], _ => rfl
  have o3 : Ok1 G K mg CA f_p_of_try _ _ := ⟨⟨_, _, _, F3, c_p_of_try, m_p_of_try, fun j k z => nomatch z⟩, b3, fun _ => PySem.W.mg_of X hG a3⟩
  have F4 := fun_mk (st := s_p_of_deed) l4 c4 k4
  have b4 := F4.binds (ps := f_p_of_deed.ps) fun _ _ _ _ _ _ us hl => match us, hl with | [_, _], _ => rfl
  have o4 : Ok1 G K mg CA f_p_of_deed _ _ := ⟨⟨_, _, _, F4, c_p_of_deed, m_p_of_deed, fun j k z => nomatch z⟩, b4, fun _ => PySem.W.mg_of X hG a4⟩
  have F5 := fun_mk (st := s_p_of_block) l5 c5 k5
  have b5 := F5.binds (ps := f_p_of_block.ps) fun _ _ _ _ _ _ us hl => match us, hl with | [_, _], _ => rfl
  have o5 : Ok1 G K mg CA f_p_of_block _ _ := ⟨⟨_, _, _, F5, c_p_of_block, m_p_of_block, fun j k z => nomatch z⟩, b5, fun _ => PySem.W.mg_of X hG a5⟩
  have F6 := fun_mk (st := s_p_of_makers) l6 c6 k6
  have b6 := F6.binds (ps := f_p_of_makers.ps) fun _ _ _ _ _ _ us hl => match us, hl with | [_], _ => rfl
  have o6 : Ok1 G K mg CA f_p_of_makers _ _ := ⟨⟨_, _, _, F6, c_p_of_makers, m_p_of_makers, fun j k z => nomatch z⟩, b6, fun _ => PySem.W.mg_of X hG a6⟩
  have F7 := fun_mk (st := s_p_from_try) l7 c7 k7
  have b7 := F7.binds (ps := f_p_from_try.ps) fun _ _ _ _ _ _ us hl => match us, hl with | [_, _], _ => rfl
  have o7 : Ok1 G K mg CA f_p_from_try _ _ := ⟨⟨_, _, _, F7, c_p_from_try, m_p_from_try, fun j k z => nomatch z⟩, b7, fun _ => PySem.W.mg_of X hG a7⟩
  have F8 := fun_mk (st := s_p_from_deed) l8 c8 k8
  have b8 := F8.binds (ps := f_p_from_deed.ps) fun _ _ _ _ _ _ us hl => match us, hl with | [_, _], _ => rfl
  have o8 : Ok1 G K mg CA f_p_from_deed _ _ := ⟨⟨_, _, _, F8, c_p_from_deed, m_p_from_deed, fun j k z => nomatch z⟩, b8, fun _ => PySem.W.mg_of X hG a8⟩
  have F9 := fun_mk (st := s_p_from_block) l9 c9 k9
  have b9 := F9.binds (ps := f_p_from_block.ps) fun _ _ _ _ _ _ us hl => match us, hl with | [_, _], _ => rfl
  have o9 : Ok1 G K mg CA f_p_from_block _ _ := ⟨⟨_, _, _, F9, c_p_from_block, m_p_from_block, fun j k z => nomatch z⟩, b9, fun _ => PySem.W.mg_of X hG a9⟩
  have F10 := fun_mk (st := s_p_sources) l10 c10 k10
  have b10 := F10.binds (ps := f_p_sources.ps) fun _ _ _ _ _ _ us hl => match us, hl with | [_, _], _ => rfl
  have o10 : Ok1 G K mg CA f_p_sources _ _ := ⟨⟨_, _, _, F10, c_p_sources, m_p_sources, fun j k z => nomatch z⟩, b10, fun _ => PySem.W.mg_of X hG a10⟩
  have F11 := fun_mk (st := s_l_law_cell_at) l11 c11 k11
  have b11 := F11.binds (ps := f_l_law_cell_at.ps) fun _ _ _ _ _ _ us hl => match us, hl with | [_, _], _ => rfl
  have o11 : Ok1 G K mg CA f_l_law_cell_at _ _ := ⟨⟨_, _, _, F11, c_l_law_cell_at, m_l_law_cell_at, fun j k z => nomatch z⟩, b11, fun _ => PySem.W.mg_of X hG a11⟩
  have F12 := fun_mk (st := s_l_law_mixed) l12 c12 k12
  have b12 := F12.binds (ps := f_l_law_mixed.ps) fun _ _ _ _ _ _ us hl => match us, hl with | [_, _], _ => rfl
  have o12 : Ok1 G K mg CA f_l_law_mixed _ _ := ⟨⟨_, _, _, F12, c_l_law_mixed, m_l_law_mixed, fun j k z => nomatch z⟩, b12, fun _ => PySem.W.mg_of X hG a12⟩
  have F13 := fun_mk (st := s_l_law_drawn) l13 c13 k13
  have b13 := F13.binds (ps := f_l_law_drawn.ps) fun _ _ _ _ _ _ us hl => match us, hl with | [_, _], _ => rfl
  have o13 : Ok1 G K mg CA f_l_law_drawn _ _ := ⟨⟨_, _, _, F13, c_l_law_drawn, m_l_law_drawn, fun j k z => nomatch z⟩, b13, fun _ => PySem.W.mg_of X hG a13⟩
  have F14 := fun_mk (st := s_l_law_sum) l14 c14 k14
  have b14 := F14.binds (ps := f_l_law_sum.ps) fun _ _ _ _ _ _ us hl => match us, hl with | [_, _], _ => rfl
  have o14 : Ok1 G K mg CA f_l_law_sum _ _ := ⟨⟨_, _, _, F14, c_l_law_sum, m_l_law_sum, fun j k z => nomatch z⟩, b14, fun _ => PySem.W.mg_of X hG a14⟩
  have F15 := fun_mk (st := s_l_law_try) l15 c15 k15
  have b15 := F15.binds (ps := f_l_law_try.ps) fun _ _ _ _ _ _ us hl => match us, hl with | [_, _, _], _ => rfl
  have o15 : Ok1 G K mg CA f_l_law_try _ _ := ⟨⟨_, _, _, F15, c_l_law_try, m_l_law_try, fun j k z => nomatch z⟩, b15, fun _ => PySem.W.mg_of X hG a15⟩
  have F16 := fun_mk (st := s_l_law_deed) l16 c16 k16
  have b16 := F16.binds (ps := f_l_law_deed.ps) fun _ _ _ _ _ _ us hl => match us, hl with | [_, _, _], _ => rfl
  have o16 : Ok1 G K mg CA f_l_law_deed _ _ := ⟨⟨_, _, _, F16, c_l_law_deed, m_l_law_deed, fun j k z => nomatch z⟩, b16, fun _ => PySem.W.mg_of X hG a16⟩
  have F17 := fun_mk (st := s_l_law_block) l17 c17 k17
  have b17 := F17.binds (ps := f_l_law_block.ps) fun _ _ _ _ _ _ us hl => match us, hl with | [_, _, _], _ => rfl
  have o17 : Ok1 G K mg CA f_l_law_block _ _ := ⟨⟨_, _, _, F17, c_l_law_block, m_l_law_block, fun j k z => nomatch z⟩, b17, fun _ => PySem.W.mg_of X hG a17⟩
  have F18 := fun_mk (st := s_l_law_book) l18 c18 k18
  have b18 := F18.binds (ps := f_l_law_book.ps) fun _ _ _ _ _ _ us hl => match us, hl with | [_], _ => rfl
  have o18 : Ok1 G K mg CA f_l_law_book _ _ := ⟨⟨_, _, _, F18, c_l_law_book, m_l_law_book, fun j k z => nomatch z⟩, b18, fun _ => PySem.W.mg_of X hG a18⟩
  have F19 := fun_mk (st := s_l_law_both) l19 c19 k19
  have b19 := F19.binds (ps := f_l_law_both.ps) fun _ _ _ _ _ _ us hl => match us, hl with | [_, _], _ => rfl
  have o19 : Ok1 G K mg CA f_l_law_both _ _ := ⟨⟨_, _, _, F19, c_l_law_both, m_l_law_both, fun j k z => nomatch z⟩, b19, fun _ => PySem.W.mg_of X hG a19⟩
  have F20 := fun_mk (st := s_l_law_may) l20 c20 k20
  have b20 := F20.binds (ps := f_l_law_may.ps) fun _ _ _ _ _ _ us hl => match us, hl with | [_, _], _ => rfl
  have o20 : Ok1 G K mg CA f_l_law_may _ _ := ⟨⟨_, _, _, F20, c_l_law_may, m_l_law_may, fun j k z => nomatch z⟩, b20, fun _ => PySem.W.mg_of X hG a20⟩
  have F21 := fun_mk (st := s_l_law_ways) l21 c21 k21
  have b21 := F21.binds (ps := f_l_law_ways.ps) fun _ _ _ _ _ _ us hl => match us, hl with | [_, _], _ => rfl
  have o21 : Ok1 G K mg CA f_l_law_ways _ _ := ⟨⟨_, _, _, F21, c_l_law_ways, m_l_law_ways, fun j k z => nomatch z⟩, b21, fun _ => PySem.W.mg_of X hG a21⟩
  have F22 := fun_mk (st := s_l_law_try_ways) l22 c22 k22
  have b22 := F22.binds (ps := f_l_law_try_ways.ps) fun _ _ _ _ _ _ us hl => match us, hl with | [_, _], _ => rfl
  have o22 : Ok1 G K mg CA f_l_law_try_ways _ _ := ⟨⟨_, _, _, F22, c_l_law_try_ways, m_l_law_try_ways, fun j k z => nomatch z⟩, b22, fun _ => PySem.W.mg_of X hG a22⟩
  have F23 := fun_mk (st := s_l_law_makers_may) l23 c23 k23
  have b23 := F23.binds (ps := f_l_law_makers_may.ps) fun _ _ _ _ _ _ us hl => match us, hl with | [_], _ => rfl
  have o23 : Ok1 G K mg CA f_l_law_makers_may _ _ := ⟨⟨_, _, _, F23, c_l_law_makers_may, m_l_law_makers_may, fun j k z => nomatch z⟩, b23, fun _ => PySem.W.mg_of X hG a23⟩
  have F24 := fun_mk (st := s_l_law_from) l24 c24 k24
  have b24 := F24.binds (ps := f_l_law_from.ps) fun _ _ _ _ _ _ us hl => match us, hl with | [_, _], _ => rfl
  have o24 : Ok1 G K mg CA f_l_law_from _ _ := ⟨⟨_, _, _, F24, c_l_law_from, m_l_law_from, fun j k z => nomatch z⟩, b24, fun _ => PySem.W.mg_of X hG a24⟩
  have F25 := fun_mk (st := s_law_k80) l25 c25 k25
  have b25 := F25.binds (ps := f_law_k80.ps) fun _ _ _ _ _ _ us hl => match us, hl with | [_], _ => rfl
  have o25 : Ok1 G K mg CA f_law_k80 _ _ := ⟨⟨_, _, _, F25, c_law_k80, m_law_k80, fun j k z => nomatch z⟩, b25, fun _ => PySem.W.mg_of X hG a25⟩
  have hbl : ∀ (s : Shared) (u : Value), BindsTo s (PySem.W.fnOf "law" "law" (defArgs s_law_k80) (defBody s_law_k80) (defScope s_law_k80) .none kV25 dc25 pm25 an25 cd25 ct25) ⟨[u], []⟩ [("script", u)] := fun s u => .of_eq rfl
  refine ⟨CA, _, _, pfOf [(f_law_k80, f25, PySem.W.fnOf "law" "law" (defArgs s_law_k80) (defBody s_law_k80) (defScope s_law_k80) .none kV25 dc25 pm25 an25 cd25 ct25), (f_l_law_cell_at, f11, PySem.W.fnOf "_law_cell_at" "_law_cell_at" (defArgs s_l_law_cell_at) (defBody s_l_law_cell_at) (defScope s_l_law_cell_at) .none kV11 dc11 pm11 an11 cd11 ct11), (f_l_law_mixed, f12, PySem.W.fnOf "_law_mixed" "_law_mixed" (defArgs s_l_law_mixed) (defBody s_l_law_mixed) (defScope s_l_law_mixed) .none kV12 dc12 pm12 an12 cd12 ct12), (f_l_law_drawn, f13, PySem.W.fnOf "_law_drawn" "_law_drawn" (defArgs s_l_law_drawn) (defBody s_l_law_drawn) (defScope s_l_law_drawn) .none kV13 dc13 pm13 an13 cd13 ct13), (f_l_law_sum, f14, PySem.W.fnOf "_law_sum" "_law_sum" (defArgs s_l_law_sum) (defBody s_l_law_sum) (defScope s_l_law_sum) .none kV14 dc14 pm14 an14 cd14 ct14), (f_l_law_try, f15, PySem.W.fnOf "_law_try" "_law_try" (defArgs s_l_law_try) (defBody s_l_law_try) (defScope s_l_law_try) .none kV15 dc15 pm15 an15 cd15 ct15), (f_l_law_deed, f16, PySem.W.fnOf "_law_deed" "_law_deed" (defArgs s_l_law_deed) (defBody s_l_law_deed) (defScope s_l_law_deed) .none kV16 dc16 pm16 an16 cd16 ct16), (f_l_law_block, f17, PySem.W.fnOf "_law_block" "_law_block" (defArgs s_l_law_block) (defBody s_l_law_block) (defScope s_l_law_block) .none kV17 dc17 pm17 an17 cd17 ct17), (f_l_law_book, f18, PySem.W.fnOf "_law_book" "_law_book" (defArgs s_l_law_book) (defBody s_l_law_book) (defScope s_l_law_book) .none kV18 dc18 pm18 an18 cd18 ct18), (f_l_law_cell_at, f11, PySem.W.fnOf "_law_cell_at" "_law_cell_at" (defArgs s_l_law_cell_at) (defBody s_l_law_cell_at) (defScope s_l_law_cell_at) .none kV11 dc11 pm11 an11 cd11 ct11), (f_l_law_cell_at, f11, PySem.W.fnOf "_law_cell_at" "_law_cell_at" (defArgs s_l_law_cell_at) (defBody s_l_law_cell_at) (defScope s_l_law_cell_at) .none kV11 dc11 pm11 an11 cd11 ct11), (f_l_law_cell_at, f11, PySem.W.fnOf "_law_cell_at" "_law_cell_at" (defArgs s_l_law_cell_at) (defBody s_l_law_cell_at) (defScope s_l_law_cell_at) .none kV11 dc11 pm11 an11 cd11 ct11), (f_l_law_cell_at, f11, PySem.W.fnOf "_law_cell_at" "_law_cell_at" (defArgs s_l_law_cell_at) (defBody s_l_law_cell_at) (defScope s_l_law_cell_at) .none kV11 dc11 pm11 an11 cd11 ct11), (f_l_law_cell_at, f11, PySem.W.fnOf "_law_cell_at" "_law_cell_at" (defArgs s_l_law_cell_at) (defBody s_l_law_cell_at) (defScope s_l_law_cell_at) .none kV11 dc11 pm11 an11 cd11 ct11), (f_l_law_cell_at, f11, PySem.W.fnOf "_law_cell_at" "_law_cell_at" (defArgs s_l_law_cell_at) (defBody s_l_law_cell_at) (defScope s_l_law_cell_at) .none kV11 dc11 pm11 an11 cd11 ct11), (f_l_law_cell_at, f11, PySem.W.fnOf "_law_cell_at" "_law_cell_at" (defArgs s_l_law_cell_at) (defBody s_l_law_cell_at) (defScope s_l_law_cell_at) .none kV11 dc11 pm11 an11 cd11 ct11), (f_l_law_cell_at, f11, PySem.W.fnOf "_law_cell_at" "_law_cell_at" (defArgs s_l_law_cell_at) (defBody s_l_law_cell_at) (defScope s_l_law_cell_at) .none kV11 dc11 pm11 an11 cd11 ct11), (f_l_law_cell_at, f11, PySem.W.fnOf "_law_cell_at" "_law_cell_at" (defArgs s_l_law_cell_at) (defBody s_l_law_cell_at) (defScope s_l_law_cell_at) .none kV11 dc11 pm11 an11 cd11 ct11), (f_l_law_cell_at, f11, PySem.W.fnOf "_law_cell_at" "_law_cell_at" (defArgs s_l_law_cell_at) (defBody s_l_law_cell_at) (defScope s_l_law_cell_at) .none kV11 dc11 pm11 an11 cd11 ct11), (f_l_law_cell_at, f11, PySem.W.fnOf "_law_cell_at" "_law_cell_at" (defArgs s_l_law_cell_at) (defBody s_l_law_cell_at) (defScope s_l_law_cell_at) .none kV11 dc11 pm11 an11 cd11 ct11), (f_l_law_cell_at, f11, PySem.W.fnOf "_law_cell_at" "_law_cell_at" (defArgs s_l_law_cell_at) (defBody s_l_law_cell_at) (defScope s_l_law_cell_at) .none kV11 dc11 pm11 an11 cd11 ct11), (f_l_law_cell_at, f11, PySem.W.fnOf "_law_cell_at" "_law_cell_at" (defArgs s_l_law_cell_at) (defBody s_l_law_cell_at) (defScope s_l_law_cell_at) .none kV11 dc11 pm11 an11 cd11 ct11), (f_l_law_cell_at, f11, PySem.W.fnOf "_law_cell_at" "_law_cell_at" (defArgs s_l_law_cell_at) (defBody s_l_law_cell_at) (defScope s_l_law_cell_at) .none kV11 dc11 pm11 an11 cd11 ct11), (f_l_law_cell_at, f11, PySem.W.fnOf "_law_cell_at" "_law_cell_at" (defArgs s_l_law_cell_at) (defBody s_l_law_cell_at) (defScope s_l_law_cell_at) .none kV11 dc11 pm11 an11 cd11 ct11), (f_l_law_cell_at, f11, PySem.W.fnOf "_law_cell_at" "_law_cell_at" (defArgs s_l_law_cell_at) (defBody s_l_law_cell_at) (defScope s_l_law_cell_at) .none kV11 dc11 pm11 an11 cd11 ct11), (f_l_law_cell_at, f11, PySem.W.fnOf "_law_cell_at" "_law_cell_at" (defArgs s_l_law_cell_at) (defBody s_l_law_cell_at) (defScope s_l_law_cell_at) .none kV11 dc11 pm11 an11 cd11 ct11), (f_l_law_cell_at, f11, PySem.W.fnOf "_law_cell_at" "_law_cell_at" (defArgs s_l_law_cell_at) (defBody s_l_law_cell_at) (defScope s_l_law_cell_at) .none kV11 dc11 pm11 an11 cd11 ct11), (f_l_law_cell_at, f11, PySem.W.fnOf "_law_cell_at" "_law_cell_at" (defArgs s_l_law_cell_at) (defBody s_l_law_cell_at) (defScope s_l_law_cell_at) .none kV11 dc11 pm11 an11 cd11 ct11), (f_l_law_cell_at, f11, PySem.W.fnOf "_law_cell_at" "_law_cell_at" (defArgs s_l_law_cell_at) (defBody s_l_law_cell_at) (defScope s_l_law_cell_at) .none kV11 dc11 pm11 an11 cd11 ct11), (f_l_law_cell_at, f11, PySem.W.fnOf "_law_cell_at" "_law_cell_at" (defArgs s_l_law_cell_at) (defBody s_l_law_cell_at) (defScope s_l_law_cell_at) .none kV11 dc11 pm11 an11 cd11 ct11), (f_l_law_cell_at, f11, PySem.W.fnOf "_law_cell_at" "_law_cell_at" (defArgs s_l_law_cell_at) (defBody s_l_law_cell_at) (defScope s_l_law_cell_at) .none kV11 dc11 pm11 an11 cd11 ct11), (f_l_law_cell_at, f11, PySem.W.fnOf "_law_cell_at" "_law_cell_at" (defArgs s_l_law_cell_at) (defBody s_l_law_cell_at) (defScope s_l_law_cell_at) .none kV11 dc11 pm11 an11 cd11 ct11), (f_l_law_cell_at, f11, PySem.W.fnOf "_law_cell_at" "_law_cell_at" (defArgs s_l_law_cell_at) (defBody s_l_law_cell_at) (defScope s_l_law_cell_at) .none kV11 dc11 pm11 an11 cd11 ct11), (f_l_law_cell_at, f11, PySem.W.fnOf "_law_cell_at" "_law_cell_at" (defArgs s_l_law_cell_at) (defBody s_l_law_cell_at) (defScope s_l_law_cell_at) .none kV11 dc11 pm11 an11 cd11 ct11), (f_l_law_cell_at, f11, PySem.W.fnOf "_law_cell_at" "_law_cell_at" (defArgs s_l_law_cell_at) (defBody s_l_law_cell_at) (defScope s_l_law_cell_at) .none kV11 dc11 pm11 an11 cd11 ct11), (f_l_law_cell_at, f11, PySem.W.fnOf "_law_cell_at" "_law_cell_at" (defArgs s_l_law_cell_at) (defBody s_l_law_cell_at) (defScope s_l_law_cell_at) .none kV11 dc11 pm11 an11 cd11 ct11), (f_l_law_cell_at, f11, PySem.W.fnOf "_law_cell_at" "_law_cell_at" (defArgs s_l_law_cell_at) (defBody s_l_law_cell_at) (defScope s_l_law_cell_at) .none kV11 dc11 pm11 an11 cd11 ct11), (f_l_law_cell_at, f11, PySem.W.fnOf "_law_cell_at" "_law_cell_at" (defArgs s_l_law_cell_at) (defBody s_l_law_cell_at) (defScope s_l_law_cell_at) .none kV11 dc11 pm11 an11 cd11 ct11), (f_l_law_cell_at, f11, PySem.W.fnOf "_law_cell_at" "_law_cell_at" (defArgs s_l_law_cell_at) (defBody s_l_law_cell_at) (defScope s_l_law_cell_at) .none kV11 dc11 pm11 an11 cd11 ct11), (f_l_law_cell_at, f11, PySem.W.fnOf "_law_cell_at" "_law_cell_at" (defArgs s_l_law_cell_at) (defBody s_l_law_cell_at) (defScope s_l_law_cell_at) .none kV11 dc11 pm11 an11 cd11 ct11), (f_l_law_cell_at, f11, PySem.W.fnOf "_law_cell_at" "_law_cell_at" (defArgs s_l_law_cell_at) (defBody s_l_law_cell_at) (defScope s_l_law_cell_at) .none kV11 dc11 pm11 an11 cd11 ct11), (f_l_law_cell_at, f11, PySem.W.fnOf "_law_cell_at" "_law_cell_at" (defArgs s_l_law_cell_at) (defBody s_l_law_cell_at) (defScope s_l_law_cell_at) .none kV11 dc11 pm11 an11 cd11 ct11), (f_l_law_cell_at, f11, PySem.W.fnOf "_law_cell_at" "_law_cell_at" (defArgs s_l_law_cell_at) (defBody s_l_law_cell_at) (defScope s_l_law_cell_at) .none kV11 dc11 pm11 an11 cd11 ct11), (f_l_law_cell_at, f11, PySem.W.fnOf "_law_cell_at" "_law_cell_at" (defArgs s_l_law_cell_at) (defBody s_l_law_cell_at) (defScope s_l_law_cell_at) .none kV11 dc11 pm11 an11 cd11 ct11), (f_l_law_cell_at, f11, PySem.W.fnOf "_law_cell_at" "_law_cell_at" (defArgs s_l_law_cell_at) (defBody s_l_law_cell_at) (defScope s_l_law_cell_at) .none kV11 dc11 pm11 an11 cd11 ct11), (f_l_law_cell_at, f11, PySem.W.fnOf "_law_cell_at" "_law_cell_at" (defArgs s_l_law_cell_at) (defBody s_l_law_cell_at) (defScope s_l_law_cell_at) .none kV11 dc11 pm11 an11 cd11 ct11), (f_l_law_cell_at, f11, PySem.W.fnOf "_law_cell_at" "_law_cell_at" (defArgs s_l_law_cell_at) (defBody s_l_law_cell_at) (defScope s_l_law_cell_at) .none kV11 dc11 pm11 an11 cd11 ct11), (f_l_law_cell_at, f11, PySem.W.fnOf "_law_cell_at" "_law_cell_at" (defArgs s_l_law_cell_at) (defBody s_l_law_cell_at) (defScope s_l_law_cell_at) .none kV11 dc11 pm11 an11 cd11 ct11), (f_l_law_cell_at, f11, PySem.W.fnOf "_law_cell_at" "_law_cell_at" (defArgs s_l_law_cell_at) (defBody s_l_law_cell_at) (defScope s_l_law_cell_at) .none kV11 dc11 pm11 an11 cd11 ct11), (f_l_law_cell_at, f11, PySem.W.fnOf "_law_cell_at" "_law_cell_at" (defArgs s_l_law_cell_at) (defBody s_l_law_cell_at) (defScope s_l_law_cell_at) .none kV11 dc11 pm11 an11 cd11 ct11), (f_l_law_cell_at, f11, PySem.W.fnOf "_law_cell_at" "_law_cell_at" (defArgs s_l_law_cell_at) (defBody s_l_law_cell_at) (defScope s_l_law_cell_at) .none kV11 dc11 pm11 an11 cd11 ct11), (f_l_law_cell_at, f11, PySem.W.fnOf "_law_cell_at" "_law_cell_at" (defArgs s_l_law_cell_at) (defBody s_l_law_cell_at) (defScope s_l_law_cell_at) .none kV11 dc11 pm11 an11 cd11 ct11), (f_l_law_cell_at, f11, PySem.W.fnOf "_law_cell_at" "_law_cell_at" (defArgs s_l_law_cell_at) (defBody s_l_law_cell_at) (defScope s_l_law_cell_at) .none kV11 dc11 pm11 an11 cd11 ct11), (f_l_law_cell_at, f11, PySem.W.fnOf "_law_cell_at" "_law_cell_at" (defArgs s_l_law_cell_at) (defBody s_l_law_cell_at) (defScope s_l_law_cell_at) .none kV11 dc11 pm11 an11 cd11 ct11), (f_l_law_cell_at, f11, PySem.W.fnOf "_law_cell_at" "_law_cell_at" (defArgs s_l_law_cell_at) (defBody s_l_law_cell_at) (defScope s_l_law_cell_at) .none kV11 dc11 pm11 an11 cd11 ct11), (f_l_law_cell_at, f11, PySem.W.fnOf "_law_cell_at" "_law_cell_at" (defArgs s_l_law_cell_at) (defBody s_l_law_cell_at) (defScope s_l_law_cell_at) .none kV11 dc11 pm11 an11 cd11 ct11), (f_l_law_cell_at, f11, PySem.W.fnOf "_law_cell_at" "_law_cell_at" (defArgs s_l_law_cell_at) (defBody s_l_law_cell_at) (defScope s_l_law_cell_at) .none kV11 dc11 pm11 an11 cd11 ct11), (f_l_law_cell_at, f11, PySem.W.fnOf "_law_cell_at" "_law_cell_at" (defArgs s_l_law_cell_at) (defBody s_l_law_cell_at) (defScope s_l_law_cell_at) .none kV11 dc11 pm11 an11 cd11 ct11), (f_l_law_cell_at, f11, PySem.W.fnOf "_law_cell_at" "_law_cell_at" (defArgs s_l_law_cell_at) (defBody s_l_law_cell_at) (defScope s_l_law_cell_at) .none kV11 dc11 pm11 an11 cd11 ct11), (f_l_law_cell_at, f11, PySem.W.fnOf "_law_cell_at" "_law_cell_at" (defArgs s_l_law_cell_at) (defBody s_l_law_cell_at) (defScope s_l_law_cell_at) .none kV11 dc11 pm11 an11 cd11 ct11), (f_l_law_cell_at, f11, PySem.W.fnOf "_law_cell_at" "_law_cell_at" (defArgs s_l_law_cell_at) (defBody s_l_law_cell_at) (defScope s_l_law_cell_at) .none kV11 dc11 pm11 an11 cd11 ct11), (f_l_law_cell_at, f11, PySem.W.fnOf "_law_cell_at" "_law_cell_at" (defArgs s_l_law_cell_at) (defBody s_l_law_cell_at) (defScope s_l_law_cell_at) .none kV11 dc11 pm11 an11 cd11 ct11), (f_l_law_cell_at, f11, PySem.W.fnOf "_law_cell_at" "_law_cell_at" (defArgs s_l_law_cell_at) (defBody s_l_law_cell_at) (defScope s_l_law_cell_at) .none kV11 dc11 pm11 an11 cd11 ct11), (f_l_law_cell_at, f11, PySem.W.fnOf "_law_cell_at" "_law_cell_at" (defArgs s_l_law_cell_at) (defBody s_l_law_cell_at) (defScope s_l_law_cell_at) .none kV11 dc11 pm11 an11 cd11 ct11), (f_l_law_cell_at, f11, PySem.W.fnOf "_law_cell_at" "_law_cell_at" (defArgs s_l_law_cell_at) (defBody s_l_law_cell_at) (defScope s_l_law_cell_at) .none kV11 dc11 pm11 an11 cd11 ct11), (f_l_law_cell_at, f11, PySem.W.fnOf "_law_cell_at" "_law_cell_at" (defArgs s_l_law_cell_at) (defBody s_l_law_cell_at) (defScope s_l_law_cell_at) .none kV11 dc11 pm11 an11 cd11 ct11), (f_l_law_cell_at, f11, PySem.W.fnOf "_law_cell_at" "_law_cell_at" (defArgs s_l_law_cell_at) (defBody s_l_law_cell_at) (defScope s_l_law_cell_at) .none kV11 dc11 pm11 an11 cd11 ct11), (f_l_law_cell_at, f11, PySem.W.fnOf "_law_cell_at" "_law_cell_at" (defArgs s_l_law_cell_at) (defBody s_l_law_cell_at) (defScope s_l_law_cell_at) .none kV11 dc11 pm11 an11 cd11 ct11), (f_l_law_cell_at, f11, PySem.W.fnOf "_law_cell_at" "_law_cell_at" (defArgs s_l_law_cell_at) (defBody s_l_law_cell_at) (defScope s_l_law_cell_at) .none kV11 dc11 pm11 an11 cd11 ct11), (f_l_law_cell_at, f11, PySem.W.fnOf "_law_cell_at" "_law_cell_at" (defArgs s_l_law_cell_at) (defBody s_l_law_cell_at) (defScope s_l_law_cell_at) .none kV11 dc11 pm11 an11 cd11 ct11), (f_p_maker_of, f0, PySem.W.fnOf "maker_of" "maker_of" (defArgs s_p_maker_of) (defBody s_p_maker_of) (defScope s_p_maker_of) .none kV0 dc0 pm0 an0 cd0 ct0), (f_l_law_cell_at, f11, PySem.W.fnOf "_law_cell_at" "_law_cell_at" (defArgs s_l_law_cell_at) (defBody s_l_law_cell_at) (defScope s_l_law_cell_at) .none kV11 dc11 pm11 an11 cd11 ct11), (f_l_law_cell_at, f11, PySem.W.fnOf "_law_cell_at" "_law_cell_at" (defArgs s_l_law_cell_at) (defBody s_l_law_cell_at) (defScope s_l_law_cell_at) .none kV11 dc11 pm11 an11 cd11 ct11), (f_l_law_cell_at, f11, PySem.W.fnOf "_law_cell_at" "_law_cell_at" (defArgs s_l_law_cell_at) (defBody s_l_law_cell_at) (defScope s_l_law_cell_at) .none kV11 dc11 pm11 an11 cd11 ct11), (f_p_merged, f1, PySem.W.fnOf "merged" "merged" (defArgs s_p_merged) (defBody s_p_merged) (defScope s_p_merged) .none kV1 dc1 pm1 an1 cd1 ct1), (f_p_joined, f2, PySem.W.fnOf "joined" "joined" (defArgs s_p_joined) (defBody s_p_joined) (defScope s_p_joined) .none kV2 dc2 pm2 an2 cd2 ct2), (f_p_of_try, f3, PySem.W.fnOf "of_try" "of_try" (defArgs s_p_of_try) (defBody s_p_of_try) (defScope s_p_of_try) .none kV3 dc3 pm3 an3 cd3 ct3), (f_p_of_deed, f4, PySem.W.fnOf "of_deed" "of_deed" (defArgs s_p_of_deed) (defBody s_p_of_deed) (defScope s_p_of_deed) .none kV4 dc4 pm4 an4 cd4 ct4), (f_p_of_block, f5, PySem.W.fnOf "of_block" "of_block" (defArgs s_p_of_block) (defBody s_p_of_block) (defScope s_p_of_block) .none kV5 dc5 pm5 an5 cd5 ct5), (f_p_of_makers, f6, PySem.W.fnOf "of_makers" "of_makers" (defArgs s_p_of_makers) (defBody s_p_of_makers) (defScope s_p_of_makers) .none kV6 dc6 pm6 an6 cd6 ct6), (f_l_law_cell_at, f11, PySem.W.fnOf "_law_cell_at" "_law_cell_at" (defArgs s_l_law_cell_at) (defBody s_l_law_cell_at) (defScope s_l_law_cell_at) .none kV11 dc11 pm11 an11 cd11 ct11), (f_l_law_cell_at, f11, PySem.W.fnOf "_law_cell_at" "_law_cell_at" (defArgs s_l_law_cell_at) (defBody s_l_law_cell_at) (defScope s_l_law_cell_at) .none kV11 dc11 pm11 an11 cd11 ct11), (f_l_law_both, f19, PySem.W.fnOf "_law_both" "_law_both" (defArgs s_l_law_both) (defBody s_l_law_both) (defScope s_l_law_both) .none kV19 dc19 pm19 an19 cd19 ct19), (f_l_law_may, f20, PySem.W.fnOf "_law_may" "_law_may" (defArgs s_l_law_may) (defBody s_l_law_may) (defScope s_l_law_may) .none kV20 dc20 pm20 an20 cd20 ct20), (f_l_law_ways, f21, PySem.W.fnOf "_law_ways" "_law_ways" (defArgs s_l_law_ways) (defBody s_l_law_ways) (defScope s_l_law_ways) .none kV21 dc21 pm21 an21 cd21 ct21), (f_l_law_try_ways, f22, PySem.W.fnOf "_law_try_ways" "_law_try_ways" (defArgs s_l_law_try_ways) (defBody s_l_law_try_ways) (defScope s_l_law_try_ways) .none kV22 dc22 pm22 an22 cd22 ct22), (f_l_law_makers_may, f23, PySem.W.fnOf "_law_makers_may" "_law_makers_may" (defArgs s_l_law_makers_may) (defBody s_l_law_makers_may) (defScope s_l_law_makers_may) .none kV23 dc23 pm23 an23 cd23 ct23), (f_l_law_cell_at, f11, PySem.W.fnOf "_law_cell_at" "_law_cell_at" (defArgs s_l_law_cell_at) (defBody s_l_law_cell_at) (defScope s_l_law_cell_at) .none kV11 dc11 pm11 an11 cd11 ct11), (f_l_law_cell_at, f11, PySem.W.fnOf "_law_cell_at" "_law_cell_at" (defArgs s_l_law_cell_at) (defBody s_l_law_cell_at) (defScope s_l_law_cell_at) .none kV11 dc11 pm11 an11 cd11 ct11), (f_l_law_cell_at, f11, PySem.W.fnOf "_law_cell_at" "_law_cell_at" (defArgs s_l_law_cell_at) (defBody s_l_law_cell_at) (defScope s_l_law_cell_at) .none kV11 dc11 pm11 an11 cd11 ct11), (f_l_law_cell_at, f11, PySem.W.fnOf "_law_cell_at" "_law_cell_at" (defArgs s_l_law_cell_at) (defBody s_l_law_cell_at) (defScope s_l_law_cell_at) .none kV11 dc11 pm11 an11 cd11 ct11), (f_l_law_cell_at, f11, PySem.W.fnOf "_law_cell_at" "_law_cell_at" (defArgs s_l_law_cell_at) (defBody s_l_law_cell_at) (defScope s_l_law_cell_at) .none kV11 dc11 pm11 an11 cd11 ct11), (f_l_law_cell_at, f11, PySem.W.fnOf "_law_cell_at" "_law_cell_at" (defArgs s_l_law_cell_at) (defBody s_l_law_cell_at) (defScope s_l_law_cell_at) .none kV11 dc11 pm11 an11 cd11 ct11), (f_l_law_cell_at, f11, PySem.W.fnOf "_law_cell_at" "_law_cell_at" (defArgs s_l_law_cell_at) (defBody s_l_law_cell_at) (defScope s_l_law_cell_at) .none kV11 dc11 pm11 an11 cd11 ct11), (f_l_law_cell_at, f11, PySem.W.fnOf "_law_cell_at" "_law_cell_at" (defArgs s_l_law_cell_at) (defBody s_l_law_cell_at) (defScope s_l_law_cell_at) .none kV11 dc11 pm11 an11 cd11 ct11), (f_l_law_cell_at, f11, PySem.W.fnOf "_law_cell_at" "_law_cell_at" (defArgs s_l_law_cell_at) (defBody s_l_law_cell_at) (defScope s_l_law_cell_at) .none kV11 dc11 pm11 an11 cd11 ct11), (f_l_law_cell_at, f11, PySem.W.fnOf "_law_cell_at" "_law_cell_at" (defArgs s_l_law_cell_at) (defBody s_l_law_cell_at) (defScope s_l_law_cell_at) .none kV11 dc11 pm11 an11 cd11 ct11), (f_l_law_cell_at, f11, PySem.W.fnOf "_law_cell_at" "_law_cell_at" (defArgs s_l_law_cell_at) (defBody s_l_law_cell_at) (defScope s_l_law_cell_at) .none kV11 dc11 pm11 an11 cd11 ct11), (f_l_law_cell_at, f11, PySem.W.fnOf "_law_cell_at" "_law_cell_at" (defArgs s_l_law_cell_at) (defBody s_l_law_cell_at) (defScope s_l_law_cell_at) .none kV11 dc11 pm11 an11 cd11 ct11), (f_l_law_cell_at, f11, PySem.W.fnOf "_law_cell_at" "_law_cell_at" (defArgs s_l_law_cell_at) (defBody s_l_law_cell_at) (defScope s_l_law_cell_at) .none kV11 dc11 pm11 an11 cd11 ct11), (f_l_law_cell_at, f11, PySem.W.fnOf "_law_cell_at" "_law_cell_at" (defArgs s_l_law_cell_at) (defBody s_l_law_cell_at) (defScope s_l_law_cell_at) .none kV11 dc11 pm11 an11 cd11 ct11), (f_l_law_cell_at, f11, PySem.W.fnOf "_law_cell_at" "_law_cell_at" (defArgs s_l_law_cell_at) (defBody s_l_law_cell_at) (defScope s_l_law_cell_at) .none kV11 dc11 pm11 an11 cd11 ct11), (f_l_law_cell_at, f11, PySem.W.fnOf "_law_cell_at" "_law_cell_at" (defArgs s_l_law_cell_at) (defBody s_l_law_cell_at) (defScope s_l_law_cell_at) .none kV11 dc11 pm11 an11 cd11 ct11), (f_l_law_cell_at, f11, PySem.W.fnOf "_law_cell_at" "_law_cell_at" (defArgs s_l_law_cell_at) (defBody s_l_law_cell_at) (defScope s_l_law_cell_at) .none kV11 dc11 pm11 an11 cd11 ct11), (f_l_law_cell_at, f11, PySem.W.fnOf "_law_cell_at" "_law_cell_at" (defArgs s_l_law_cell_at) (defBody s_l_law_cell_at) (defScope s_l_law_cell_at) .none kV11 dc11 pm11 an11 cd11 ct11), (f_l_law_cell_at, f11, PySem.W.fnOf "_law_cell_at" "_law_cell_at" (defArgs s_l_law_cell_at) (defBody s_l_law_cell_at) (defScope s_l_law_cell_at) .none kV11 dc11 pm11 an11 cd11 ct11), (f_l_law_cell_at, f11, PySem.W.fnOf "_law_cell_at" "_law_cell_at" (defArgs s_l_law_cell_at) (defBody s_l_law_cell_at) (defScope s_l_law_cell_at) .none kV11 dc11 pm11 an11 cd11 ct11), (f_l_law_cell_at, f11, PySem.W.fnOf "_law_cell_at" "_law_cell_at" (defArgs s_l_law_cell_at) (defBody s_l_law_cell_at) (defScope s_l_law_cell_at) .none kV11 dc11 pm11 an11 cd11 ct11), (f_l_law_cell_at, f11, PySem.W.fnOf "_law_cell_at" "_law_cell_at" (defArgs s_l_law_cell_at) (defBody s_l_law_cell_at) (defScope s_l_law_cell_at) .none kV11 dc11 pm11 an11 cd11 ct11), (f_l_law_cell_at, f11, PySem.W.fnOf "_law_cell_at" "_law_cell_at" (defArgs s_l_law_cell_at) (defBody s_l_law_cell_at) (defScope s_l_law_cell_at) .none kV11 dc11 pm11 an11 cd11 ct11), (f_l_law_cell_at, f11, PySem.W.fnOf "_law_cell_at" "_law_cell_at" (defArgs s_l_law_cell_at) (defBody s_l_law_cell_at) (defScope s_l_law_cell_at) .none kV11 dc11 pm11 an11 cd11 ct11), (f_l_law_cell_at, f11, PySem.W.fnOf "_law_cell_at" "_law_cell_at" (defArgs s_l_law_cell_at) (defBody s_l_law_cell_at) (defScope s_l_law_cell_at) .none kV11 dc11 pm11 an11 cd11 ct11), (f_l_law_cell_at, f11, PySem.W.fnOf "_law_cell_at" "_law_cell_at" (defArgs s_l_law_cell_at) (defBody s_l_law_cell_at) (defScope s_l_law_cell_at) .none kV11 dc11 pm11 an11 cd11 ct11), (f_l_law_cell_at, f11, PySem.W.fnOf "_law_cell_at" "_law_cell_at" (defArgs s_l_law_cell_at) (defBody s_l_law_cell_at) (defScope s_l_law_cell_at) .none kV11 dc11 pm11 an11 cd11 ct11), (f_l_law_cell_at, f11, PySem.W.fnOf "_law_cell_at" "_law_cell_at" (defArgs s_l_law_cell_at) (defBody s_l_law_cell_at) (defScope s_l_law_cell_at) .none kV11 dc11 pm11 an11 cd11 ct11), (f_l_law_cell_at, f11, PySem.W.fnOf "_law_cell_at" "_law_cell_at" (defArgs s_l_law_cell_at) (defBody s_l_law_cell_at) (defScope s_l_law_cell_at) .none kV11 dc11 pm11 an11 cd11 ct11), (f_l_law_cell_at, f11, PySem.W.fnOf "_law_cell_at" "_law_cell_at" (defArgs s_l_law_cell_at) (defBody s_l_law_cell_at) (defScope s_l_law_cell_at) .none kV11 dc11 pm11 an11 cd11 ct11), (f_l_law_cell_at, f11, PySem.W.fnOf "_law_cell_at" "_law_cell_at" (defArgs s_l_law_cell_at) (defBody s_l_law_cell_at) (defScope s_l_law_cell_at) .none kV11 dc11 pm11 an11 cd11 ct11), (f_l_law_cell_at, f11, PySem.W.fnOf "_law_cell_at" "_law_cell_at" (defArgs s_l_law_cell_at) (defBody s_l_law_cell_at) (defScope s_l_law_cell_at) .none kV11 dc11 pm11 an11 cd11 ct11), (f_l_law_cell_at, f11, PySem.W.fnOf "_law_cell_at" "_law_cell_at" (defArgs s_l_law_cell_at) (defBody s_l_law_cell_at) (defScope s_l_law_cell_at) .none kV11 dc11 pm11 an11 cd11 ct11), (f_l_law_cell_at, f11, PySem.W.fnOf "_law_cell_at" "_law_cell_at" (defArgs s_l_law_cell_at) (defBody s_l_law_cell_at) (defScope s_l_law_cell_at) .none kV11 dc11 pm11 an11 cd11 ct11), (f_l_law_cell_at, f11, PySem.W.fnOf "_law_cell_at" "_law_cell_at" (defArgs s_l_law_cell_at) (defBody s_l_law_cell_at) (defScope s_l_law_cell_at) .none kV11 dc11 pm11 an11 cd11 ct11), (f_l_law_cell_at, f11, PySem.W.fnOf "_law_cell_at" "_law_cell_at" (defArgs s_l_law_cell_at) (defBody s_l_law_cell_at) (defScope s_l_law_cell_at) .none kV11 dc11 pm11 an11 cd11 ct11), (f_l_law_cell_at, f11, PySem.W.fnOf "_law_cell_at" "_law_cell_at" (defArgs s_l_law_cell_at) (defBody s_l_law_cell_at) (defScope s_l_law_cell_at) .none kV11 dc11 pm11 an11 cd11 ct11), (f_l_law_cell_at, f11, PySem.W.fnOf "_law_cell_at" "_law_cell_at" (defArgs s_l_law_cell_at) (defBody s_l_law_cell_at) (defScope s_l_law_cell_at) .none kV11 dc11 pm11 an11 cd11 ct11), (f_l_law_cell_at, f11, PySem.W.fnOf "_law_cell_at" "_law_cell_at" (defArgs s_l_law_cell_at) (defBody s_l_law_cell_at) (defScope s_l_law_cell_at) .none kV11 dc11 pm11 an11 cd11 ct11), (f_l_law_cell_at, f11, PySem.W.fnOf "_law_cell_at" "_law_cell_at" (defArgs s_l_law_cell_at) (defBody s_l_law_cell_at) (defScope s_l_law_cell_at) .none kV11 dc11 pm11 an11 cd11 ct11), (f_p_from_try, f7, PySem.W.fnOf "from_try" "from_try" (defArgs s_p_from_try) (defBody s_p_from_try) (defScope s_p_from_try) .none kV7 dc7 pm7 an7 cd7 ct7), (f_p_from_deed, f8, PySem.W.fnOf "from_deed" "from_deed" (defArgs s_p_from_deed) (defBody s_p_from_deed) (defScope s_p_from_deed) .none kV8 dc8 pm8 an8 cd8 ct8), (f_p_from_block, f9, PySem.W.fnOf "from_block" "from_block" (defArgs s_p_from_block) (defBody s_p_from_block) (defScope s_p_from_block) .none kV9 dc9 pm9 an9 cd9 ct9), (f_p_sources, f10, PySem.W.fnOf "sources" "sources" (defArgs s_p_sources) (defBody s_p_sources) (defScope s_p_sources) .none kV10 dc10 pm10 an10 cd10 ct10), (f_l_law_from, f24, PySem.W.fnOf "_law_from" "_law_from" (defArgs s_l_law_from) (defBody s_l_law_from) (defScope s_l_law_from) .none kV24 dc24 pm24 an24 cd24 ct24)] (PySem.W.fnOf "law" "law" (defArgs s_law_k80) (defBody s_law_k80) (defScope s_law_k80) .none kV25 dc25 pm25 an25 cd25 ct25) rfl ?_ ?_ ?_ ?_ ?_ ?_, rfl, ?_⟩
  · exact List.forall_mem_cons.mpr ⟨fun _ => o25, List.forall_mem_cons.mpr ⟨fun _ => o11, List.forall_mem_cons.mpr ⟨fun _ => o12, List.forall_mem_cons.mpr ⟨fun _ => o13, List.forall_mem_cons.mpr ⟨fun _ => o14, List.forall_mem_cons.mpr ⟨fun _ => o15, List.forall_mem_cons.mpr ⟨fun _ => o16, List.forall_mem_cons.mpr ⟨fun _ => o17, List.forall_mem_cons.mpr ⟨fun _ => o18, List.forall_mem_cons.mpr ⟨fun _ => o11, List.forall_mem_cons.mpr ⟨fun _ => o11, List.forall_mem_cons.mpr ⟨fun _ => o11, List.forall_mem_cons.mpr ⟨fun _ => o11, List.forall_mem_cons.mpr ⟨fun _ => o11, List.forall_mem_cons.mpr ⟨fun _ => o11, List.forall_mem_cons.mpr ⟨fun _ => o11, List.forall_mem_cons.mpr ⟨fun _ => o11, List.forall_mem_cons.mpr ⟨fun _ => o11, List.forall_mem_cons.mpr ⟨fun _ => o11, List.forall_mem_cons.mpr ⟨fun _ => o11, List.forall_mem_cons.mpr ⟨fun _ => o11, List.forall_mem_cons.mpr ⟨fun _ => o11, List.forall_mem_cons.mpr ⟨fun _ => o11, List.forall_mem_cons.mpr ⟨fun _ => o11, List.forall_mem_cons.mpr ⟨fun _ => o11, List.forall_mem_cons.mpr ⟨fun _ => o11, List.forall_mem_cons.mpr ⟨fun _ => o11, List.forall_mem_cons.mpr ⟨fun _ => o11, List.forall_mem_cons.mpr ⟨fun _ => o11, List.forall_mem_cons.mpr ⟨fun _ => o11, List.forall_mem_cons.mpr ⟨fun _ => o11, List.forall_mem_cons.mpr ⟨fun _ => o11, List.forall_mem_cons.mpr ⟨fun _ => o11, List.forall_mem_cons.mpr ⟨fun _ => o11, List.forall_mem_cons.mpr ⟨fun _ => o11, List.forall_mem_cons.mpr ⟨fun _ => o11, List.forall_mem_cons.mpr ⟨fun _ => o11, List.forall_mem_cons.mpr ⟨fun _ => o11, List.forall_mem_cons.mpr ⟨fun _ => o11, List.forall_mem_cons.mpr ⟨fun _ => o11, List.forall_mem_cons.mpr ⟨fun _ => o11, List.forall_mem_cons.mpr ⟨fun _ => o11, List.forall_mem_cons.mpr ⟨fun _ => o11, List.forall_mem_cons.mpr ⟨fun _ => o11, List.forall_mem_cons.mpr ⟨fun _ => o11, List.forall_mem_cons.mpr ⟨fun _ => o11, List.forall_mem_cons.mpr ⟨fun _ => o11, List.forall_mem_cons.mpr ⟨fun _ => o11, List.forall_mem_cons.mpr ⟨fun _ => o11, List.forall_mem_cons.mpr ⟨fun _ => o11, List.forall_mem_cons.mpr ⟨fun _ => o11, List.forall_mem_cons.mpr ⟨fun _ => o11, List.forall_mem_cons.mpr ⟨fun _ => o11, List.forall_mem_cons.mpr ⟨fun _ => o11, List.forall_mem_cons.mpr ⟨fun _ => o11, List.forall_mem_cons.mpr ⟨fun _ => o11, List.forall_mem_cons.mpr ⟨fun _ => o11, List.forall_mem_cons.mpr ⟨fun _ => o11, List.forall_mem_cons.mpr ⟨fun _ => o11, List.forall_mem_cons.mpr ⟨fun _ => o11, List.forall_mem_cons.mpr ⟨fun _ => o11, List.forall_mem_cons.mpr ⟨fun _ => o11, List.forall_mem_cons.mpr ⟨fun _ => o11, List.forall_mem_cons.mpr ⟨fun _ => o11, List.forall_mem_cons.mpr ⟨fun _ => o11, List.forall_mem_cons.mpr ⟨fun _ => o11, List.forall_mem_cons.mpr ⟨fun _ => o11, List.forall_mem_cons.mpr ⟨fun _ => o11, List.forall_mem_cons.mpr ⟨fun _ => o11, List.forall_mem_cons.mpr ⟨fun _ => o11, List.forall_mem_cons.mpr ⟨fun _ => o0, List.forall_mem_cons.mpr ⟨fun _ => o11, List.forall_mem_cons.mpr ⟨fun _ => o11, List.forall_mem_cons.mpr ⟨fun _ => o11, List.forall_mem_cons.mpr ⟨fun _ => o1, List.forall_mem_cons.mpr ⟨fun _ => o2, List.forall_mem_cons.mpr ⟨fun _ => o3, List.forall_mem_cons.mpr ⟨fun _ => o4, List.forall_mem_cons.mpr ⟨fun _ => o5, List.forall_mem_cons.mpr ⟨fun _ => o6, List.forall_mem_cons.mpr ⟨fun _ => o11, List.forall_mem_cons.mpr ⟨fun _ => o11, List.forall_mem_cons.mpr ⟨fun _ => o19, List.forall_mem_cons.mpr ⟨fun _ => o20, List.forall_mem_cons.mpr ⟨fun _ => o21, List.forall_mem_cons.mpr ⟨fun _ => o22, List.forall_mem_cons.mpr ⟨fun _ => o23, List.forall_mem_cons.mpr ⟨fun _ => o11, List.forall_mem_cons.mpr ⟨fun _ => o11, List.forall_mem_cons.mpr ⟨fun _ => o11, List.forall_mem_cons.mpr ⟨fun _ => o11, List.forall_mem_cons.mpr ⟨fun _ => o11, List.forall_mem_cons.mpr ⟨fun _ => o11, List.forall_mem_cons.mpr ⟨fun _ => o11, List.forall_mem_cons.mpr ⟨fun _ => o11, List.forall_mem_cons.mpr ⟨fun _ => o11, List.forall_mem_cons.mpr ⟨fun _ => o11, List.forall_mem_cons.mpr ⟨fun _ => o11, List.forall_mem_cons.mpr ⟨fun _ => o11, List.forall_mem_cons.mpr ⟨fun _ => o11, List.forall_mem_cons.mpr ⟨fun _ => o11, List.forall_mem_cons.mpr ⟨fun _ => o11, List.forall_mem_cons.mpr ⟨fun _ => o11, List.forall_mem_cons.mpr ⟨fun _ => o11, List.forall_mem_cons.mpr ⟨fun _ => o11, List.forall_mem_cons.mpr ⟨fun _ => o11, List.forall_mem_cons.mpr ⟨fun _ => o11, List.forall_mem_cons.mpr ⟨fun _ => o11, List.forall_mem_cons.mpr ⟨fun _ => o11, List.forall_mem_cons.mpr ⟨fun _ => o11, List.forall_mem_cons.mpr ⟨fun _ => o11, List.forall_mem_cons.mpr ⟨fun _ => o11, List.forall_mem_cons.mpr ⟨fun _ => o11, List.forall_mem_cons.mpr ⟨fun _ => o11, List.forall_mem_cons.mpr ⟨fun _ => o11, List.forall_mem_cons.mpr ⟨fun _ => o11, List.forall_mem_cons.mpr ⟨fun _ => o11, List.forall_mem_cons.mpr ⟨fun _ => o11, List.forall_mem_cons.mpr ⟨fun _ => o11, List.forall_mem_cons.mpr ⟨fun _ => o11, List.forall_mem_cons.mpr ⟨fun _ => o11, List.forall_mem_cons.mpr ⟨fun _ => o11, List.forall_mem_cons.mpr ⟨fun _ => o11, List.forall_mem_cons.mpr ⟨fun _ => o11, List.forall_mem_cons.mpr ⟨fun _ => o11, List.forall_mem_cons.mpr ⟨fun _ => o11, List.forall_mem_cons.mpr ⟨fun _ => o11, List.forall_mem_cons.mpr ⟨fun _ => o7, List.forall_mem_cons.mpr ⟨fun _ => o8, List.forall_mem_cons.mpr ⟨fun _ => o9, List.forall_mem_cons.mpr ⟨fun _ => o10, List.forall_mem_cons.mpr ⟨fun _ => o24, List.forall_mem_nil _⟩⟩⟩⟩⟩⟩⟩⟩⟩⟩⟩⟩⟩⟩⟩⟩⟩⟩⟩⟩⟩⟩⟩⟩⟩⟩⟩⟩⟩⟩⟩⟩⟩⟩⟩⟩⟩⟩⟩⟩⟩⟩⟩⟩⟩⟩⟩⟩⟩⟩⟩⟩⟩⟩⟩⟩⟩⟩⟩⟩⟩⟩⟩⟩⟩⟩⟩⟩⟩⟩⟩⟩⟩⟩⟩⟩⟩⟩⟩⟩⟩⟩⟩⟩⟩⟩⟩⟩⟩⟩⟩⟩⟩⟩⟩⟩⟩⟩⟩⟩⟩⟩⟩⟩⟩⟩⟩⟩⟩⟩⟩⟩⟩⟩⟩⟩⟩⟩⟩⟩⟩⟩⟩⟩⟩⟩⟩⟩⟩⟩⟩⟩
  · exact List.forall_mem_cons.mpr ⟨PySem.W.mg_none_of X hG z0, List.forall_mem_cons.mpr ⟨PySem.W.mg_none_of X hG z1, List.forall_mem_cons.mpr ⟨PySem.W.mg_none_of X hG z2, List.forall_mem_cons.mpr ⟨PySem.W.mg_none_of X hG z3, List.forall_mem_cons.mpr ⟨PySem.W.mg_none_of X hG z4, List.forall_mem_cons.mpr ⟨PySem.W.mg_none_of X hG z5, List.forall_mem_cons.mpr ⟨PySem.W.mg_none_of X hG z6, List.forall_mem_nil _⟩⟩⟩⟩⟩⟩⟩
  · intro x c hc
    simp only [G, List.mem_cons, List.not_mem_nil, or_false, Prod.mk.injEq] at hc
    rcases hc with ⟨rfl, rfl⟩ | ⟨rfl, rfl⟩ | ⟨rfl, rfl⟩
    · exact cTup (vs := [.bl true, .bl false, .ref ga0_2]) (PySem.W.mg_of X hG gk0) hk0 (by decide) (.cons rfl (.cons rfl (.cons rfl .nil))) (.cons (.bl _) (.cons (.bl _) (.cons (cTupR (vs := []) hk0_2 (by decide) .nil .nil) .nil)))
    · exact cTup (vs := [.str "red", .str "green", .str "blue"]) (PySem.W.mg_of X hG gk1) hk1 (by decide) (.cons ⟨_, rfl⟩ (.cons ⟨_, rfl⟩ (.cons ⟨_, rfl⟩ .nil))) (.cons (.str _) (.cons (.str _) (.cons (.str _) .nil)))
    · exact cStr (PySem.W.mg_of X hG gk2)
  · intro c k hk
    simp [G] at hk
  · intro f d m hd hc
    have hm := ksOf (ks := []) (by decide +kernel) hd hc
    simp at hm
  · intro f hf
    subst hCA
    cases hf
  · exact hbl
end Tw.K80
open PySem PySem.W PyProof.Rows
set_option maxRecDepth 100000 in
set_option maxHeartbeats 0 in
theorem PySem.Challenge.cw_throwless_k80_sources_holds : PySem.Challenge.rw_throwless_k80_sources.Holds := by
  w_on; o_law; k_head; (case hw => w_witness2)
  k_fill
  refine Tw.lawEnd (G := Tw.K80.G) (l := PySem.Challenge.rw_throwless_k80_sources) Tw.K80.lvl 0 (by decide) Tw.f_law_k80 rfl rfl ⟨rfl, by decide, by decide⟩ (fun w h Y => PySem.W.kIn_of Y) rfl rfl (by decide +kernel) ?F Tw.K80.law_true
  case F =>
    intro w mg fa h KX hG hmg
    refine' Tw.K80.top (w := w) KX hG hmg (a0 := ?a0) (l0 := ?l0) (c0 := ?c0) (k0 := ?k0) (a1 := ?a1) (l1 := ?l1) (c1 := ?c1) (k1 := ?k1) (a2 := ?a2) (l2 := ?l2) (c2 := ?c2) (k2 := ?k2) (a3 := ?a3) (l3 := ?l3) (c3 := ?c3) (k3 := ?k3) (a4 := ?a4) (l4 := ?l4) (c4 := ?c4) (k4 := ?k4) (a5 := ?a5) (l5 := ?l5) (c5 := ?c5) (k5 := ?k5) (a6 := ?a6) (l6 := ?l6) (c6 := ?c6) (k6 := ?k6) (a7 := ?a7) (l7 := ?l7) (c7 := ?c7) (k7 := ?k7) (a8 := ?a8) (l8 := ?l8) (c8 := ?c8) (k8 := ?k8) (a9 := ?a9) (l9 := ?l9) (c9 := ?c9) (k9 := ?k9) (a10 := ?a10) (l10 := ?l10) (c10 := ?c10) (k10 := ?k10) (a11 := ?a11) (l11 := ?l11) (c11 := ?c11) (k11 := ?k11) (a12 := ?a12) (l12 := ?l12) (c12 := ?c12) (k12 := ?k12) (a13 := ?a13) (l13 := ?l13) (c13 := ?c13) (k13 := ?k13) (a14 := ?a14) (l14 := ?l14) (c14 := ?c14) (k14 := ?k14) (a15 := ?a15) (l15 := ?l15) (c15 := ?c15) (k15 := ?k15) (a16 := ?a16) (l16 := ?l16) (c16 := ?c16) (k16 := ?k16) (a17 := ?a17) (l17 := ?l17) (c17 := ?c17) (k17 := ?k17) (a18 := ?a18) (l18 := ?l18) (c18 := ?c18) (k18 := ?k18) (a19 := ?a19) (l19 := ?l19) (c19 := ?c19) (k19 := ?k19) (a20 := ?a20) (l20 := ?l20) (c20 := ?c20) (k20 := ?k20) (a21 := ?a21) (l21 := ?l21) (c21 := ?c21) (k21 := ?k21) (a22 := ?a22) (l22 := ?l22) (c22 := ?c22) (k22 := ?k22) (a23 := ?a23) (l23 := ?l23) (c23 := ?c23) (k23 := ?k23) (a24 := ?a24) (l24 := ?l24) (c24 := ?c24) (k24 := ?k24) (a25 := ?a25) (l25 := ?l25) (c25 := ?c25) (k25 := ?k25) (z0 := ?z0) (z1 := ?z1) (z2 := ?z2) (z3 := ?z3) (z4 := ?z4) (z5 := ?z5) (z6 := ?z6) (gk0 := ?gk0) (hk0 := ?hk0) (hk0_2 := ?hk0_2) (gk1 := ?gk1) (hk1 := ?hk1) (gk2 := ?gk2)
    (case a0 => k_is)
    (case l0 => k_is)
    (case c0 => k_is)
    (case k0 => k_is)
    (case a1 => k_is)
    (case l1 => k_is)
    (case c1 => k_is)
    (case k1 => k_is)
    (case a2 => k_is)
    (case l2 => k_is)
    (case c2 => k_is)
    (case k2 => k_is)
    (case a3 => k_is)
    (case l3 => k_is)
    (case c3 => k_is)
    (case k3 => k_is)
    (case a4 => k_is)
    (case l4 => k_is)
    (case c4 => k_is)
    (case k4 => k_is)
    (case a5 => k_is)
    (case l5 => k_is)
    (case c5 => k_is)
    (case k5 => k_is)
    (case a6 => k_is)
    (case l6 => k_is)
    (case c6 => k_is)
    (case k6 => k_is)
    (case a7 => k_is)
    (case l7 => k_is)
    (case c7 => k_is)
    (case k7 => k_is)
    (case a8 => k_is)
    (case l8 => k_is)
    (case c8 => k_is)
    (case k8 => k_is)
    (case a9 => k_is)
    (case l9 => k_is)
    (case c9 => k_is)
    (case k9 => k_is)
    (case a10 => k_is)
    (case l10 => k_is)
    (case c10 => k_is)
    (case k10 => k_is)
    (case a11 => k_is)
    (case l11 => k_is)
    (case c11 => k_is)
    (case k11 => k_is)
    (case a12 => k_is)
    (case l12 => k_is)
    (case c12 => k_is)
    (case k12 => k_is)
    (case a13 => k_is)
    (case l13 => k_is)
    (case c13 => k_is)
    (case k13 => k_is)
    (case a14 => k_is)
    (case l14 => k_is)
    (case c14 => k_is)
    (case k14 => k_is)
    (case a15 => k_is)
    (case l15 => k_is)
    (case c15 => k_is)
    (case k15 => k_is)
    (case a16 => k_is)
    (case l16 => k_is)
    (case c16 => k_is)
    (case k16 => k_is)
    (case a17 => k_is)
    (case l17 => k_is)
    (case c17 => k_is)
    (case k17 => k_is)
    (case a18 => k_is)
    (case l18 => k_is)
    (case c18 => k_is)
    (case k18 => k_is)
    (case a19 => k_is)
    (case l19 => k_is)
    (case c19 => k_is)
    (case k19 => k_is)
    (case a20 => k_is)
    (case l20 => k_is)
    (case c20 => k_is)
    (case k20 => k_is)
    (case a21 => k_is)
    (case l21 => k_is)
    (case c21 => k_is)
    (case k21 => k_is)
    (case a22 => k_is)
    (case l22 => k_is)
    (case c22 => k_is)
    (case k22 => k_is)
    (case a23 => k_is)
    (case l23 => k_is)
    (case c23 => k_is)
    (case k23 => k_is)
    (case a24 => k_is)
    (case l24 => k_is)
    (case c24 => k_is)
    (case k24 => k_is)
    (case a25 => k_is)
    (case l25 => k_is)
    (case c25 => k_is)
    (case k25 => k_is)
    (case z0 => k_is)
    (case z1 => k_is)
    (case z2 => k_is)
    (case z3 => k_is)
    (case z4 => k_is)
    (case z5 => k_is)
    (case z6 => k_is)
    (case gk0 => k_is)
    (case hk0 => k_is)
    (case hk0_2 => k_is)
    (case gk1 => k_is)
    (case hk1 => k_is)
    (case gk2 => k_is)
