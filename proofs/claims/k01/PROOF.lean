import PyProof.Rows.All
import Wide.All
import OpenK.AllK
import Wide.FinOn
import HandS.ForMost
import HandS.IsInst
import HandS.Wide
import HandS.Deep
import HandS.Defaults
import HandS.Zip
import HandS.Exc
import KE.KExcIs
import KE.KExcSuper
import KE.KSuper
import HandS.ExcInit
import HandS.ExcValue
import HandS.WideBits
import HandS.Style
import HandS.TupLe
import HandS.Iter
import HandS.Strs
import KE.GoesEnumKw
import PyProof.SumWalkG
import PyProof.Rows.SeqMore
import HandS.SetFor
import HandS.ExcOwn
import HandS.ExcBuiltin
import HandS.Words
import HandS.Ends
import HandS.ExcIs
import PySem.Challenge.RW_cellbills_k01_errors_by_their_classes
set_option Elab.async false
set_option linter.all false
set_option maxRecDepth 100000
set_option exponentiation.threshold 6000
namespace TI
open PySem
abbrev D := PyData
inductive Vl where
  | t (d : D)
  | loc (n : Nat)
  | er (c : Str) (x : D ⊕ Nat)
  | tv (xs : List (D ⊕ Nat))
def Vl.s : D ⊕ Nat → Vl
  | .inl d => .t d
  | .inr n => .loc n
def Vl.sim : Vl → Option (D ⊕ Nat)
  | .t d => some (.inl d)
  | .loc n => some (.inr n)
  | _ => none
def okX (b : Nat) : D ⊕ Nat → Bool
  | .inl _ => true
  | .inr n => decide (n < b)
inductive Cell where
  | lst (xs : List D) (fz : Bool)
  | dct (kvs : List (D × D)) (fz : Bool)
abbrev Mu := List Cell
abbrev En := List (Option Vl)
inductive XR where
  | ok (v : Vl)
  | ex (c : Str) (x : D ⊕ Nat)
def valC (cx : Nat → List Vl → Mu → Option (XR × Mu)) (f : Nat) (vs : List Vl) (m : Mu) : Option (Vl × Mu) := match cx f vs m with
  | some (.ok v, m) => some (v, m)
  | _ => none
inductive Op where
  | add | sub | mul | fdiv | mod | pow | neg
  | eq | ne | lt | le | gt | ge | inn | nin
  | isN | notN | isB (b : Bool) | notB (b : Bool) | not
  | idx | slLo | slHi | slLH | slRev
  | len | isi (T : String) | toInt | toStr | repr | max2 | min2 | sum | list | tuple | setlen | bitlen
  | strmul
  | dictP
def iOk (n : Nat) (i : Int) : Bool := decide (i.natAbs < 2 ^ n)
def kBool : Bool → D := .bool
def allInts : List D → Option (List Int)
  | [] => some []
  | .int i :: r => match allInts r with
    | some l => some (i :: l)
    | none => none
  | _ :: _ => none
def allStrs : List D → Option (List Str)
  | [] => some []
  | .str i :: r => match allStrs r with
    | some l => some (i :: l)
    | none => none
  | _ :: _ => none
def isT : D → String → Bool
  | .none, T => T == "NoneType"
  | .bool _, T => T == "bool" || T == "int"
  | .int _, T => T == "int"
  | .str _, T => T == "str"
  | .list _, T => T == "list"
  | .tuple _, T => T == "tuple"
  | .dict _, T => T == "dict"
def eqOk (a b : D) : Bool := SeqAt.shaped a && SeqAt.shaped b
def lensOk : D → D → Bool
  | .list xs, .list ys => decide (xs.length ≠ ys.length)
  | _, _ => false
def reprOk : D → Bool
  | .int i => decide (i.natAbs.log2 < 1920)
  | .bool _ => true
  | .none => true
  | d => d.showable && decide (d.depth ≤ 64) && decide (d.shown.length ≤ 1000000) && (SeqAt.shaped d || (match d with | .dict [] => true | _ => false))
def atomD : D → Bool
  | .none => true
  | .bool _ => true
  | .int _ => true
  | .str _ => true
  | .dict [] => true
  | _ => false
def reprOkL (ds : List D) : Bool := (PyData.list ds).showable && decide ((PyData.list ds).depth ≤ 64) && decide ((PyData.list ds).shown.length ≤ 1000000) && (SeqAt.shaped (.list ds) || ds.all atomD)
def mulOk (i j : Int) : Bool := decide (i.natAbs < 2 ^ 64) || (decide (i.natAbs < 2 ^ 5000) && decide (j.natAbs < 2 ^ 5000))
def divOk (i j : Int) : Bool := decide (j ≠ 0) && decide (j.natAbs < 2 ^ 5000)
def countD : List D → List D → Nat
  | [], _ => 0
  | x :: r, seen => if seen.any (fun z => PyData.eqv z x) then countD r seen else countD r (x :: seen) + 1
def dLook : List (D × D) → Str → Option D
  | [], _ => none
  | (.str x, v) :: r, k => if x = k then some v else dLook r k
  | _ :: _, _ => none
def keyI : D → Int → Bool
  | .int x, i => decide (x = i)
  | _, _ => false
def allK : List (D × D) → Bool
  | [] => true
  | (.int _, _) :: r => allK r
  | _ :: _ => false
def dLookI : List (D × D) → Int → Option D
  | [], _ => none
  | (k, v) :: r, i => if keyI k i = true then some v else dLookI r i
def dPutI (kvs : List (D × D)) (i : Int) (v : D) : List (D × D) :=
  if kvs.any (fun p => keyI p.1 i) then kvs.map (fun p => if keyI p.1 i = true then (p.1, v) else p) else kvs ++ [(.int i, v)]
def prI : List D → Option (List (Int × D))
  | [] => some []
  | .tuple [.int k, v] :: r => match prI r with
    | some l => some ((k, v) :: l)
    | none => none
  | _ :: _ => none
def fAdd : List D → Option D
  | [.int i, .int j] => some (.int (i + j))
  | [.str x, .str y] => if x.length + y.length ≤ 1000000 then some (.str (x ++ y)) else none
  | _ => none
def timesS (x : Str) (n : Nat) : Str := ⟨(List.replicate n x.cps).foldl (· ++ ·) #[]⟩
def fMul : List D → Option D
  | [.int i, .int j] => if mulOk i j then some (.int (i * j)) else none
  | [.str x, .int n] => if decide (0 ≤ n) && decide (n ≤ 100) && decide (1 ≤ x.length) && decide (x.length ≤ 100) && decide ((timesS x n.toNat).length ≤ 10000) then some (.str (timesS x n.toNat)) else none
  | _ => none
def fII (g : Int → Int → Option D) : List D → Option D
  | [.int i, .int j] => g i j
  | _ => none
def fI (g : Int → Option D) : List D → Option D
  | [.int i] => g i
  | _ => none
def fB (g : Bool → D) : List D → Option D
  | [.bool c] => some (g c)
  | _ => none
def f1 (g : D → Option D) : List D → Option D
  | [a] => g a
  | _ => none
def f2 (g : D → D → Option D) : List D → Option D
  | [a, c] => g a c
  | _ => none
def inS (x z : Str) : Option Bool := match x.cps.toList with
  | [c] => some (decide (c ∈ z.cps.toList))
  | _ => none
def fIn (neg : Bool) : D → D → Option D
  | a, .list ds => if eqOk a (.list ds) then some (.bool (if neg then !ds.any (fun z => PyData.eqv z a) else ds.any fun z => PyData.eqv z a)) else none
  | .str x, .str z => match inS x z with
    | some k => some (.bool (if neg then !k else k))
    | none => none
  | _, _ => none
def fEq (neg : Bool) : D → D → Option D
  | .str x, .str y => some (.bool (if neg then !decide (x = y) else decide (x = y)))
  | .int x, .int y => some (.bool (if neg then !decide (x = y) else decide (x = y)))
  | a, c => if eqOk a c then some (.bool (if neg then !PyData.eqv a c else PyData.eqv a c)) else if lensOk a c then some (.bool neg) else none
def isNone : D → Bool
  | .none => true
  | _ => false
def fIdx : D → D → Option D
  | .list ds, .int i => L2.atI ds i
  | .tuple ds, .int i => L2.atI ds i
  | .str z, .int i => if z.length ≤ 1000000 then (L2.atI z.cps.toList i).map fun c => .str ⟨#[c]⟩ else none
  | .dict kvs, .str k => dLook kvs k
  | .dict kvs, .int k => dLookI kvs k
  | _, _ => none
def fIdxN (d : D) (i : Int) : Option D := match d with
  | .dict _ => none
  | d => fIdx d (.int i)
def fLen : D → Option D
  | .list ds => some (.int ds.length)
  | .tuple ds => some (.int ds.length)
  | .str z => if z.length ≤ 1000000 then some (.int z.length) else none
  | .dict kvs => some (.int kvs.length)
  | _ => none
def fToInt : D → Option D
  | .int i => some (.int i)
  | .bool b => some (.int (if b then 1 else 0))
  | _ => none
def fToStr : D → Option D
  | .int i => if i.natAbs.log2 < 1920 then some (.str (toString i)) else none
  | _ => none
def fSum : D → Option D
  | .list ds => (allInts ds).map fun l => .int l.sum
  | _ => none
def metN (xs : List Str) : Nat → Nat
  | 0 => 0
  | i + 1 => if (xs.take i).any (· == xs.getD i Str.empty) then metN xs i else metN xs i + 1
def fSetlen : D → Option D
  | .list ds => match allStrs ds with
    | some l => if l.length < 4000 then some (.int (metN l l.length : Nat)) else none
    | none => match allInts ds with
      | some l => if decide l.Nodup && decide (l.length < 60) then some (.int (l.length : Nat)) else none
      | none => none
  | _ => none
def fTuple : D → Option D
  | .tuple ds => some (.tuple ds)
  | .list ds => some (.tuple ds)
  | _ => none
def opF : Op → List D → Option D
  | .add => fAdd
  | .sub => fII fun i j => some (.int (i - j))
  | .mul => fMul
  | .fdiv => fII fun i j => if divOk i j then some (.int (i.fdiv j)) else none
  | .mod => fII fun i j => if decide (j ≠ 0) then some (.int (i.fmod j)) else none
  | .pow => fII fun i j => if decide (0 ≤ j) && decide (j ≤ 100) && decide (i.natAbs < 2 ^ 1000) then some (.int (i ^ j.toNat)) else none
  | .neg => fI fun i => some (.int (-i))
  | .eq => f2 (fEq false)
  | .ne => f2 (fEq true)
  | .lt => fII fun i j => some (.bool (decide (i < j)))
  | .le => fII fun i j => some (.bool (decide (i ≤ j)))
  | .gt => fII fun i j => some (.bool (decide (j < i)))
  | .ge => fII fun i j => some (.bool (decide (j ≤ i)))
  | .inn => f2 (fIn false)
  | .nin => f2 (fIn true)
  | .isN => f1 fun a => some (.bool (isNone a))
  | .notN => f1 fun a => some (.bool (!isNone a))
  | .isB b => fB fun c => .bool (decide (c = b))
  | .notB b => fB fun c => .bool (!decide (c = b))
  | .not => fB fun c => .bool (!c)
  | .idx => f2 fIdx
  | .len => f1 fLen
  | .isi T => f1 fun a => some (.bool (isT a T))
  | .toInt => f1 fToInt
  | .toStr => f1 fToStr
  | .repr => f1 fun a => if reprOk a then some (.str a.shown) else none
  | .max2 => fII fun i j => some (.int (if j > i then j else i))
  | .min2 => fII fun i j => some (.int (if j < i then j else i))
  | .sum => f1 fSum
  | .bitlen => fI fun i => some (.int (Builtin.Int.intBits i : Nat))
  | .setlen => f1 fSetlen
  | .tuple => f1 fTuple
  | _ => fun _ => none
def cutA {α : Type} (xs : List α) (lo hi : Option Int) : List α :=
  (xs.drop (HT.sIx xs.length 0 lo)).take (HT.sIx xs.length xs.length hi - HT.sIx xs.length 0 lo)
def nAdd : List D → Option Cell
  | [.list a, .list b] => if a.length + b.length ≤ 1000000 then some (.lst (a ++ b) false) else none
  | _ => none
def nList : List D → Option Cell
  | [.list a] => some (.lst a false)
  | [.tuple a] => some (.lst a false)
  | _ => none
def nRev : List D → Option Cell
  | [.list a] => some (.lst a.reverse false)
  | _ => none
def nCut (lo hi : Bool) : List D → Option Cell
  | [.list a, .int i] => if lo then (if hi then none else some (.lst (cutA a (some i) none) false)) else if hi then some (.lst (cutA a none (some i)) false) else none
  | [.list a, .int i, .int j] => if lo && hi then some (.lst (cutA a (some i) (some j)) false) else none
  | _ => none
def nDict : List D → Option Cell
  | [.list ps] => match prI ps with
    | some l => some (.dct (l.foldl (fun acc p => dPutI acc p.1 p.2) []) false)
    | none => none
  | _ => none
def insI (x : Int) : List Int → List Int
  | [] => [x]
  | y :: r => if x < y then x :: y :: r else if x = y then y :: r else y :: insI x r
def sortI (ns : List Int) : List Int := ns.foldr insI []
def catI : List D → Option (List Int)
  | [] => some []
  | .list ds :: r => match allInts ds, catI r with
    | some a, some b => some (a ++ b)
    | _, _ => none
  | _ :: _ => none
def srtF : D → Option Cell
  | .list ls => match catI ls with
    | some ns => if ns.length < 64 then some (.lst ((sortI ns).map PyData.int) false) else none
    | none => none
  | _ => none
def opN : Op → List D → Option Cell
  | .add => nAdd
  | .list => nList
  | .slRev => nRev
  | .slLo => nCut true false
  | .slHi => nCut false true
  | .slLH => nCut true true
  | .dictP => nDict
  | _ => fun _ => none
def Cell.data : Cell → D
  | .lst xs _ => .list xs
  | .dct kvs _ => .dict kvs
def view (m : Mu) : Vl → Option D
  | .t d => some d
  | .loc n => (m[n]?).map Cell.data
  | _ => none
def views (m : Mu) : List Vl → Option (List D)
  | [] => some []
  | v :: r => match view m v, views m r with
    | some d, some ds => some (d :: ds)
    | _, _ => none
def Cell.freeze : Cell → Cell
  | .lst xs _ => .lst xs true
  | .dct kvs _ => .dct kvs true
def down (b : Nat) (m : Mu) : Vl → Option (D × Mu)
  | .t d => some (d, m)
  | .loc n => if b ≤ n then match m[n]? with
      | some c => some (c.data, m.set n c.freeze)
      | none => none
    else none
  | _ => none
inductive Tg where
  | one (i : Nat)
  | many (is : List Nat)
mutual
inductive Ex where
  | var (i : Nat)
  | con (d : D)
  | op (o : Op) (es : Exs)
  | and (a b : Ex) | or (a b : Ex) | ife (c a b : Ex)
  | chain (o p : Op) (a b c : Ex)
  | tup (es : Exs)
  | new (w : Nw)
  | mk (w : Nw)
  | frz (e : Ex)
  | call (f : Nat) (es : Exs)
  | callk (f : Nat) (ix : List Nat) (es : Exs)
  | isx (c : Str) (cs : List (Str × Bool)) (e : Ex)
  | fld (cs : List Str) (e : Ex)
  | isNe (neg : Bool) (e : Ex)
  | tupv (es : Exs)
  | idxv (i : Nat) (e : Ex)
  | reprL (es : Exs)
  | popAt (i : Nat) (e : Ex)
  | get2 (o k x : Ex)
  | mkE (c : Str) (e : Ex)
  | mkB (c : Str)
  | isv (cs : List Str) (e : Ex)
  | pick (es : Exs) (e : Ex)
inductive Nw where
  | lst (es : Exs)
  | op (o : Op) (es : Exs)
  | dct (ks : List Str) (es : Exs)
  | dct0
  | rep (es : Exs) (k : Ex)
  | comp (elt : Ex) (tg : Tg) (src : Src) (cond : Option Ex) (own : List Nat)
  | srtU (e : Ex)
  | comp2 (elt : Ex) (tg : Tg) (src : Src) (tg1 : Tg) (src1 : Src) (own own1 : List Nat)
inductive Exs where
  | nil
  | cons (e : Ex) (es : Exs)
inductive Src where
  | val (e : Ex)
  | range (es : Exs)
  | enum (e : Ex)
  | zipS (a b : Ex)
end
mutual
inductive St where
  | set (i : Nat) (e : Ex)
  | unp (is : List Nat) (e : Ex)
  | par (i j : Nat) (a b : Ex)
  | app (i : Nat) (e : Ex)
  | ext (i : Nat) (e : Ex)
  | put (i : Nat) (k e : Ex)
  | putd (i : Nat) (k e : Ex)
  | par3 (i j l : Nat) (a b c : Ex)
  | exp (e : Ex)
  | iff (c : Ex) (a b : Sts)
  | forr (tg : Tg) (src : Src) (body : Sts)
  | whl (fuel : Nat) (c : Ex) (body : Sts)
  | ret (e : Ex)
  | pass | brk | cont | rai
  | rs (c : Str) (e : Ex)
  | expx (f : Nat) (es : Exs)
  | retx (f : Nat) (es : Exs)
  | tri (cs : List Str) (body : Sts) (en i : Nat)
inductive Sts where
  | nil
  | cons (s : St) (r : Sts)
end
structure Fn where
  np : Nat
  nl : Nat
  body : Sts
  keep : Bool := false
inductive Fl where
  | nx (r : En) | bk (r : En) | ct (r : En) | rt (v : Vl) | ex (r : En) (c : Str) (x : D ⊕ Nat)
def wipeE (r : En) : List Nat → En
  | [] => r
  | v :: vs => (wipeE r vs).set v none
def setTg (r : En) : Tg → D → Option En
  | .one i, d => some (r.set i (some (.t d)))
  | .many is, .tuple ds => if ds.length = is.length then some (setMany r is ds) else none
  | .many _, _ => none
where
  setMany (r : En) : List Nat → List D → En
    | i :: is, d :: ds => setMany (r.set i (some (.t d))) is ds
    | _, _ => r
section
variable (call : Nat → List Vl → Mu → Option (Vl × Mu)) (b : Nat)
def rangeD (lo : Int) (n : Nat) : List D := (List.range n).map fun (k : Nat) => .int (lo + k)
def enumD (ds : List D) : List D := (List.range ds.length).zipWith (fun (k : Nat) d => .tuple [.int k, d]) ds
def zipD (ds es : List D) : List D := ds.zipWith (fun d e => .tuple [d, e]) es
def small (i : Int) : Bool := decide (-(2 ^ 62) ≤ i) && decide (i < 2 ^ 62)
def srcF : D → Option (List D)
  | .list ds => some ds
  | .tuple ds => some ds
  | .str x => some (x.cps.toList.map fun c => .str ⟨#[c]⟩)
  | _ => none
def lstF : D → Option (List D)
  | .list ds => some ds
  | _ => none
def rangeF : List D → Option (List D)
  | [.int j] => if small j then some (rangeD 0 j.toNat) else none
  | [.int i, .int j] => if small i && small j then some (rangeD i (j - i).toNat) else none
  | _ => none
def compLoop (n : Nat) (elt : En → Mu → Option (Vl × Mu)) (cond : En → Mu → Option (Vl × Mu)) (tg : Tg) (r0 : En) : List D → Mu → Option Mu
  | [], m => some m
  | d :: ds, m => do
    let r ← setTg r0 tg d
    let (c, m) ← cond r m
    match c with
    | .t (.bool true) =>
      let (v, m) ← elt r m
      let (d, m) ← down b m v
      match m[n]? with
      | some (.lst xs false) => if xs.length < 1000000 then compLoop n elt cond tg r0 ds (m.set n (.lst (xs ++ [d]) false)) else none
      | _ => none
    | .t (.bool false) => compLoop n elt cond tg r0 ds m
    | _ => none
def comp2Loop (n : Nat) (src1 : En → Mu → Option (List D × Mu)) (elt : En → Mu → Option (Vl × Mu)) (tg tg1 : Tg) (r0 : En) (own1 : List Nat) : List D → Mu → Option Mu
  | [], m => some m
  | d :: ds, m => do
    let r ← setTg r0 tg d
    let (es, m) ← src1 r m
    let m ← compLoop b n elt (fun _ m => some (.t (.bool true), m)) tg1 (wipeE r own1) es m
    comp2Loop n src1 elt tg tg1 r0 own1 ds m
def forLoop (body : En → Mu → Option (Fl × Mu)) (tg : Tg) : List D → En → Mu → Option (Fl × Mu)
  | [], r, m => some (.nx r, m)
  | d :: ds, r, m => do
    let r ← setTg r tg d
    let (f, m) ← body r m
    match f with
    | .nx r => forLoop body tg ds r m
    | .ct r => forLoop body tg ds r m
    | .bk r => some (.nx r, m)
    | .rt v => some (.rt v, m)
    | .ex r c x => some (.ex r c x, m)
def whileLoop (c : En → Mu → Option (Vl × Mu)) (body : En → Mu → Option (Fl × Mu)) : Nat → En → Mu → Option (Fl × Mu)
  | 0, _, _ => none
  | n + 1, r, m => do
    let (v, m) ← c r m
    match v with
    | .t (.bool true) =>
      let (f, m) ← body r m
      match f with
      | .nx r => whileLoop c body n r m
      | .ct r => whileLoop c body n r m
      | .bk r => some (.nx r, m)
      | .rt v => some (.rt v, m)
      | .ex r c x => some (.ex r c x, m)
    | .t (.bool false) => some (.nx r, m)
    | _ => none
def lstV (r : En) (i : Nat) (m : Mu) : Option Unit := match r[i]? with
  | some (some (.loc n)) => (match m[n]? with
    | some (.lst _ _) => some ()
    | _ => none)
  | _ => none
def dctV (m : Mu) (v : Vl) : Option Unit := match view m v with
  | some (.dict _) => some ()
  | _ => none
def get2F (v u w : Vl) (m : Mu) : Option (Vl × Mu) := match view m v, u, w with
  | some (.dict kvs), .t (.int k), .t d => if allK kvs = true then some (.t ((dLookI kvs k).getD d), m) else none
  | _, _, _ => none
def popF (r : En) (i : Nat) (v : Vl) (m : Mu) : Option (Vl × Mu) := match r[i]?, v with
  | some (some (.loc n)), .t (.int z) => (match m[n]? with
    | some (.lst xs false) => if small z = true then (match L2.ixN xs.length z with
      | some j => (match xs[j]? with
        | some d => some (.t d, m.set n (.lst (xs.eraseIdx j) false))
        | none => none)
      | none => none) else none
    | _ => none)
  | _, _ => none
def simL : List Vl → Option (List (D ⊕ Nat))
  | [] => some []
  | v :: vs => match v.sim, simL vs with
    | some x, some xs => some (x :: xs)
    | _, _ => none
def dataX : List (D ⊕ Nat) → Option (List D)
  | [] => some []
  | .inl d :: xs => match dataX xs with
    | some ds => some (d :: ds)
    | none => none
  | .inr _ :: _ => none
def tupX (xs : List (D ⊕ Nat)) : Vl := match dataX xs with
  | some ds => .t (.tuple ds)
  | none => .tv xs
def dpair (ks : List Str) (ds : List D) : List (D × D) := (ks.map PyData.str).zip ds
mutual
def evalE : Ex → En → Mu → Option (Vl × Mu)
  | .var i, r, m => match r[i]? with
    | some (some v) => some (v, m)
    | _ => none
  | .con d, _, m => some (.t d, m)
  | .op o es, r, m => do
    let (vs, m) ← evalL es r m
    let ds ← views m vs
    match opF o ds with
    | some d => some (.t d, m)
    | none => match opN o ds with
      | some c => some (.t c.data, m)
      | none => none
  | .and a c, r, m => do
    let (v, m) ← evalE a r m
    match v with
    | .t (.bool true) => match evalE c r m with
      | some (.t (.bool k), m) => some (.t (.bool k), m)
      | _ => none
    | .t (.bool false) => some (.t (.bool false), m)
    | _ => none
  | .or a c, r, m => do
    let (v, m) ← evalE a r m
    match v with
    | .t (.bool false) => match evalE c r m with
      | some (.t (.bool k), m) => some (.t (.bool k), m)
      | _ => none
    | .t (.bool true) => some (.t (.bool true), m)
    | _ => none
  | .chain o p x y z, r, m => do
    let (v, m) ← evalE x r m
    let (u, m) ← evalE y r m
    match views m [v, u] with
    | some ds => match opF o ds with
      | some (.bool true) => match evalE z r m with
        | some (w, m) => match views m [u, w] with
          | some es => match opF p es with
            | some d => some (.t d, m)
            | none => none
          | none => none
        | none => none
      | some (.bool false) => some (.t (.bool false), m)
      | _ => none
    | none => none
  | .ife c x y, r, m => do
    let (v, m) ← evalE c r m
    match v with
    | .t (.bool true) => evalE x r m
    | .t (.bool false) => evalE y r m
    | _ => none
  | .tup es, r, m => do
    let (ds, m) ← evalD es r m
    if ds.length ≤ 1000000 then some (.t (.tuple ds), m) else none
  | .new w, r, m => do
    let (c, m) ← evalN w r m
    some (.t c.data, m)
  | .mk w, r, m => do
    let (c, m) ← evalN w r m
    some (.loc m.length, m ++ [c])
  | .frz e, r, m => do
    let (v, m) ← evalE e r m
    let (d, m) ← down b m v
    some (.t d, m)
  | .call f es, r, m => do
    let (vs, m) ← evalL es r m
    call f vs m
  | .callk f ix es, r, m => do
    let (vs, m) ← evalL es r m
    call f (ix.filterMap fun i => vs[i]?) m
  | .isx _ cs e, r, m => do
    let (v, m) ← evalE e r m
    match v with
    | .er c _ => match cs.lookup c with
      | some k => some (.t (.bool k), m)
      | none => none
    | .t _ => some (.t (.bool false), m)
    | _ => none
  | .fld cs e, r, m => do
    let (v, m) ← evalE e r m
    match v with
    | .er c x => if cs.contains c then some (Vl.s x, m) else none
    | _ => none
  | .isNe neg e, r, m => do
    let (v, m) ← evalE e r m
    match v with
    | .er _ _ => some (.t (.bool neg), m)
    | .t d => some (.t (.bool (if neg then !isNone d else isNone d)), m)
    | _ => none
  | .tupv es, r, m => do
    let (vs, m) ← evalL es r m
    let xs ← simL vs
    if xs.length ≤ 1000000 then some (tupX xs, m) else none
  | .idxv i e, r, m => do
    let (v, m) ← evalE e r m
    match v with
    | .tv xs => match xs[i]? with
      | some x => some (Vl.s x, m)
      | none => none
    | .t d => match fIdxN d i with
      | some d => some (.t d, m)
      | none => none
    | _ => none
  | .reprL es, r, m => do
    let (vs, m) ← evalL es r m
    let ds ← views m vs
    if decide (ds.length ≤ 1000) && reprOkL ds then some (.t (.str (PyData.shown (.list ds))), m) else none
  | .get2 o k x, r, m => do
    let (v, m) ← evalE o r m
    let _ ← dctV m v
    let (u, m) ← evalE k r m
    let (w, m) ← evalE x r m
    get2F v u w m
  | .popAt i e, r, m => do
    let _ ← lstV r i m
    let (v, m) ← evalE e r m
    popF r i v m
  | .mkE c e, r, m => do
    let (v, m) ← evalE e r m
    match v.sim with
    | some x => some (.er c x, m)
    | none => none
  | .mkB c, _, m => some (.er c (.inl .none), m)
  | .isv cs e, r, m => do
    let (v, m) ← evalE e r m
    match v with
    | .er c _ => if cs.contains c then some (.t (.bool true), m) else none
    | _ => none
  | .pick es e, r, m => do
    let (vs, m) ← evalL es r m
    let xs ← simL vs
    if xs.length ≤ 1000000 then do
      let (v, m) ← evalE e r m
      match v with
      | .t (.int z) => match L2.atI xs z with
        | some x => some (Vl.s x, m)
        | none => none
      | _ => none
    else none
def evalN : Nw → En → Mu → Option (Cell × Mu)
  | .lst es, r, m => do
    let (ds, m) ← evalD es r m
    if ds.length ≤ 1000000 then some (.lst ds false, m) else none
  | .op o es, r, m => do
    let (vs, m) ← evalL es r m
    let ds ← views m vs
    let c ← opN o ds
    some (c, m)
  | .dct ks es, r, m => do
    let n := m.length
    let (ds, m) ← evalD es r (m ++ [.dct [] false])
    match m[n]? with
    | some (.dct [] false) => if decide (m.length = n + 1) && decide (ds.length = ks.length) && decide (ks.length ≤ 15) && decide ks.Nodup then some (.dct (dpair ks ds) false, m.take n) else none
    | _ => none
  | .dct0, _, m => some (.dct [] false, m)
  | .rep es k, r, m => do
    let (ds, m) ← evalD es r m
    let (v, m) ← evalE k r m
    match v with
    | .t (.int i) => if decide (ds.length ≤ 1000) && decide (0 ≤ i) && decide (i ≤ 1000) then some (.lst (List.replicate i.toNat ds).flatten false, m) else none
    | _ => none
  | .comp elt tg src cond own, r, m => do
    let (ds, m) ← evalS src r m
    let n := m.length
    let m ← compLoop b n (fun r m => evalE elt r m) (fun r m => match cond with
      | none => some (.t (.bool true), m)
      | some c => evalE c r m) tg (wipeE r own) ds (m ++ [.lst [] false])
    match m[n]? with
    | some (.lst xs false) => if m.length = n + 1 then some (.lst xs false, m.take n) else none
    | _ => none
  | .srtU e, r, m => do
    let (v, m) ← evalE e r m
    let (d, m) ← down b m v
    let c ← srtF d
    some (c, m)
  | .comp2 elt tg src tg1 src1 own own1, r, m => do
    let (ds, m) ← evalS src r m
    let n := m.length
    let m ← comp2Loop b n (fun r m => evalS src1 r m) (fun r m => evalE elt r m) tg tg1 (wipeE r own) own1 ds (m ++ [.lst [] false])
    match m[n]? with
    | some (.lst xs false) => if m.length = n + 1 then some (.lst xs false, m.take n) else none
    | _ => none
def evalL : Exs → En → Mu → Option (List Vl × Mu)
  | .nil, _, m => some ([], m)
  | .cons e es, r, m => do
    let (v, m) ← evalE e r m
    let (vs, m) ← evalL es r m
    some (v :: vs, m)
def evalD : Exs → En → Mu → Option (List D × Mu)
  | .nil, _, m => some ([], m)
  | .cons e es, r, m => do
    let (v, m) ← evalE e r m
    let (d, m) ← down b m v
    let (ds, m) ← evalD es r m
    some (d :: ds, m)
def evalS : Src → En → Mu → Option (List D × Mu)
  | .val e, r, m => do
    let (v, m) ← evalE e r m
    let (d, m) ← down b m v
    let ds ← srcF d
    some (ds, m)
  | .range es, r, m => do
    let (vs, m) ← evalL es r m
    let ds ← views m vs
    let l ← rangeF ds
    some (l, m)
  | .enum e, r, m => do
    let (v, m) ← evalE e r m
    let (d, m) ← down b m v
    let ds ← lstF d
    some (enumD ds, m)
  | .zipS x y, r, m => do
    let (v, m) ← evalE x r m
    let (d, m) ← down b m v
    let (u, m) ← evalE y r m
    let (e, m) ← down b m u
    let ds ← lstF d
    let es ← lstF e
    if ds.length = es.length then some (zipD ds es, m) else none
end
end
section
variable (cx : Nat → List Vl → Mu → Option (XR × Mu)) (b : Nat)
mutual
def execS : St → En → Mu → Option (Fl × Mu)
  | .set i e, r, m => do
    let (v, m) ← evalE (valC cx) b e r m
    some (.nx (r.set i (some v)), m)
  | .unp is e, r, m => do
    let (v, m) ← evalE (valC cx) b e r m
    match v with
    | .t d => match setTg r (.many is) d with
      | some r => some (.nx r, m)
      | none => none
    | _ => none
  | .par i j x y, r, m => do
    let (v, m) ← evalE (valC cx) b x r m
    let (u, m) ← evalE (valC cx) b y r m
    some (.nx ((r.set i (some v)).set j (some u)), m)
  | .app i e, r, m => match r[i]? with
    | some (some (.loc n)) => match m[n]? with
      | some (.lst _ _) => do
        let (v, m) ← evalE (valC cx) b e r m
        let (d, m) ← down b m v
        match m[n]? with
        | some (.lst xs false) => if xs.length < 1000000 then some (.nx r, m.set n (.lst (xs ++ [d]) false)) else none
        | _ => none
      | _ => none
    | _ => none
  | .ext i e, r, m => match r[i]? with
    | some (some (.loc n)) => match m[n]? with
      | some (.lst _ _) => do
        let (v, m) ← evalE (valC cx) b e r m
        let d ← view m v
        match m[n]?, d with
        | some (.lst xs false), .list ys => if xs.length + ys.length ≤ 1000000 then some (.nx r, m.set n (.lst (xs ++ ys) false)) else none
        | _, _ => none
      | _ => none
    | _ => none
  | .put i k e, r, m => do
    let (v, m) ← evalE (valC cx) b e r m
    let (d, m) ← down b m v
    match r[i]? with
    | some (some (.loc n)) => do
      let (kv, m) ← evalE (valC cx) b k r m
      match kv, m[n]? with
      | .t (.int z), some (.lst xs false) => match L2.ixN xs.length z with
        | some j => some (.nx r, m.set n (.lst (xs.set j d) false))
        | none => none
      | _, _ => none
    | _ => none
  | .putd i k e, r, m => do
    let (v, m) ← evalE (valC cx) b e r m
    let (d, m) ← down b m v
    match r[i]? with
    | some (some (.loc n)) => do
      let (kv, m) ← evalE (valC cx) b k r m
      match kv, m[n]? with
      | .t (.int z), some (.dct kvs false) => if allK kvs && decide (kvs.length < 1000000) then some (.nx r, m.set n (.dct (dPutI kvs z d) false)) else none
      | _, _ => none
    | _ => none
  | .par3 i j l x y z, r, m => do
    let (v, m) ← evalE (valC cx) b x r m
    let (u, m) ← evalE (valC cx) b y r m
    let (w, m) ← evalE (valC cx) b z r m
    some (.nx (((r.set i (some v)).set j (some u)).set l (some w)), m)
  | .exp e, r, m => do
    let (_, m) ← evalE (valC cx) b e r m
    some (.nx r, m)
  | .iff c x y, r, m => do
    let (v, m) ← evalE (valC cx) b c r m
    match v with
    | .t (.bool true) => execs x r m
    | .t (.bool false) => execs y r m
    | _ => none
  | .forr tg src body, r, m => do
    let (ds, m) ← evalS (valC cx) b src r m
    forLoop (fun r m => execs body r m) tg ds r m
  | .whl n c body, r, m => whileLoop (fun r m => evalE (valC cx) b c r m) (fun r m => execs body r m) n r m
  | .ret e, r, m => do
    let (v, m) ← evalE (valC cx) b e r m
    some (.rt v, m)
  | .pass, r, m => some (.nx r, m)
  | .brk, r, m => some (.bk r, m)
  | .cont, r, m => some (.ct r, m)
  | .rai, _, _ => none
  | .rs c e, r, m => do
    let (v, m) ← evalE (valC cx) b e r m
    match v.sim with
    | some x => some (.ex r c x, m)
    | none => none
  | .expx f es, r, m => do
    let (vs, m) ← evalL (valC cx) b es r m
    match cx f vs m with
    | some (.ok _, m) => some (.nx r, m)
    | some (.ex c x, m) => some (.ex r c x, m)
    | none => none
  | .retx f es, r, m => do
    let (vs, m) ← evalL (valC cx) b es r m
    match cx f vs m with
    | some (.ok v, m) => some (.rt v, m)
    | some (.ex c x, m) => some (.ex r c x, m)
    | none => none
  | .tri cs body en i, r, m => do
    let (f, m) ← execs body r m
    match f with
    | .ex r c x => if cs.contains c then some (.nx ((r.set i (some (.er c x))).set en none), m) else none
    | f => some (f, m)
def execs : Sts → En → Mu → Option (Fl × Mu)
  | .nil, r, m => some (.nx r, m)
  | .cons s rest, r, m => do
    let (f, m) ← execS s r m
    match f with
    | .nx r => execs rest r m
    | f => some (f, m)
end
end
def fin (keep : Bool) (b : Nat) (v : Vl) (m : Mu) : Option (Vl × Mu) :=
  if keep then match v with
    | .t d => some (.t d, m.take b)
    | .loc n => if n < b then some (.loc n, m.take b) else match m[n]? with
      | some (.lst xs false) => some (.loc b, m.take b ++ [.lst xs false])
      | _ => none
    | _ => none
  else match v with
    | .t d => some (.t d, m.take b)
    | .loc n => if n < b then some (.loc n, m.take b) else match m[n]? with
      | some c => some (.t c.data, m.take b)
      | none => none
    | .er c x => if okX b x then some (.er c x, m.take b) else none
    | .tv xs => if xs.all (okX b) then some (.tv xs, m.take b) else none
def finX (b : Nat) (c : Str) (x : D ⊕ Nat) (m : Mu) : Option (XR × Mu) := if okX b x then some (.ex c x, m.take b) else none
def okR : Option (Vl × Mu) → Option (XR × Mu)
  | some (v, m) => some (.ok v, m)
  | none => none
def callX (P : List Fn) : Nat → Nat → List Vl → Mu → Option (XR × Mu)
  | 0, _, _, _ => none
  | k + 1, f, vs, m => match P[f]? with
    | none => none
    | some fn => if decide (vs.length = fn.np) && decide (fn.np ≤ fn.nl) then
        match execs (callX P k) m.length fn.body (vs.map some ++ List.replicate (fn.nl - fn.np) none) m with
        | some (.rt v, m') => okR (fin fn.keep m.length v m')
        | some (.nx _, m') => okR (fin fn.keep m.length (.t .none) m')
        | some (.ex _ c x, m') => finX m.length c x m'
        | _ => none
      else none
def callF (P : List Fn) (k : Nat) : Nat → List Vl → Mu → Option (Vl × Mu) := valC (callX P k)
end TI
namespace TI
open PySem PySem.Spec PyProof.Rows L2
mutual
inductive Is (K : PySem.W.Frag) (F : Hp) : V → D → Prop
  | non : Is K F .non .none
  | bl (b : Bool) : Is K F (.bl b) (.bool b)
  | int (i : Int) : Is K F (.int i) (.int i)
  | str (x : Str) : Is K F (.str x) (.str x)
  | lst {a : Addr} {xs : List V} {ds : List D} : SqL K F a xs → IsL K F xs ds → Is K F (.ref a) (.list ds)
  | tup {a : Addr} {xs : List V} {ds : List D} : SqT K F a xs → IsL K F xs ds → Is K F (.ref a) (.tuple ds)
  | dct {a : Addr} {kvs : List (Key × V)} {es : List (D × D)} : F a = some (.dK kvs) → IsKV K F kvs es → Is K F (.ref a) (.dict es)
inductive IsL (K : PySem.W.Frag) (F : Hp) : List V → List D → Prop
  | nil : IsL K F [] []
  | cons {v : V} {vs : List V} {d : D} {ds : List D} : Is K F v d → IsL K F vs ds → IsL K F (v :: vs) (d :: ds)
inductive IsKV (K : PySem.W.Frag) (F : Hp) : List (Key × V) → List (D × D) → Prop
  | nil : IsKV K F [] []
  | cons {k : Str} {v : V} {vs : List (Key × V)} {d : D} {ds : List (D × D)} : Is K F v d → IsKV K F vs ds → IsKV K F ((.inr k, v) :: vs) ((.str k, d) :: ds)
  | consI {k : Int} {v : V} {vs : List (Key × V)} {d : D} {ds : List (D × D)} : Is K F v d → IsKV K F vs ds → IsKV K F ((.inl k, v) :: vs) ((.int k, d) :: ds)
end
def Le (F G : Hp) : Prop := ∀ a o, F a = some o → G a = some o
theorem Le.refl (F : Hp) : Le F F := fun _ _ h => h
theorem Le.trans {F G H : Hp} (a : Le F G) (b : Le G H) : Le F H := fun x o h => b x o (a x o h)
theorem Le.new {F : Hp} {p : Addr} {o : HO} (h : F p = none) : Le F (upd F p o) := fun a u e => by
  rw [upd_ne (ne_of_none e h)]; exact e
theorem Le.rd {F G : Hp} {a : Addr} {u : HO} (l : Le F G) (h : Rd F a u) : Rd G a u := by
  rcases h with h | ⟨o, h⟩
  · exact .inl (l _ _ h)
  · exact .inr ⟨o, l _ _ h⟩
theorem Le.sl {K : PySem.W.Frag} {F G : Hp} {a : Addr} {xs : List V} (l : Le F G) (h : SqL K F a xs) : SqL K G a xs := by
  rcases h with h | h
  · exact .inl (l.rd h)
  · exact .inr h
theorem Le.st {K : PySem.W.Frag} {F G : Hp} {a : Addr} {xs : List V} (l : Le F G) (h : SqT K F a xs) : SqT K G a xs := by
  rcases h with h | h
  · exact .inl (l.rd h)
  · exact .inr h
section
variable {K : PySem.W.Frag} {F G H : Hp}
mutual
theorem Is.mono (l : Le F G) : ∀ {v : V} {d : D}, Is K F v d → Is K G v d
  | _, _, .non => .non
  | _, _, .bl b => .bl b
  | _, _, .int i => .int i
  | _, _, .str x => .str x
  | _, _, .lst h k => .lst (l.sl h) (IsL.mono l k)
  | _, _, .tup h k => .tup (l.st h) (IsL.mono l k)
  | _, _, .dct h k => .dct (l _ _ h) (IsKV.mono l k)
theorem IsL.mono (l : Le F G) : ∀ {v : List V} {d : List D}, IsL K F v d → IsL K G v d
  | _, _, .nil => .nil
  | _, _, .cons h k => .cons (Is.mono l h) (IsL.mono l k)
theorem IsKV.mono (l : Le F G) : ∀ {v : List (Key × V)} {d : List (D × D)}, IsKV K F v d → IsKV K G v d
  | _, _, .nil => .nil
  | _, _, .cons h k => .cons (Is.mono l h) (IsKV.mono l k)
  | _, _, .consI h k => .consI (Is.mono l h) (IsKV.mono l k)
end
theorem IsL.length : ∀ {xs : List V} {ds : List D}, IsL K F xs ds → xs.length = ds.length
  | _, _, .nil => rfl
  | _, _, .cons _ k => by rw [List.length_cons, List.length_cons, IsL.length k]
theorem IsKV.length : ∀ {xs : List (Key × V)} {ds : List (D × D)}, IsKV K F xs ds → xs.length = ds.length
  | _, _, .nil => rfl
  | _, _, .cons _ k => by rw [List.length_cons, List.length_cons, IsKV.length k]
  | _, _, .consI _ k => by rw [List.length_cons, List.length_cons, IsKV.length k]
theorem IsL.get : ∀ {xs : List V} {ds : List D}, IsL K F xs ds → ∀ {i : Nat} {d : D}, ds[i]? = some d → ∃ v, xs[i]? = some v ∧ Is K F v d
  | _, _, .nil, i, d, h => by simp at h
  | _, _, .cons r _, 0, d, h => by
    simp at h; subst h; exact ⟨_, rfl, r⟩
  | _, _, .cons _ k, i + 1, d, h => by
    obtain ⟨v, e, r⟩ := IsL.get k (i := i) (d := d) (by simpa using h)
    exact ⟨v, by simpa using e, r⟩
theorem IsL.append : ∀ {xs ys : List V} {ds es : List D}, IsL K F xs ds → IsL K F ys es → IsL K F (xs ++ ys) (ds ++ es)
  | _, _, _, _, .nil, k => k
  | _, _, _, _, .cons r k, l => .cons r (IsL.append k l)
theorem IsL.take : ∀ (n : Nat) {xs : List V} {ds : List D}, IsL K F xs ds → IsL K F (xs.take n) (ds.take n)
  | 0, _, _, _ => .nil
  | _ + 1, _, _, .nil => .nil
  | n + 1, _, _, .cons r k => .cons r (IsL.take n k)
theorem IsL.drop : ∀ (n : Nat) {xs : List V} {ds : List D}, IsL K F xs ds → IsL K F (xs.drop n) (ds.drop n)
  | 0, _, _, k => k
  | _ + 1, _, _, .nil => .nil
  | n + 1, _, _, .cons _ k => IsL.drop n k
theorem IsL.set : ∀ (j : Nat) {xs : List V} {ds : List D} {v : V} {d : D}, IsL K F xs ds → Is K F v d → IsL K F (xs.set j v) (ds.set j d)
  | _, _, _, _, _, .nil, _ => .nil
  | 0, _, _, _, _, .cons _ k, r => .cons r k
  | j + 1, _, _, _, _, .cons q k, r => .cons q (IsL.set j k r)
theorem IsL.flat : ∀ (n : Nat) {xs : List V} {ds : List D}, IsL K F xs ds → IsL K F (List.replicate n xs).flatten (List.replicate n ds).flatten
  | 0, _, _, _ => .nil
  | n + 1, xs, ds, k => by
    rw [List.replicate_succ, List.replicate_succ, List.flatten_cons, List.flatten_cons]
    exact IsL.append k (IsL.flat n k)
theorem IsL.cut {xs : List V} {ds : List D} (lo hi : Option Int) (k : IsL K F xs ds) : IsL K F (cutV xs lo hi) (cutA ds lo hi) := by
  unfold cutV cutA
  rw [k.length]
  exact IsL.take _ (IsL.drop _ k)
theorem IsL.rev : ∀ {xs : List V} {ds : List D}, IsL K F xs ds → IsL K F xs.reverse ds.reverse
  | _, _, .nil => .nil
  | _, _, .cons r k => by
    rw [List.reverse_cons, List.reverse_cons]
    exact IsL.append (IsL.rev k) (.cons r .nil)
theorem IsL.ints : ∀ {xs : List V} {ds : List D} {ns : List Int}, IsL K F xs ds → allInts ds = some ns → xs = ns.map V.int
  | _, _, ns, .nil, h => by
    simp [allInts] at h; subst h; rfl
  | _, _, ns, .cons (d := d) r k, h => by
    cases r with
    | int i =>
      unfold allInts at h
      split at h
      · rename_i l e
        cases h
        rw [IsL.ints k e]; rfl
      · cases h
    | _ => simp [allInts] at h
theorem IsL.strs : ∀ {xs : List V} {ds : List D} {ns : List Str}, IsL K F xs ds → allStrs ds = some ns → xs = ns.map V.str
  | _, _, ns, .nil, h => by
    simp [allStrs] at h; subst h; rfl
  | _, _, ns, .cons (d := d) r k, h => by
    cases r with
    | str i =>
      unfold allStrs at h
      split at h
      · rename_i l e
        cases h
        rw [IsL.strs k e]; rfl
      · cases h
    | _ => simp [allStrs] at h
inductive Vw (K : PySem.W.Frag) (F H : Hp) : V → D → Prop
  | of {v : V} {d : D} : Is K F v d → Vw K F H v d
  | lst {a : Addr} {xs : List V} {ds : List D} : H a = some (.lst xs) → IsL K F xs ds → Vw K F H (.ref a) (.list ds)
  | dct {a : Addr} {kvs : List (Key × V)} {es : List (D × D)} : H a = some (.dK kvs) → IsKV K F kvs es → Vw K F H (.ref a) (.dict es)
theorem Vw.list (l : Le F H) {v : V} {ds : List D} (h : Vw K F H v (.list ds)) : ∃ a xs, v = .ref a ∧ SqL K H a xs ∧ IsL K F xs ds := by
  cases h with
  | of h => cases h with | lst h k => exact ⟨_, _, rfl, l.sl h, k⟩
  | lst h k => exact ⟨_, _, rfl, SqL.of h, k⟩
theorem Vw.tup (l : Le F H) {v : V} {ds : List D} (h : Vw K F H v (.tuple ds)) : ∃ a xs, v = .ref a ∧ SqT K H a xs ∧ IsL K F xs ds := by
  cases h with
  | of h => cases h with | tup h k => exact ⟨_, _, rfl, l.st h, k⟩
theorem Vw.dict (l : Le F H) {v : V} {ds : List (D × D)} (h : Vw K F H v (.dict ds)) : ∃ a kvs, v = .ref a ∧ H a = some (.dK kvs) ∧ IsKV K F kvs ds := by
  cases h with
  | of h => cases h with | dct h k => exact ⟨_, _, rfl, l _ _ h, k⟩
  | dct h k => exact ⟨_, _, rfl, h, k⟩
theorem Vw.int {v : V} {i : Int} (h : Vw K F H v (.int i)) : v = .int i := by
  cases h with | of h => cases h; rfl
theorem Vw.str {v : V} {i : Str} (h : Vw K F H v (.str i)) : v = .str i := by
  cases h with | of h => cases h; rfl
theorem Vw.bool {v : V} {i : Bool} (h : Vw K F H v (.bool i)) : v = .bl i := by
  cases h with | of h => cases h; rfl
theorem Vw.none {v : V} (h : Vw K F H v .none) : v = .non := by
  cases h with | of h => cases h; rfl
mutual
theorem Is.dp (l : Le F H) : ∀ {v : V} {d : D}, Is K F v d → d.canLay0 = true → Dp K H v d
  | _, _, .non, _ => .non
  | _, _, .bl b, _ => .bl b
  | _, _, .int i, _ => .int i
  | _, _, .str x, _ => .str x
  | _, _, .lst h k, c => .lst (l.sl h) (IsL.dp l k (by simpa only [PyData.canLay0] using c))
  | _, _, .tup h k, c => .tup (l.st h) (IsL.dp l k (by simpa only [PyData.canLay0] using c))
  | _, _, .dct h k, c => by simp [PyData.canLay0] at c
theorem IsL.dp (l : Le F H) : ∀ {v : List V} {d : List D}, IsL K F v d → PyData.canLayAll0 d = true → DpAll K H v d
  | _, _, .nil, _ => .nil
  | _, _, .cons h k, c => by
    simp only [PyData.canLayAll0, Bool.and_eq_true] at c
    exact .cons (Is.dp l h c.1) (IsL.dp l k c.2)
end
theorem Vw.dp (l : Le F H) {v : V} {d : D} (h : Vw K F H v d) (c : SeqAt.shaped d = true) : Dp K H v d := by
  have c0 := SeqAt.canLay_of_shaped c
  cases h with
  | of h => exact h.dp l c0
  | lst h k => exact .lst (SqL.of h) (k.dp l (by simpa only [PyData.canLay0] using c0))
  | dct h k => simp [PyData.canLay0] at c0
end
end TI
set_option maxHeartbeats 1000000
namespace TI
open PySem PySem.Spec PyProof.Rows L2
structure Grow (F H F' H' : Hp) : Prop where
  ff : Le F F'
  hh : Le H H'
  fh : Le F' H'
  nw : ∀ a, F' a ≠ none → F a ≠ none ∨ H a = none
theorem Grow.refl {F H : Hp} (l : Le F H) : Grow F H F H := ⟨Le.refl F, Le.refl H, l, fun _ h => .inl h⟩
theorem upd_mono {F H : Hp} {p : Addr} {o : HO} (l : Le F H) : Le (upd F p o) (upd H p o) := fun a u e => by
  by_cases h : a = p
  · subst h; rw [upd_same] at e ⊢; exact e
  · rw [upd_ne h] at e ⊢; exact l a u e
theorem Grow.new {F H : Hp} {p : Addr} {o : HO} (l : Le F H) (n : H p = none) : Grow F H (upd F p o) (upd H p o) := by
  have nf : F p = none := by
    cases e : F p with
    | none => rfl
    | some u => rw [l p u e] at n; cases n
  refine ⟨Le.new nf, Le.new n, upd_mono l, fun a h => ?_⟩
  by_cases e : a = p
  · subst e; exact .inr n
  · rw [upd_ne e] at h; exact .inl h
def Res (K : PySem.W.Frag) (F H : Hp) (d : D) (Q : VK) : Prop := ∀ v F' H', Grow F H F' H' → Is K F' v d → Q v H'
def CellO (K : PySem.W.Frag) (F : Hp) : Cell → HO → Prop
  | .lst ds _, o => ∃ xs, o = .lst xs ∧ IsL K F xs ds
  | .dct es _, o => ∃ kvs, o = .dK kvs ∧ IsKV K F kvs es
def ResN (K : PySem.W.Frag) (F H : Hp) (c : Cell) (Q : VK) : Prop := ∀ p o, H p = none → CellO K F c o → Q (.ref p) (upd H p o)
theorem nof {F H : Hp} {p : Addr} (l : Le F H) (n : H p = none) : F p = none := by
  cases e : F p with
  | none => rfl
  | some u => rw [l p u e] at n; cases n
theorem Res.frz {K : PySem.W.Frag} {F H : Hp} {c : Cell} {Q : VK} (l : Le F H) (r : Res K F H c.data Q) : ResN K F H c Q := by
  intro p o n h
  refine r _ _ _ (Grow.new l n) ?_
  cases c with
  | lst ds fz =>
    obtain ⟨xs, rfl, k⟩ := h
    exact .lst (SqL.of upd_same) (k.mono (Le.new (nof l n)))
  | dct es fz =>
    obtain ⟨kvs, rfl, k⟩ := h
    exact .dct upd_same (k.mono (Le.new (nof l n)))
theorem Res.at {K : PySem.W.Frag} {F H : Hp} {d : D} {Q : VK} {v : V} (r : Res K F H d Q) (l : Le F H) (i : Is K F v d) : Q v H := r v F H (Grow.refl l) i
section
variable {X : Cx}
theorem log2_of {i : Int} {n : Nat} (h : i.natAbs < 2 ^ n) (h0 : 0 < n) : i.natAbs.log2 < n := PySem.Flt.log2_lt_of h0 h
theorem op_divT : OpR X (binaryOp .FloorDiv) (rI (fun _ j => divOk 0 j = true) fun i j => .int (i.fdiv j)) := opI fun i j _ _ _ _ _ hc q => by
  simp only [divOk, Bool.and_eq_true, decide_eq_true_eq] at hc
  exact floordiv_int hc.1 q (.inl (PyProof.noPylong_of_log2 (Nat.lt_of_lt_of_le (log2_of hc.2 (by decide)) (by decide))))
theorem mulOk_ok {i j : Int} (h : mulOk i j = true) : IntMulOk i j := by
  simp only [mulOk, Bool.or_eq_true, Bool.and_eq_true, decide_eq_true_eq] at h
  rcases h with h | ⟨h1, h2⟩
  · exact .of_left (intBits_le_64 (by omega) (by omega))
  · refine CMulW.ok ?_
    have a := log2_of h1 (by decide)
    have b := log2_of h2 (by decide)
    unfold CMulW
    omega
theorem op_mulT : OpR X (binaryOp .Mult) (rI (fun i j => mulOk i j = true) fun i j => .int (i * j)) := opI fun _ _ _ _ _ _ _ hc q => mul_int q (mulOk_ok hc)
theorem bits_le {x : Int} {n : Nat} (h : x.natAbs < 2 ^ n) (h0 : 0 < n) : Builtin.Int.intBits x ≤ n := by
  have := log2_of h h0
  unfold Builtin.Int.intBits
  split <;> omega
theorem op_powT : OpR X (binaryOp .Pow) (rI (fun i j => (decide (0 ≤ j) && decide (j ≤ 100) && decide (i.natAbs < 2 ^ 1000)) = true) fun i j => .int (i ^ j.toNat)) := opI fun i j _ _ _ _ _ hc q => by
  simp only [Bool.and_eq_true, decide_eq_true_eq] at hc
  refine pow_int hc.1.1 ?_ q
  have hb : Builtin.Int.intBits i ≤ 1000 := bits_le hc.2 (by decide)
  have h1 : ((Builtin.Int.intBits i : Nat) : Int) ≤ 1000 := by omega
  have h2 : ((Builtin.Int.intBits i : Nat) : Int) * j ≤ 1000 * 100 := Int.mul_le_mul h1 hc.1.2 hc.1.1 (by decide)
  have h3 : (1000 * 100 : Int) ≤ 2 ^ 27 := by decide
  omega
theorem op_catS : OpR X (binaryOp .Add) (fun x y H Q => ∃ l b xs zs, x = .ref l ∧ y = .ref b ∧ SqL X.K H l xs ∧ SqL X.K H b zs ∧ xs.length + zs.length ≤ sizeLine ∧ ∀ p, H p = none → Q (.ref p) (upd H p (.lst (xs ++ zs)))) := by
  intro pins s σ H x y v u Q I rx ry h
  obtain ⟨l, b, xs, zs, rfl, rfl, hl, hb, hz, q⟩ := h
  cases rx
  cases ry
  obtain ⟨its, r, ⟨⟨cls, dd, data, sl⟩, n, ho, hc, _, hd⟩, _⟩ := I.list hl
  obtain ⟨its2, r2, ⟨⟨cls2, dd2, data2, sl2⟩, n2, ho2, hc2, _, hd2⟩, _⟩ := I.list hb
  simp only at hc hd hc2 hd2
  subst hc hd hc2 hd2
  have e1 := r.length
  have e2 := r2.length
  have ea : its.toArray ++ its2.toArray = (its ++ its2).toArray := by simp
  refine concat_meets ⟨_, ho, rfl⟩ ⟨_, ho2, rfl⟩ noFill_list_add seq_list_add PySem.F.slot_list_add PySem.F.entry_list_add (PySem.F.args_list_add_2 _ _) (list_addW l b its.toArray its2.toArray n n2 dd dd2 sl sl2 (by simp; omega)) ⟨ho, ho2, ?_⟩
  rw [ea]
  exact ⟨.ref _, _, I.lnew (t' := s.toks) (r.append r2) (by rw [List.length_append]; omega), rfl, q _ I.fresh⟩
theorem lens_some {a c : D} (h : lensOk a c = true) : ∃ xs ys, a = .list xs ∧ c = .list ys ∧ xs.length ≠ ys.length := by
  unfold lensOk at h
  split at h
  · exact ⟨_, _, rfl, rfl, of_decide_eq_true h⟩
  · cases h
theorem op_eqL (hu : X.A.units < cLine) : OpR X (compareOp .Eq) (fun x y H Q => ∃ l b xs zs, x = .ref l ∧ y = .ref b ∧ SqL X.K H l xs ∧ SqL X.K H b zs ∧ xs.length ≠ zs.length ∧ Q (.bl false) H) := by
  intro pins s σ H x y v u Q I rx ry h
  obtain ⟨l, b, xs, zs, rfl, rfl, hl, hb, hz, q⟩ := h
  cases rx
  cases ry
  obtain ⟨its, r, ⟨ob, n, ho, hc, _, hd⟩, _⟩ := I.list hl
  obtain ⟨its2, r2, ⟨ob2, n2, ho2, hc2, _, hd2⟩, _⟩ := I.list hb
  have e1 := r.length
  have e2 := r2.length
  refine SeqAt.eq_list_lengthsAt (items := its.toArray) (items2 := its2.toArray) ⟨ob, ho, hc, n, hd⟩ ⟨ob2, ho2, hc2, n2, hd2⟩ ?_ hu ⟨.bl _, H, I, rfl, q⟩
  simp
  omega
theorem op_neL (hu : X.A.units < cLine) : OpR X (compareOp .NotEq) (fun x y H Q => ∃ l b xs zs, x = .ref l ∧ y = .ref b ∧ SqL X.K H l xs ∧ SqL X.K H b zs ∧ xs.length ≠ zs.length ∧ Q (.bl true) H) := by
  intro pins s σ H x y v u Q I rx ry h
  obtain ⟨l, b, xs, zs, rfl, rfl, hl, hb, hz, q⟩ := h
  cases rx
  cases ry
  obtain ⟨its, r, ⟨ob, n, ho, hc, _, hd⟩, _⟩ := I.list hl
  obtain ⟨its2, r2, ⟨ob2, n2, ho2, hc2, _, hd2⟩, _⟩ := I.list hb
  have e1 := r.length
  have e2 := r2.length
  refine SeqAt.RcNeAt.lists_lengths (items := its.toArray) (items2 := its2.toArray) ⟨ob, ho, hc, n, hd⟩ ⟨ob2, ho2, hc2, n2, hd2⟩ ?_ hu _ _ _ _ ⟨.bl _, H, I, rfl, q⟩
  simp
  omega
theorem op_timesS : OpR X (binaryOp .Mult) (fun x y H Q => ∃ z n, x = .str z ∧ y = .int n ∧ 0 ≤ n ∧ n ≤ 100 ∧ 1 ≤ z.length ∧ z.length ≤ 100 ∧ (timesS z n.toNat).length ≤ sizeLine ∧ Q (.str (timesS z n.toNat)) H) := by
  intro pins s σ H x y v u Q I rx ry h
  obtain ⟨z, n, rfl, rfl, h1, h2, h3, h4, h5, q⟩ := h
  obtain ⟨t, rfl⟩ := rx
  obtain ⟨t', rfl⟩ := ry
  have hy : ∀ {w : Bool}, (decide (n < -(2 ^ 63 : Int)) || decide (n ≥ 2 ^ 63)) = w → w = false := fun {w} e => by
    rw [← e, decide_eq_false (by omega), decide_eq_false (by omega)]; rfl
  by_cases n0 : n = 0
  · subst n0
    refine PySem.P.mul_str (hy rfl) (fun h => absurd (by decide) h) (fun h => absurd (by decide) h) ?_
    rw [if_pos (by decide)]
    exact ⟨by decide, ⟨.str _, H, I.tok _, ⟨_, rfl⟩, q⟩⟩
  by_cases n1 : n = 1
  · subst n1
    refine PySem.P.mul_str (hy rfl) (fun _ h => by simp at h) (fun _ h => by simp at h) ?_
    rw [if_neg (by decide), if_pos (by simp)]
    have e : timesS z (1 : Int).toNat = z := by
      unfold timesS
      obtain ⟨c⟩ := z
      simp [List.replicate]
    rw [e] at q
    exact ⟨.str _, H, I, ⟨_, rfl⟩, q⟩
  have a1 : ¬ n < 1 := by omega
  have a2 : (n == 1 || z.length == 0) = false := by
    rw [Bool.or_eq_false_iff]
    exact ⟨beq_eq_false_iff_ne.mpr (by omega), beq_eq_false_iff_ne.mpr (by omega)⟩
  have a3 : z.length * n.toNat ≤ 10000 := Nat.le_trans (Nat.mul_le_mul h4 (show n.toNat ≤ 100 by omega)) (by decide)
  refine PySem.P.mul_str (by rw [decide_eq_false (by omega), decide_eq_false (by omega)]; rfl) (fun _ _ => ?_) (fun _ _ => ?_) ?_
  · have : (100 : Int) ≤ (2 ^ 63 - 1) / n := Int.le_ediv_of_mul_le (by omega) (by omega)
    omega
  · exact decide_eq_false (Nat.not_lt.mpr (Nat.le_trans a3 (by decide)))
  · rw [if_neg a1, if_neg (by rw [a2]; exact Bool.false_ne_true)]
    exact ⟨h5, ⟨.str _, H, I.tok _, ⟨_, rfl⟩, q⟩⟩
def bopOf : Operator → Option Op
  | .Add => some .add
  | .Sub => some .sub
  | .Mult => some .mul
  | .FloorDiv => some .fdiv
  | .Mod => some .mod
  | .Pow => some .pow
  | _ => none
def cmpOf : CmpOp → Option Op
  | .Eq => some .eq
  | .NotEq => some .ne
  | .Lt => some .lt
  | .LtE => some .le
  | .Gt => some .gt
  | .GtE => some .ge
  | .In => some .inn
  | .NotIn => some .nin
  | _ => none
theorem fII_some {g : Int → Int → Option D} {a c d : D} (h : fII g [a, c] = some d) : ∃ i j, a = .int i ∧ c = .int j ∧ g i j = some d := by
  unfold fII at h
  split at h
  · rename_i i j e
    cases e
    exact ⟨i, j, rfl, rfl, h⟩
  · cases h
theorem ite_some {α : Type} {p : Bool} {x y : α} (h : (if p = true then some x else none) = some y) : p = true ∧ x = y := by
  cases p with
  | true => exact ⟨rfl, Option.some.inj h⟩
  | false => cases h
section
variable {pins : List (Addr × Obj)} {s : Shared} {σ : L2.St} {F H : Hp} {x y : V} {v u : Value} {a c d : D} {Q : VK}
theorem szL {n : Nat} (h : n ≤ 1000000) : n ≤ sizeLine := Nat.le_trans h (by decide)
theorem bin_val {bo : Operator} {o : Op} (hb : bopOf bo = some o) (l : Le F H) (I : Inv X pins σ H s) (rx : RelV x v) (ry : RelV y u) (hx : Vw X.K F H x a) (hy : Vw X.K F H y c) (e : opF o [a, c] = some d)
    (k : Res X.K F H d Q) : wpAny (model X.prog X.w) X.A (binaryOp bo v u) (EP X pins σ Q) X.xe s := by
  cases bo <;> first | (cases hb; done) | skip
  case Add =>
    cases hb
    replace e : fAdd [a, c] = some d := e
    unfold fAdd at e
    split at e
    · rename_i i j q
      cases q; cases e
      have h1 := hx.int; have h2 := hy.int
      subst h1; subst h2
      exact op_add pins s σ H _ _ v u Q I rx ry ⟨i, j, rfl, rfl, k.at l (.int _)⟩
    · rename_i i j q
      cases q
      have h1 := hx.str; have h2 := hy.str
      subst h1; subst h2
      split at e
      · rename_i hz
        cases e
        exact op_add_str pins s σ H _ _ v u Q I rx ry ⟨i, j, rfl, rfl, szL hz, k.at l (.str _)⟩
      · cases e
    · cases e
  case Sub =>
    cases hb
    obtain ⟨i, j, rfl, rfl, e⟩ := fII_some e
    cases e
    have h1 := hx.int; have h2 := hy.int
    subst h1; subst h2
    exact op_sub pins s σ H _ _ v u Q I rx ry ⟨i, j, rfl, rfl, k.at l (.int _)⟩
  case Mult =>
    cases hb
    replace e : fMul [a, c] = some d := e
    unfold fMul at e
    split at e
    · rename_i i j q
      cases q
      obtain ⟨hc, rfl⟩ := ite_some e
      have h1 := hx.int; have h2 := hy.int
      subst h1; subst h2
      exact op_mulT pins s σ H _ _ v u Q I rx ry ⟨i, j, rfl, rfl, hc, k.at l (.int _)⟩
    · rename_i z n q
      cases q
      obtain ⟨hc, rfl⟩ := ite_some e
      have h1 := hx.str; have h2 := hy.int
      subst h1; subst h2
      simp only [Bool.and_eq_true, decide_eq_true_eq] at hc
      exact op_timesS pins s σ H _ _ v u Q I rx ry ⟨z, n, rfl, rfl, hc.1.1.1.1, hc.1.1.1.2, hc.1.1.2, hc.1.2, Nat.le_trans hc.2 (by decide), k.at l (.str _)⟩
    · cases e
  case FloorDiv =>
    cases hb
    obtain ⟨i, j, rfl, rfl, e⟩ := fII_some e
    obtain ⟨hc, rfl⟩ := ite_some e
    have h1 := hx.int; have h2 := hy.int
    subst h1; subst h2
    exact op_divT pins s σ H _ _ v u Q I rx ry ⟨i, j, rfl, rfl, hc, k.at l (.int _)⟩
  case Mod =>
    cases hb
    obtain ⟨i, j, rfl, rfl, e⟩ := fII_some e
    obtain ⟨hc, rfl⟩ := ite_some e
    have h1 := hx.int; have h2 := hy.int
    subst h1; subst h2
    exact op_modN pins s σ H _ _ v u Q I rx ry ⟨i, j, rfl, rfl, of_decide_eq_true hc, k.at l (.int _)⟩
  case Pow =>
    cases hb
    obtain ⟨i, j, rfl, rfl, e⟩ := fII_some e
    obtain ⟨hc, rfl⟩ := ite_some e
    have h1 := hx.int; have h2 := hy.int
    subst h1; subst h2
    exact op_powT pins s σ H _ _ v u Q I rx ry ⟨i, j, rfl, rfl, hc, k.at l (.int _)⟩
theorem bin_new {bo : Operator} {o : Op} {z : Cell} (hb : bopOf bo = some o) (l : Le F H) (I : Inv X pins σ H s) (rx : RelV x v) (ry : RelV y u) (hx : Vw X.K F H x a) (hy : Vw X.K F H y c) (e : opN o [a, c] = some z)
    (k : ResN X.K F H z Q) : wpAny (model X.prog X.w) X.A (binaryOp bo v u) (EP X pins σ Q) X.xe s := by
  cases bo <;> first | (cases hb; done) | skip
  case Add =>
    cases hb
    replace e : nAdd [a, c] = some z := e
    unfold nAdd at e
    split at e
    · rename_i ds es q
      cases q
      split at e
      · rename_i hz
        cases e
        obtain ⟨p, xs, rfl, h1, k1⟩ := hx.list l
        obtain ⟨p2, ys, rfl, h2, k2⟩ := hy.list l
        refine op_catS pins s σ H _ _ v u Q I rx ry ⟨p, p2, xs, ys, rfl, rfl, h1, h2, by rw [k1.length, k2.length]; exact szL hz, fun q hq => k q _ hq ⟨_, rfl, k1.append k2⟩⟩
      · cases e
    · cases e
  all_goals (cases hb; cases e)
theorem cmp_val (hu : X.A.units + 70 < cLine) {bo : CmpOp} {o : Op} (hb : cmpOf bo = some o) (l : Le F H) (I : Inv X pins σ H s) (rx : RelV x v) (ry : RelV y u) (hx : Vw X.K F H x a) (hy : Vw X.K F H y c) (e : opF o [a, c] = some d)
    (k : Res X.K F H d Q) : wpAny (model X.prog X.w) X.A (compareOp bo v u) (EP X pins σ Q) X.xe s := by
  have ins : ∀ {x z : Str} {r : Bool}, inS x z = some r → ∃ c, x = ⟨#[c]⟩ ∧ r = decide (c ∈ z.cps.toList) := fun {x z r} h => by
    unfold inS at h
    split at h
    · rename_i c' hc
      refine ⟨c', ?_, (Option.some.inj h).symm⟩
      obtain ⟨cps⟩ := x
      obtain ⟨ls⟩ := cps
      simp only at hc
      rw [hc]
    · cases h
  have inn : ∀ {neg : Bool}, fIn neg a c = some d → (∃ ds, c = .list ds ∧ eqOk a (.list ds) = true ∧ d = .bool (if neg then !ds.any (fun z => PyData.eqv z a) else ds.any fun z => PyData.eqv z a)) ∨
      ∃ cc z, a = .str ⟨#[cc]⟩ ∧ c = .str z ∧ d = .bool (if neg then !decide (cc ∈ z.cps.toList) else decide (cc ∈ z.cps.toList)) := fun {neg} h => by
    unfold fIn at h
    split at h
    · rename_i ds
      obtain ⟨h1, h2⟩ := ite_some h
      exact .inl ⟨ds, rfl, h1, h2.symm⟩
    · rename_i xx z
      split at h
      · rename_i k hk
        obtain ⟨cc, rfl, rfl⟩ := ins hk
        exact .inr ⟨cc, z, rfl, rfl, (Option.some.inj h).symm⟩
      · cases h
    · cases h
  have eqs : ∀ {neg : Bool}, fEq neg a c = some d → (scal x y = true ∧ d = .bool (if neg then !decide (x = y) else decide (x = y))) ∨ (SeqAt.shaped a = true ∧ SeqAt.shaped c = true ∧ d = .bool (if neg then !PyData.eqv a c else PyData.eqv a c)) ∨ (∃ xs ys, a = .list xs ∧ c = .list ys ∧ xs.length ≠ ys.length ∧ d = .bool neg) := fun {neg} h => by
    unfold fEq at h
    split at h
    · cases h
      have h1 := hx.str; have h2 := hy.str
      subst h1; subst h2
      exact .inl ⟨rfl, by simp only [V.str.injEq]⟩
    · cases h
      have h1 := hx.int; have h2 := hy.int
      subst h1; subst h2
      exact .inl ⟨rfl, by simp only [V.int.injEq]⟩
    · split at h
      · rename_i h1
        simp only [eqOk, Bool.and_eq_true] at h1
        exact .inr (.inl ⟨h1.1, h1.2, (Option.some.inj h).symm⟩)
      · obtain ⟨h1, h2⟩ := ite_some h
        obtain ⟨xs, ys, q1, q2, hz⟩ := lens_some h1
        exact .inr (.inr ⟨xs, ys, q1, q2, hz, h2.symm⟩)
  have dif : ∀ {xs ys : List D}, a = .list xs → c = .list ys → xs.length ≠ ys.length → ∃ p p2 xs' ys', x = .ref p ∧ y = .ref p2 ∧ SqL X.K H p xs' ∧ SqL X.K H p2 ys' ∧ xs'.length ≠ ys'.length := by
    rintro xs ys rfl rfl hz
    obtain ⟨p, xs', rfl, h1, k1⟩ := hx.list l
    obtain ⟨p2, ys', rfl, h2, k2⟩ := hy.list l
    exact ⟨p, p2, xs', ys', rfl, rfl, h1, h2, by rw [k1.length, k2.length]; exact hz⟩
  cases bo <;> first | (cases hb; done) | skip
  case Eq =>
    cases hb
    rcases eqs (neg := false) e with ⟨h1, q⟩ | ⟨h1, h2, rfl⟩ | ⟨as, cs, q1, q2, hz, rfl⟩
    · exact op_eq pins s σ H _ _ v u Q I rx ry ⟨h1, k.at l (by rw [q]; exact .bl _)⟩
    · exact op_eqD (by omega) pins s σ H _ _ v u Q I rx ry ⟨a, c, hx.dp l h1, hy.dp l h2, h1, h2, k.at l (.bl _)⟩
    · obtain ⟨p, p2, xs', ys', e1, e2, h1, h2, hz⟩ := dif q1 q2 hz
      exact op_eqL (by omega) pins s σ H _ _ v u Q I rx ry ⟨p, p2, xs', ys', e1, e2, h1, h2, hz, k.at l (.bl _)⟩
  case NotEq =>
    cases hb
    rcases eqs (neg := true) e with ⟨h1, q⟩ | ⟨h1, h2, rfl⟩ | ⟨as, cs, q1, q2, hz, rfl⟩
    · exact op_ne pins s σ H _ _ v u Q I rx ry ⟨h1, k.at l (by rw [q]; exact .bl _)⟩
    · exact op_neD (by omega) pins s σ H _ _ v u Q I rx ry ⟨a, c, hx.dp l h1, hy.dp l h2, h1, h2, k.at l (.bl _)⟩
    · obtain ⟨p, p2, xs', ys', e1, e2, h1, h2, hz⟩ := dif q1 q2 hz
      exact op_neL (by omega) pins s σ H _ _ v u Q I rx ry ⟨p, p2, xs', ys', e1, e2, h1, h2, hz, k.at l (.bl _)⟩
  case In =>
    cases hb
    rcases inn (neg := false) e with ⟨ds, rfl, hc, rfl⟩ | ⟨cc, z, rfl, rfl, rfl⟩
    · simp only [eqOk, Bool.and_eq_true] at hc
      exact op_inD (by omega) pins s σ H _ _ v u Q I rx ry ⟨a, ds, hx.dp l hc.1, hy.dp l hc.2, hc.1, hc.2, k.at l (.bl _)⟩
    · have h1 := hx.str; have h2 := hy.str
      subst h1; subst h2
      exact op_in_sign pins s σ H _ _ v u Q I rx ry ⟨cc, z, rfl, rfl, k.at l (.bl _)⟩
  case NotIn =>
    cases hb
    rcases inn (neg := true) e with ⟨ds, rfl, hc, rfl⟩ | ⟨cc, z, rfl, rfl, rfl⟩
    · simp only [eqOk, Bool.and_eq_true] at hc
      exact op_notInD (by omega) pins s σ H _ _ v u Q I rx ry ⟨a, ds, hx.dp l hc.1, hy.dp l hc.2, hc.1, hc.2, k.at l (.bl _)⟩
    · have h1 := hx.str; have h2 := hy.str
      subst h1; subst h2
      exact op_notIn_sign pins s σ H _ _ v u Q I rx ry ⟨cc, z, rfl, rfl, k.at l (.bl _)⟩
  all_goals
    cases hb
    obtain ⟨i, j, rfl, rfl, e⟩ := fII_some e
    cases e
    have h1 := hx.int; have h2 := hy.int
    subst h1; subst h2
  case Lt => exact op_lt pins s σ H _ _ v u Q I rx ry ⟨i, j, rfl, rfl, k.at l (.bl _)⟩
  case LtE => exact op_le pins s σ H _ _ v u Q I rx ry ⟨i, j, rfl, rfl, k.at l (.bl _)⟩
  case Gt => exact op_gt pins s σ H _ _ v u Q I rx ry ⟨i, j, rfl, rfl, k.at l (.bl _)⟩
  case GtE => exact op_ge pins s σ H _ _ v u Q I rx ry ⟨i, j, rfl, rfl, k.at l (.bl _)⟩
def isOf : CmpOp → PySem.Const → Option Op
  | .Is, .none => some .isN
  | .IsNot, .none => some .notN
  | .Is, .bool b => some (.isB b)
  | .IsNot, .bool b => some (.notB b)
  | _, _ => none
theorem isN_dec (hx : Vw X.K F H x a) : decide (x = V.non) = isNone a := by
  cases hx with
  | of h => cases h <;> simp [isNone]
  | lst h _ => simp [isNone]
  | dct h _ => simp [isNone]
theorem idx_val {value slice : Expr} (l : Le F H) (I : Inv X pins σ H s) (rx : RelV x v) (ry : RelV y u) (hx : Vw X.K F H x a) (hy : Vw X.K F H y c) (e : opF .idx [a, c] = some d) (nd : ∀ kvs, a ≠ .dict kvs)
    (k : Res X.K F H d Q) (hs : subscripted slice false v u = operate [v, u] (getItem v u)) : wpAny (model X.prog X.w) X.A (subscriptTail value slice v u) (EP X pins σ Q) X.xe s := by
  replace e : fIdx a c = some d := e
  have at_ : ∀ {xs : List V} {ds : List D} {i : Int}, IsL X.K F xs ds → atI ds i = some d → ∃ w, atI xs i = some w ∧ Is X.K F w d := fun {xs ds i} r q => by
    unfold atI at q ⊢
    rw [r.length]
    cases hj : ixN ds.length i with
    | none => rw [hj] at q; cases q
    | some j =>
      rw [hj] at q
      exact r.get q
  unfold fIdx at e
  split at e
  · rename_i ds i
    obtain ⟨p, xs, rfl, h1, k1⟩ := hx.list l
    have h2 := hy.int; subst h2
    obtain ⟨w, hw, iw⟩ := at_ k1 e
    exact ix_list value slice pins s σ H _ _ v u Q I rx ry ⟨p, xs, i, w, rfl, rfl, h1, hw, k.at l iw⟩ hs
  · rename_i ds i
    obtain ⟨p, xs, rfl, h1, k1⟩ := hx.tup l
    have h2 := hy.int; subst h2
    obtain ⟨w, hw, iw⟩ := at_ k1 e
    exact ix_tup value slice pins s σ H _ _ v u Q I rx ry ⟨p, xs, i, w, rfl, rfl, h1, hw, k.at l iw⟩ hs
  · rename_i z i
    have h1 := hx.str; subst h1
    have h2 := hy.int; subst h2
    split at e
    · rename_i hz
      cases hc : atI z.cps.toList i with
      | none => rw [hc] at e; cases e
      | some cc =>
        rw [hc] at e
        cases e
        exact ix_str value slice pins s σ H _ _ v u Q I rx ry ⟨z, i, cc, rfl, rfl, szL hz, hc, k.at l (.str _)⟩ hs
    · cases e
  · exact absurd rfl (nd _)
  · exact absurd rfl (nd _)
  · cases e
end
end
end TI
set_option maxHeartbeats 200000
set_option maxHeartbeats 1000000
namespace TI
open PySem PySem.Spec PyProof.Rows L2
inductive VwL (K : PySem.W.Frag) (F H : Hp) : List V → List D → Prop
  | nil : VwL K F H [] []
  | cons {v : V} {vs : List V} {d : D} {ds : List D} : Vw K F H v d → VwL K F H vs ds → VwL K F H (v :: vs) (d :: ds)
def bfnOf : Nat → Option (Value × Op)
  | 0 => some (.builtin "len", .len)
  | 1 => some (.type "int", .toInt)
  | 2 => some (.type "str", .toStr)
  | 3 => some (.builtin "repr", .repr)
  | 4 => some (.builtin "max", .max2)
  | 5 => some (.builtin "min", .min2)
  | 6 => some (.builtin "sum", .sum)
  | 7 => some (.type "tuple", .tuple)
  | 8 => some (.type "list", .list)
  | 9 => some (.type "dict", .dictP)
  | _ => none
inductive IsP (K : PySem.W.Frag) (F : Hp) : List (Key × V) → List (Int × D) → Prop
  | nil : IsP K F [] []
  | cons {i : Int} {v : V} {d : D} {kvs : List (Key × V)} {l : List (Int × D)} : Is K F v d → IsP K F kvs l → IsP K F ((.inl i, v) :: kvs) ((i, d) :: l)
section
variable {K : PySem.W.Frag} {F H : Hp}
theorem IsKV.anyI : ∀ {kv : List (Key × V)} {es : List (D × D)} (i : Int), IsKV K F kv es → allK es = true → (kv.any fun p => decide (p.1 = (.inl i : Key))) = es.any fun p => keyI p.1 i
  | _, _, _, .nil, _ => rfl
  | _, _, _, .cons _ _, e => by cases e
  | _, _, i, .consI (k := k) _ t, e => by
    rw [List.any_cons, List.any_cons, IsKV.anyI i t e]
    have : decide ((Sum.inl k : Key) = .inl i) = keyI (.int k) i := by simp [keyI]
    rw [this]
theorem IsKV.mapI {v : V} {d : D} (iv : Is K F v d) : ∀ {kv : List (Key × V)} {es : List (D × D)} (i : Int), IsKV K F kv es → allK es = true → IsKV K F (kv.map fun p => if p.1 = (.inl i : Key) then (p.1, v) else p) (es.map fun p => if keyI p.1 i = true then (p.1, d) else p) ∧ allK (es.map fun p => if keyI p.1 i = true then (p.1, d) else p) = true
  | _, _, _, .nil, _ => ⟨.nil, rfl⟩
  | _, _, _, .cons _ _, e => by cases e
  | _, _, i, .consI (k := k) h t, e => by
    obtain ⟨a, c⟩ := IsKV.mapI iv i t e
    rw [List.map_cons, List.map_cons]
    by_cases hk : k = i
    · have h1 : keyI (.int k) i = true := by simp [keyI, hk]
      have h2 : (Sum.inl k : Key) = .inl i := by rw [hk]
      simp only [h1, h2, if_true]
      exact ⟨by rw [hk]; exact .consI iv a, c⟩
    · have h1 : keyI (.int k) i = false := by simp [keyI, hk]
      have h2 : ¬ ((Sum.inl k : Key) = .inl i) := fun z => hk (Sum.inl.inj z)
      simp only [h1, h2, if_false, Bool.false_eq_true]
      exact ⟨.consI h a, c⟩
theorem IsKV.snocI {v : V} {d : D} (iv : Is K F v d) (i : Int) : ∀ {kv : List (Key × V)} {es : List (D × D)}, IsKV K F kv es → allK es = true → IsKV K F (kv ++ [(.inl i, v)]) (es ++ [(.int i, d)]) ∧ allK (es ++ [(.int i, d)]) = true
  | _, _, .nil, _ => ⟨.consI iv .nil, rfl⟩
  | _, _, .cons _ _, e => by cases e
  | _, _, .consI h t, e => by
    obtain ⟨a, c⟩ := IsKV.snocI iv i t e
    exact ⟨.consI h a, c⟩
theorem IsKV.putI {v : V} {d : D} {kv : List (Key × V)} {es : List (D × D)} (i : Int) (h : IsKV K F kv es) (e : allK es = true) (iv : Is K F v d) : IsKV K F (putK kv (.inl i) v) (dPutI es i d) ∧ allK (dPutI es i d) = true := by
  unfold putK dPutI
  rw [h.anyI i e]
  split
  · exact h.mapI iv i e
  · exact h.snocI iv i e
theorem IsKV.lookI {i : Int} : ∀ {kv : List (Key × V)} {es : List (D × D)}, IsKV K F kv es → allK es = true → (∀ d, dLookI es i = some d → ∃ v, valV kv (.inl i) = some v ∧ Is K F v d) ∧ (dLookI es i = none → valV kv (.inl i) = none)
  | _, _, .nil, _ => ⟨(fun d z => by cases z), fun _ => rfl⟩
  | _, _, .cons _ _, e => by cases e
  | _, _, .consI (k := k) (v := v) h t, e => by
    obtain ⟨a, c⟩ := IsKV.lookI (i := i) t e
    unfold dLookI
    by_cases hk : k = i
    · have h1 : keyI (.int k) i = true := by simp [keyI, hk]
      rw [if_pos h1]
      exact ⟨(fun d z => by cases z; exact ⟨v, valV_pos (by rw [hk]), h⟩), fun z => by cases z⟩
    · have h1 : ¬ keyI (.int k) i = true := by simp [keyI, hk]
      have h2 : ¬ ((Sum.inl k : Key) = .inl i) := fun z => hk (Sum.inl.inj z)
      rw [if_neg h1, valV_neg h2]
      exact ⟨a, c⟩
theorem IsP.merge {kvs : List (Key × V)} {l : List (Int × D)} (h : IsP K F kvs l) : ∀ {kv : List (Key × V)} {es : List (D × D)}, IsKV K F kv es → allK es = true → IsKV K F (mergeK kv kvs) (l.foldl (fun acc p => dPutI acc p.1 p.2) es) := by
  induction h with
  | nil => intro kv es h _; exact h
  | cons iv _ ih =>
    intro kv es h e
    obtain ⟨a, c⟩ := h.putI _ e iv
    exact ih a c
theorem prI_ok (l : Le F H) : ∀ {xs : List V} {ds : List D} {ps : List (Int × D)}, IsL K F xs ds → prI ds = some ps → ∃ (as : List Addr) (kvs : List (Key × V)), xs = as.map V.ref ∧ Paired (fun p kv => SqT K H p [kV kv.1, kv.2]) as kvs ∧ IsP K F kvs ps
  | _, _, _, .nil, e => by cases e; exact ⟨[], [], rfl, .nil, .nil⟩
  | _, _, _, .cons (d := d) h t, e => by
    unfold prI at e
    split at e <;> first | (cases e; done) | skip
    · rename_i hz; cases hz
    · rename_i k v r hz
      cases hz
      split at e
      · rename_i l' e2
        cases e
        obtain ⟨as, kvs, rfl, a2, a3⟩ := prI_ok l t e2
        cases h with
        | tup h1 h2 =>
          rename_i a xs
          cases h2 with
          | cons x1 h3 =>
            cases h3 with
            | cons x2 h4 =>
              cases h4
              cases x1
              exact ⟨a :: as, (.inl k, _) :: kvs, rfl, .cons (l.st h1) a2, .cons x2 a3⟩
      · cases e
end
section
variable {X : Cx} {pins : List (Addr × Obj)} {s : Shared} {σ : L2.St} {F H : Hp} {vs : List V} {us : List Value} {ds : List D} {d : D} {Q : VK}
theorem VwL.one {f : D → Option D} (h : VwL X.K F H vs ds) (e : f1 f ds = some d) : ∃ v a, vs = [v] ∧ ds = [a] ∧ Vw X.K F H v a ∧ f a = some d := by
  unfold f1 at e
  split at e
  · cases h with
    | cons h1 h2 => cases h2; exact ⟨_, _, rfl, rfl, h1, e⟩
  · cases e
theorem VwL.ii {f : Int → Int → Option D} (h : VwL X.K F H vs ds) (e : fII f ds = some d) : ∃ i j, vs = [.int i, .int j] ∧ f i j = some d := by
  unfold fII at e
  split at e
  · cases h with
    | cons h1 h2 => cases h2 with
      | cons h2 h3 =>
        cases h3
        have a := h1.int; have b := h2.int
        subst a; subst b
        exact ⟨_, _, rfl, e⟩
  · cases e
theorem reprs (l : Le F H) (I : Inv X pins σ H s) (hg : X.A.guards = some []) (hu : X.A.units + 100 < cLine) {v : V} {u : Value} {a : D} (r : RelV v u) (h : Vw X.K F H v a) (ok : reprOk a = true)
    (q : Q (.str a.shown) H) : wpAny (model X.prog X.w) X.A (call (.builtin "repr") [u]) (EP X pins σ Q) X.xe s := by
  have fin0 : ∀ tk t, EP X pins σ Q (.str a.shown t) { s with toks := tk } := fun tk t => ⟨.str a.shown, H, I.kept (h' := s.heap) (t' := tk) fun _ _ e => e, ⟨_, rfl⟩, q⟩
  have fin : ∀ h' tk t, (∀ b o, s.heap.get? b = some o → h'.get? b = some o) → EP X pins σ Q (.str a.shown t) { s with heap := h', toks := tk } := fun h' tk t k => ⟨.str a.shown, H, I.kept (t' := tk) k, ⟨_, rfl⟩, q⟩
  by_cases hi : ∃ i, a = .int i
  · obtain ⟨i, rfl⟩ := hi
    have := h.int; subst this
    obtain ⟨t, rfl⟩ := r
    exact PySem.P.repr_of_int (of_decide_eq_true ok) (by simpa [PyData.shown] using fin0 (s.toks + 1) s.toks)
  by_cases hb : ∃ i, a = .bool i
  · obtain ⟨i, rfl⟩ := hb
    have := h.bool; subst this
    cases r
    exact PySem.P.repr_of_bool (by simpa [PyData.shown] using fin0 (s.toks + 1) s.toks)
  by_cases hn : a = .none
  · subst hn
    have := h.none; subst this
    cases r
    exact PySem.P.repr_of_none (by simpa [PyData.shown] using fin0 (s.toks + 1) s.toks)
  have ok : (a.showable && decide (a.depth ≤ 64) && decide (a.shown.length ≤ 1000000) && (SeqAt.shaped a || (match a with | .dict [] => true | _ => false))) = true := by
    cases a <;> first | exact ok | exact absurd ⟨_, rfl⟩ hi | exact absurd ⟨_, rfl⟩ hb | exact absurd rfl hn
  simp only [Bool.and_eq_true, decide_eq_true_eq, Bool.or_eq_true] at ok
  obtain ⟨⟨⟨h1, h2⟩, h3⟩, h4⟩ := ok
  have sz : a.shown.length ≤ sizeLine := szL h3
  have sh : SeqAt.shaped a = true → wpAny (model X.prog X.w) X.A (call (.builtin "repr") [u]) (EP X pins σ Q) X.xe s := fun hs => by
    obtain ⟨as, rd⟩ := Dp.reads I a v u (h.dp l hs) r
    have nd := PyData.hasDict_of_canLay a (SeqAt.canLay_of_shaped hs)
    have gen : ∀ p, u = .ref p → wpAny (model X.prog X.w) X.A (call (.builtin "repr") [u]) (EP X pins σ Q) X.xe s := fun p e => by
      subst e
      exact repr_of_reads' rd h1 (fun z => by rw [nd] at z; cases z) hg (by omega) (fun _ _ e => e) (fun h' t tk k => fin h' tk t k) sz
    cases rd with
    | none => exact PySem.P.repr_of_none (by simpa [PyData.shown] using fin0 (s.toks + 1) s.toks)
    | bool b => exact PySem.P.repr_of_bool (by simpa [PyData.shown] using fin0 (s.toks + 1) s.toks)
    | int i t =>
      have h1' : i.natAbs.log2 < 1920 := by simpa [PyData.showable] using h1
      exact PySem.P.repr_of_int h1' (by simpa [PyData.shown] using fin0 (s.toks + 1) s.toks)
    | str x t => exact PySem.P.repr_of_str (by simpa [PyData.shown] using fin0 (s.toks + 1) s.toks) (by simpa [PyData.shown] using sz)
    | list _ _ _ _ => exact gen _ rfl
    | tuple _ _ _ _ => exact gen _ rfl
    | dict _ _ _ _ _ => exact gen _ rfl
  rcases h4 with h4 | h4
  · exact sh h4
  · have e : a = .dict [] := by
      split at h4
      · rfl
      · cases h4
    subst e
    obtain ⟨p, kvs, rfl, hr, hk⟩ := h.dict l
    cases hk
    cases r
    obtain ⟨_, ns, ws, kv, o, es, ep, ho, hx, hd, _, hes, _⟩ := (show ObjOk X.prog X.w H s.heap p (.dK []) from I.hok _ _ hr)
    cases kv
    have he : es.toList = [] := by
      generalize es.toList = q at hes
      cases hes
      rfl
    have rd : Reads s.heap (.ref p) (.dict []) (p :: [] ++ []) := Reads.dict ho hx.1 hd (by rw [he]; exact .nil) (by rw [he]; exact .nil)
    have np : p ≠ sysModules := by simpa using ns
    exact repr_of_reads' rd h1 (fun _ (z : sysModules ∈ [p] ++ []) => np (by simpa using (List.mem_append.mp z).elim (fun y => (List.mem_singleton.mp y).symm) (fun y => absurd y (by simp)))) hg (by omega) (fun _ _ e => e) (fun h' t tk k => fin h' tk t k) sz
def tyNames : List String := ["int", "bool", "str", "list", "tuple", "dict"]
theorem kit_b (K : PySem.W.Frag) : ∀ T ∈ tyNames, ∀ S ∈ ["NoneType", "bool", "int", "str", "list", "tuple", "dict"], PySem.W.kitOne K (.type S) (.type T) = some (S == T || (S == "bool" && T == "int")) := by
  intro T hT S hS
  simp only [tyNames, List.mem_cons, List.not_mem_nil, or_false] at hT hS
  rcases hT with rfl | rfl | rfl | rfl | rfl | rfl <;> rcases hS with rfl | rfl | rfl | rfl | rfl | rfl | rfl <;> exact kit_ty (by decide +kernel)
def tyOf : D → String
  | .none => "NoneType"
  | .bool _ => "bool"
  | .int _ => "int"
  | .str _ => "str"
  | .list _ => "list"
  | .tuple _ => "tuple"
  | .dict _ => "dict"
theorem isT_ty (a : D) (T : String) : isT a T = (tyOf a == T || (tyOf a == "bool" && T == "int")) := by
  cases a <;> simp [isT, tyOf, Bool.beq_eq_decide_eq] <;> (try (by_cases h : T = "int" <;> simp [h, eq_comm]))
theorem tyX_of (l : Le F H) {v : V} {a : D} (h : Vw X.K F H v a) : TyX X.K H v (.type (tyOf a)) := by
  have lst : ∀ {p xs}, SqL X.K H p xs → TyX X.K H (.ref p) (.type "list") := fun {p xs} k => by
    rcases k with (k | ⟨o, k⟩) | ⟨o, its, n, k, hc, _⟩
    · exact .base (.lst k)
    · exact .base (.frz k)
    · exact .kList k hc
  have tup : ∀ {p xs}, SqT X.K H p xs → TyX X.K H (.ref p) (.type "tuple") := fun {p xs} k => by
    rcases k with (k | ⟨o, k⟩) | ⟨o, its, n, k, hc, _⟩
    · exact .base (.tup k)
    · exact .fTuple k
    · exact .kTuple k hc
  cases h with
  | of h =>
    cases h with
    | non => exact .base .non
    | bl b => exact .base (.bl b)
    | int i => exact .base (.int i)
    | str x => exact .base (.str x)
    | lst h _ => exact lst (l.sl h)
    | tup h _ => exact tup (l.st h)
    | dct h _ => exact .base (.dK (l _ _ h))
  | lst h _ => exact .base (.lst h)
  | dct h _ => exact .base (.dK h)
theorem isi_val (l : Le F H) (I : Inv X pins σ H s) {T : String} (hT : T ∈ tyNames) {v c : V} {u : List Value} {a : D} (hc : c = .ty T) (r : Vals [v, c] u) (h : Vw X.K F H v a) (k : Res X.K F H (.bool (isT a T)) Q) :
    wpAny (model X.prog X.w) X.A (call (.builtin "isinstance") u) (EP X pins σ Q) X.xe s := by
  subst hc
  refine call_isi pins s σ H _ u Q I r ⟨v, .ty T, .type (tyOf a), .type T, isT a T, rfl, .ty T, tyX_of l h, ?_, k.at l (.bl _)⟩
  rw [isT_ty]
  exact kit_b X.K T hT _ (by cases a <;> simp [tyOf])
theorem bcall_val (hc : X.calm = true) (hg : X.A.guards = some []) (hu : X.A.units + 100 < cLine) {nm : Nat} {bv : Value} {o : Op} (hb : bfnOf nm = some (bv, o)) (l : Le F H) (I : Inv X pins σ H s) (r : Vals vs us) (h : VwL X.K F H vs ds)
    (e : opF o ds = some d) (k : Res X.K F H d Q) : wpAny (model X.prog X.w) X.A (call bv us) (EP X pins σ Q) X.xe s := by
  unfold bfnOf at hb
  split at hb <;> cases hb
  · obtain ⟨v, a, rfl, rfl, hv, e⟩ := h.one e
    unfold fLen at e
    split at e <;> first | (cases e; done) | skip
    · cases e
      obtain ⟨p, xs, rfl, h1, k1⟩ := hv.list l
      exact call_len_seq pins s σ H _ us Q I r ⟨p, xs, rfl, .inl h1, by rw [k1.length]; exact k.at l (.int _)⟩
    · cases e
      obtain ⟨p, xs, rfl, h1, k1⟩ := hv.tup l
      exact call_len_seq pins s σ H _ us Q I r ⟨p, xs, rfl, .inr h1, by rw [k1.length]; exact k.at l (.int _)⟩
    · split at e
      · rename_i hz
        cases e
        have h1 := hv.str; subst h1
        exact call_len_str pins s σ H _ us Q I r ⟨_, rfl, szL hz, k.at l (.int _)⟩
      · cases e
    · cases e
      obtain ⟨p, kvs, rfl, h1, k1⟩ := hv.dict l
      exact call_lenD pins s σ H _ us Q I r ⟨p, kvs, rfl, h1, by rw [k1.length]; exact k.at l (.int _)⟩
  · obtain ⟨v, a, rfl, rfl, hv, e⟩ := h.one e
    unfold fToInt at e
    split at e <;> first | (cases e; done) | skip
    · cases e
      have h1 := hv.int; subst h1
      exact call_int1 pins s σ H _ us Q I r (.inl ⟨_, rfl, k.at l (.int _)⟩)
    · cases e
      have h1 := hv.bool; subst h1
      exact call_int1 pins s σ H _ us Q I r (.inr ⟨_, rfl, k.at l (.int _)⟩)
  · obtain ⟨v, a, rfl, rfl, hv, e⟩ := h.one e
    unfold fToStr at e
    split at e <;> first | (cases e; done) | skip
    split at e
    · rename_i hz
      cases e
      have h1 := hv.int; subst h1
      exact call_str_int pins s σ H _ us Q I r ⟨_, rfl, hz, k.at l (.str _)⟩
    · cases e
  · obtain ⟨v, a, rfl, rfl, hv, e⟩ := h.one e
    obtain ⟨hc', rfl⟩ := ite_some e
    obtain ⟨u, rfl, rx⟩ := vals1 r
    exact reprs l I hg hu rx hv hc' (k.at l (.str _))
  · obtain ⟨i, j, rfl, e⟩ := h.ii e
    cases e
    exact call_max2 hc pins s σ H _ us Q I r ⟨i, j, rfl, k.at l (.int _)⟩
  · obtain ⟨i, j, rfl, e⟩ := h.ii e
    cases e
    exact call_min2 hc pins s σ H _ us Q I r ⟨i, j, rfl, k.at l (.int _)⟩
  · obtain ⟨v, a, rfl, rfl, hv, e⟩ := h.one e
    unfold fSum at e
    split at e <;> first | (cases e; done) | skip
    rename_i ds' _e
    cases hn : allInts ds' with
    | none => rw [hn] at e; cases e
    | some ns =>
      rw [hn] at e
      cases e
      obtain ⟨p, xs, rfl, h1, k1⟩ := hv.list l
      have := k1.ints hn
      subst this
      exact cr_sum hc pins s σ H _ us Q I r ⟨p, ns, rfl, h1, k.at l (.int _)⟩
  · obtain ⟨v, a, rfl, rfl, hv, e⟩ := h.one e
    unfold fTuple at e
    split at e <;> first | (cases e; done) | skip
    · cases e
      cases hv with
      | of hv =>
        cases hv with
        | tup h1 k1 => exact call_tuple_of pins s σ H _ us Q I r ⟨_, _, rfl, .inr ⟨l.st h1, k.at l (.tup h1 k1)⟩⟩
    · cases e
      obtain ⟨p, xs, rfl, h1, k1⟩ := hv.list l
      refine call_tuple_of pins s σ H _ us Q I r ⟨p, xs, rfl, .inl ⟨h1, fun q hq => ?_⟩⟩
      exact k _ _ _ (Grow.new l hq) (.tup (SqT.of upd_same) (k1.mono (Le.new (nof l hq))))
  · cases e
  · cases e
theorem bcall_new (hc : X.calm = true) {nm : Nat} {bv : Value} {o : Op} {z : Cell} (hb : bfnOf nm = some (bv, o)) (l : Le F H) (I : Inv X pins σ H s) (r : Vals vs us) (h : VwL X.K F H vs ds)
    (e : opN o ds = some z) (k : ResN X.K F H z Q) : wpAny (model X.prog X.w) X.A (call bv us) (EP X pins σ Q) X.xe s := by
  unfold bfnOf at hb
  split at hb <;> cases hb <;> first | (cases e; done) | skip
  rotate_left
  · replace e : nDict ds = some z := e
    unfold nDict at e
    split at e <;> first | (cases e; done) | skip
    split at e <;> first | (cases e; done) | skip
    rename_i pl hp
    cases e
    cases h with
    | cons h1 h2 =>
      cases h2
      obtain ⟨p, xs, rfl, h1, k1⟩ := h1.list l
      obtain ⟨as, kvs, rfl, a2, a3⟩ := prI_ok l k1 hp
      exact call_dictP hc pins s σ H _ us Q I r ⟨p, as, kvs, rfl, h1, a2, fun q hq => k q _ hq ⟨_, rfl, a3.merge .nil rfl⟩⟩
  replace e : nList ds = some z := e
  unfold nList at e
  split at e <;> first | (cases e; done) | skip
  · cases e
    cases h with
    | cons h1 h2 =>
      cases h2
      obtain ⟨p, xs, rfl, h1, k1⟩ := h1.list l
      exact call_list_of pins s σ H _ us Q I r ⟨p, xs, rfl, .inl h1, fun q hq => k q _ hq ⟨xs, rfl, k1⟩⟩
  · cases e
    cases h with
    | cons h1 h2 =>
      cases h2
      obtain ⟨p, xs, rfl, h1, k1⟩ := h1.tup l
      exact call_list_of pins s σ H _ us Q I r ⟨p, xs, rfl, .inr h1, fun q hq => k q _ hq ⟨xs, rfl, k1⟩⟩
end
end TI
set_option maxHeartbeats 200000
set_option maxHeartbeats 1000000
namespace TI
open PySem PySem.Spec PyProof.Rows L2
def CellS (K : PySem.W.Frag) (F H : Hp) (a : Addr) : Cell → Prop
  | .lst ds false => F a = none ∧ ∃ xs, H a = some (.lst xs) ∧ IsL K F xs ds
  | .lst ds true => ∃ xs, F a = some (.lst xs) ∧ IsL K F xs ds
  | .dct es false => F a = none ∧ ∃ kvs, H a = some (.dK kvs) ∧ IsKV K F kvs es
  | .dct es true => ∃ kvs, F a = some (.dK kvs) ∧ IsKV K F kvs es
structure Stt (K : PySem.W.Frag) (F : Hp) (io : Nat → Addr) (m : Mu) (H : Hp) : Prop where
  sub : Le F H
  cell : ∀ n c, m[n]? = some c → CellS K F H (io n) c
  inj : ∀ i j, i < m.length → j < m.length → io i = io j → i = j
def SOk (K : PySem.W.Frag) (F : Hp) (io : Nat → Addr) (n : Nat) (v : V) : D ⊕ Nat → Prop
  | .inl d => Is K F v d
  | .inr i => i < n ∧ v = .ref (io i)
inductive SsOk (K : PySem.W.Frag) (F : Hp) (io : Nat → Addr) (n : Nat) : List V → List (D ⊕ Nat) → Prop
  | nil : SsOk K F io n [] []
  | cons {v : V} {vs : List V} {l : D ⊕ Nat} {ls : List (D ⊕ Nat)} : SOk K F io n v l → SsOk K F io n vs ls → SsOk K F io n (v :: vs) (l :: ls)
def ErO (C dx a : Addr) : HO := .ext fun h => ∃ (oe : Obj) (vs : Array Value), h.get? a = some oe ∧ Zc (.ref C) (some dx) oe ∧ oe.data = .fields vs
def Er0O (C a : Addr) : HO := .ext fun h => ∃ (oe : Obj) (vs : Array Value), h.get? a = some oe ∧ Zc (.ref C) none oe ∧ oe.data = .fields vs
def bareIn (K : PySem.W.Frag) (C : Addr) : Prop := PySem.W.findIn K (.ref C) "__init__" = some (some (.builtin "ValueError.__init__"))
def VlOk (K : PySem.W.Frag) (F : Hp) (io : Nat → Addr) (n : Nat) (v : V) : Vl → Prop
  | .t d => Is K F v d
  | .loc i => i < n ∧ v = .ref (io i)
  | .er c x => ∃ (a C : Addr), v = .ref a ∧ PySem.W.nsIn K mainGlobals c = some (some (.ref C)) ∧ ((∃ (dx : Addr) (u : V), F a = some (ErO C dx a) ∧ F dx = some (.xd [(("value" : Str), u)]) ∧ SOk K F io n u x) ∨ (bareIn K C ∧ x = .inl .none ∧ F a = some (Er0O C a)))
  | .tv xs => ∃ (a : Addr) (us : List V), v = .ref a ∧ SqT K F a us ∧ SsOk K F io n us xs
structure Adv (K : PySem.W.Frag) (F : Hp) (io : Nat → Addr) (m : Mu) (F' : Hp) (io' : Nat → Addr) (m' : Mu) (H' : Hp) : Prop where
  ff : Le F F'
  ii : ∀ n, n < m.length → io' n = io n
  ln : m.length ≤ m'.length
  st : Stt K F' io' m' H'
structure EnOk (K : PySem.W.Frag) (F : Hp) (io : Nat → Addr) (n : Nat) (σ : L2.St) (r : En) : Prop where
  len : σ.length = r.length
  get : ∀ (i : Nat) (vl : Vl), r[i]? = some (some vl) → ∃ v : V, σ[i]? = some (some v) ∧ VlOk K F io n v vl
inductive VlsOk (K : PySem.W.Frag) (F : Hp) (io : Nat → Addr) (n : Nat) : List V → List Vl → Prop
  | nil : VlsOk K F io n [] []
  | cons {v : V} {vs : List V} {l : Vl} {ls : List Vl} : VlOk K F io n v l → VlsOk K F io n vs ls → VlsOk K F io n (v :: vs) (l :: ls)
section
variable {K : PySem.W.Frag} {F F' F2 H H' H2 : Hp} {io io' io2 : Nat → Addr} {m m' m2 : Mu} {σ : L2.St} {r : En} {v : V} {vl : Vl} {d : D}
theorem Adv.refl (s : Stt K F io m H) : Adv K F io m F io m H := ⟨Le.refl F, fun _ _ => rfl, Nat.le_refl _, s⟩
theorem Adv.trans (a : Adv K F io m F' io' m' H') (b : Adv K F' io' m' F2 io2 m2 H2) : Adv K F io m F2 io2 m2 H2 :=
  ⟨a.ff.trans b.ff, fun n h => (b.ii n (Nat.lt_of_lt_of_le h a.ln)).trans (a.ii n h), Nat.le_trans a.ln b.ln, b.st⟩
theorem SOk.adv {x : D ⊕ Nat} (h : SOk K F io m.length v x) (a : Adv K F io m F' io' m' H') : SOk K F' io' m'.length v x := by
  cases x with
  | inl d => exact Is.mono a.ff h
  | inr i => exact ⟨Nat.lt_of_lt_of_le h.1 a.ln, by rw [a.ii i h.1]; exact h.2⟩
theorem SsOk.adv {us : List V} {xs : List (D ⊕ Nat)} (h : SsOk K F io m.length us xs) (a : Adv K F io m F' io' m' H') : SsOk K F' io' m'.length us xs := by
  induction h with
  | nil => exact .nil
  | cons h _ ih => exact .cons (h.adv a) ih
theorem SOk.toVl {n : Nat} {x : D ⊕ Nat} (h : SOk K F io n v x) : VlOk K F io n v (Vl.s x) := by
  cases x with
  | inl d => exact h
  | inr i => exact h
theorem VlOk.so {n : Nat} {x : D ⊕ Nat} (h : VlOk K F io n v vl) (e : vl.sim = some x) : SOk K F io n v x := by
  cases vl with
  | t d => cases e; exact h
  | loc i => cases e; exact h
  | er c x => cases e
  | tv xs => cases e
theorem VlsOk.so {n : Nat} : ∀ {vs : List V} {ls : List Vl} {xs : List (D ⊕ Nat)}, VlsOk K F io n vs ls → simL ls = some xs → SsOk K F io n vs xs
  | _, _, _, .nil, e => by cases e; exact .nil
  | _, _, xs, .cons (l := l) (ls := ls) h k, e => by
    unfold simL at e
    cases h1 : l.sim with
    | none => rw [h1] at e; cases e
    | some x =>
      cases h2 : simL ls with
      | none => rw [h1, h2] at e; cases e
      | some ys =>
        rw [h1, h2] at e
        cases e
        exact .cons (h.so h1) (VlsOk.so k h2)
theorem SsOk.length {n : Nat} {us : List V} {xs : List (D ⊕ Nat)} (h : SsOk K F io n us xs) : us.length = xs.length := by
  induction h with
  | nil => rfl
  | cons h _ ih => simp [ih]
theorem SsOk.get {n : Nat} {us : List V} {xs : List (D ⊕ Nat)} (h : SsOk K F io n us xs) : ∀ (i : Nat) (x : D ⊕ Nat), xs[i]? = some x → ∃ u : V, us[i]? = some u ∧ SOk K F io n u x := by
  induction h with
  | nil => intro i x e; simp at e
  | cons h _ ih =>
    intro i x e
    cases i with
    | zero => simp at e; subst e; exact ⟨_, rfl, h⟩
    | succ i => exact ih i x (by simpa using e)
theorem VlOk.adv (h : VlOk K F io m.length v vl) (a : Adv K F io m F' io' m' H') : VlOk K F' io' m'.length v vl := by
  cases vl with
  | t d => exact Is.mono a.ff h
  | loc i => exact ⟨Nat.lt_of_lt_of_le h.1 a.ln, by rw [a.ii i h.1]; exact h.2⟩
  | er c x =>
    obtain ⟨p, C, e1, e2, ⟨dx, u, e3, e4, e5⟩ | ⟨e3, e4, e5⟩⟩ := h
    · exact ⟨p, C, e1, e2, .inl ⟨dx, u, a.ff _ _ e3, a.ff _ _ e4, e5.adv a⟩⟩
    · exact ⟨p, C, e1, e2, .inr ⟨e3, e4, a.ff _ _ e5⟩⟩
  | tv xs =>
    obtain ⟨p, us, e1, e2, e3⟩ := h
    exact ⟨p, us, e1, a.ff.st e2, e3.adv a⟩
theorem EnOk.adv (h : EnOk K F io m.length σ r) (a : Adv K F io m F' io' m' H') : EnOk K F' io' m'.length σ r :=
  ⟨h.len, fun i l e => let ⟨v, e1, e2⟩ := h.get i l e; ⟨v, e1, e2.adv a⟩⟩
theorem VlsOk.adv {vs : List V} {ls : List Vl} (h : VlsOk K F io m.length vs ls) (a : Adv K F io m F' io' m' H') : VlsOk K F' io' m'.length vs ls := by
  induction h with
  | nil => exact .nil
  | cons h _ ih => exact .cons (h.adv a) ih
theorem VlsOk.length {vs : List V} {ls : List Vl} {n : Nat} (h : VlsOk K F io n vs ls) : vs.length = ls.length := by
  induction h with
  | nil => rfl
  | cons h _ ih => simp [ih]
theorem EnOk.set {n : Nat} (h : EnOk K F io n σ r) (i : Nat) (q : VlOk K F io n v vl) : EnOk K F io n (σ.set i (some v)) (r.set i (some vl)) := by
  refine ⟨by simp [h.len], fun j l e => ?_⟩
  by_cases hj : i = j
  · subst hj
    by_cases hi : i < r.length
    · rw [List.getElem?_set_self hi] at e
      cases e
      exact ⟨v, by rw [List.getElem?_set_self (by rw [h.len]; exact hi)], q⟩
    · rw [List.getElem?_eq_none (by simpa using hi)] at e
      cases e
  · rw [List.getElem?_set_ne hj] at e
    obtain ⟨w, e1, e2⟩ := h.get j l e
    exact ⟨w, by rw [List.getElem?_set_ne hj]; exact e1, e2⟩
theorem EnOk.wipe {n : Nat} (h : EnOk K F io n σ r) : ∀ vs : List Nat, EnOk K F io n (wipe σ vs) (wipeE r vs)
  | [] => h
  | i :: vs => by
    have k := EnOk.wipe h vs
    show EnOk K F io n ((L2.wipe σ vs).set i none) ((wipeE r vs).set i none)
    refine ⟨by simp [k.len], fun j l e => ?_⟩
    by_cases hj : i = j
    · subst hj
      by_cases hi : i < (wipeE r vs).length
      · rw [List.getElem?_set_self hi] at e; cases e
      · rw [List.getElem?_eq_none (by simpa using hi)] at e; cases e
    · rw [List.getElem?_set_ne hj] at e
      obtain ⟨w, e1, e2⟩ := k.get j l e
      exact ⟨w, by rw [List.getElem?_set_ne hj]; exact e1, e2⟩
theorem EnOk.start {n : Nat} {vs : List V} {ls : List Vl} (h : VlsOk K F io n vs ls) (z : Nat) : EnOk K F io n (vs.map some ++ List.replicate z none) (ls.map some ++ List.replicate z none) := by
  refine ⟨by simp [h.length], fun i l e => ?_⟩
  have hl := h.length
  by_cases hi : i < ls.length
  · rw [List.getElem?_append_left (by simpa using hi), List.getElem?_map] at e
    rw [List.getElem?_append_left (by simp; omega), List.getElem?_map]
    have key : ∀ {vs : List V} {ls : List Vl}, VlsOk K F io n vs ls → ∀ (i : Nat) (l : Vl), ls[i]? = some l → ∃ v : V, vs[i]? = some v ∧ VlOk K F io n v l := by
      intro vs ls h
      induction h with
      | nil => intro i l e; simp at e
      | cons h _ ih =>
        intro i l e
        cases i with
        | zero => simp at e; subst e; exact ⟨_, rfl, h⟩
        | succ i => exact ih i l (by simpa using e)
    cases q : ls[i]? with
    | none => rw [q] at e; cases e
    | some a =>
      rw [q] at e
      cases e
      obtain ⟨v, e1, e2⟩ := key h i _ q
      exact ⟨v, by rw [e1]; rfl, e2⟩
  · rw [List.getElem?_append_right (by simp; omega), List.getElem?_replicate] at e
    split at e <;> cases e
theorem CellS.grow {a : Addr} {c : Cell} (h : CellS K F H a c) (g : Grow F H F' H') : CellS K F' H' a c := by
  have nf : ∀ {o}, F a = none → H a = some o → F' a = none := fun {o} n e => by
    cases q : F' a with
    | none => rfl
    | some u =>
      rcases g.nw a (by rw [q]; simp) with z | z
      · exact absurd n z
      · rw [e] at z; cases z
  cases c with
  | lst ds fz =>
    cases fz with
    | false =>
      obtain ⟨n, xs, e, k⟩ := h
      exact ⟨nf n e, xs, g.hh _ _ e, k.mono g.ff⟩
    | true =>
      obtain ⟨xs, e, k⟩ := h
      exact ⟨xs, g.ff _ _ e, k.mono g.ff⟩
  | dct ds fz =>
    cases fz with
    | false =>
      obtain ⟨n, xs, e, k⟩ := h
      exact ⟨nf n e, xs, g.hh _ _ e, k.mono g.ff⟩
    | true =>
      obtain ⟨xs, e, k⟩ := h
      exact ⟨xs, g.ff _ _ e, k.mono g.ff⟩
theorem Stt.grow (s : Stt K F io m H) (g : Grow F H F' H') : Stt K F' io m H' := ⟨g.fh, fun n c e => (s.cell n c e).grow g, s.inj⟩
theorem Adv.grow (s : Stt K F io m H) (g : Grow F H F' H') : Adv K F io m F' io m H' := ⟨g.ff, fun _ _ => rfl, Nat.le_refl _, s.grow g⟩
theorem VlOk.vw (s : Stt K F io m H) (h : VlOk K F io m.length v vl) (e : view m vl = some d) : Vw K F H v d := by
  cases vl with
  | t a => cases e; exact .of h
  | loc n =>
    obtain ⟨h1, rfl⟩ := h
    have e : (m[n]?).map Cell.data = some d := e
    cases q : m[n]? with
    | none => rw [q] at e; cases e
    | some c =>
      rw [q] at e
      cases e
      have k := s.cell n c q
      cases c with
      | lst ds fz =>
        cases fz with
        | false => obtain ⟨_, xs, e1, k⟩ := k; exact .lst e1 k
        | true => obtain ⟨xs, e1, k⟩ := k; exact .of (.lst (SqL.of e1) k)
      | dct ds fz =>
        cases fz with
        | false => obtain ⟨_, xs, e1, k⟩ := k; exact .dct e1 k
        | true => obtain ⟨xs, e1, k⟩ := k; exact .of (.dct e1 k)
  | er c x => cases e
  | tv xs => cases e
theorem VlsOk.vw (s : Stt K F io m H) : ∀ {vs : List V} {ls : List Vl} {ds : List D}, VlsOk K F io m.length vs ls → views m ls = some ds → VwL K F H vs ds
  | _, _, ds, .nil, e => by cases e; exact .nil
  | _, _, ds, .cons (l := l) (ls := ls) h k, e => by
    unfold views at e
    cases h1 : view m l with
    | none => rw [h1] at e; cases e
    | some d =>
      cases h2 : views m ls with
      | none => rw [h1, h2] at e; cases e
      | some es =>
        rw [h1, h2] at e
        cases e
        exact .cons (h.vw s h1) (VlsOk.vw s k h2)
theorem Stt.freeze {n : Nat} {c : Cell} (s : Stt K F io m H) (e : m[n]? = some c) : ∃ F', Adv K F io m F' io (m.set n c.freeze) H ∧ Is K F' (.ref (io n)) c.data := by
  have hn : n < m.length := (List.getElem?_eq_some_iff.mp e).1
  have other : ∀ (o : HO), H (io n) = some o → F (io n) = none → ∀ i c', (m.set n c.freeze)[i]? = some c' → i ≠ n → CellS K (upd F (io n) o) H (io i) c' := fun o ho nf i c' e' hi => by
    rw [List.getElem?_set_ne (Ne.symm hi)] at e'
    have hl : i < m.length := (List.getElem?_eq_some_iff.mp e').1
    have ne : io i ≠ io n := fun z => hi (s.inj i n hl hn z)
    have lf : Le F (upd F (io n) o) := Le.new nf
    have k := s.cell i c' e'
    cases c' with
    | lst ds fz =>
      cases fz with
      | false => obtain ⟨k1, xs, k2, k3⟩ := k; exact ⟨by rw [upd_ne ne]; exact k1, xs, k2, k3.mono lf⟩
      | true => obtain ⟨xs, k2, k3⟩ := k; exact ⟨xs, lf _ _ k2, k3.mono lf⟩
    | dct ds fz =>
      cases fz with
      | false => obtain ⟨k1, xs, k2, k3⟩ := k; exact ⟨by rw [upd_ne ne]; exact k1, xs, k2, k3.mono lf⟩
      | true => obtain ⟨xs, k2, k3⟩ := k; exact ⟨xs, lf _ _ k2, k3.mono lf⟩
  have sub' : ∀ (o : HO), H (io n) = some o → Le (upd F (io n) o) H := fun o ho b u eb => by
    by_cases hb : b = io n
    · subst hb; rw [upd_same] at eb; cases eb; exact ho
    · rw [upd_ne hb] at eb; exact s.sub b u eb
  have inj' : ∀ i j, i < (m.set n c.freeze).length → j < (m.set n c.freeze).length → io i = io j → i = j := fun i j hi hj z => s.inj i j (by simpa using hi) (by simpa using hj) z
  have k := s.cell n c e
  have same : c.freeze = c → ∃ F', Adv K F io m F' io (m.set n c.freeze) H ∧ F' = F := fun h => by
    refine ⟨F, ?_, rfl⟩
    rw [h]
    have : m.set n c = m := by
      apply List.ext_getElem?
      intro i
      by_cases hi : n = i
      · subst hi; rw [List.getElem?_set_self hn, e]
      · rw [List.getElem?_set_ne hi]
    rw [this]
    exact Adv.refl s
  cases c with
  | lst ds fz =>
    cases fz with
    | false =>
      obtain ⟨nf, xs, e1, k1⟩ := k
      refine ⟨upd F (io n) (.lst xs), ⟨Le.new nf, fun _ _ => rfl, by simp, sub' _ e1, fun i c' e' => ?_, inj'⟩, .lst (SqL.of upd_same) (k1.mono (Le.new nf))⟩
      by_cases hi : i = n
      · subst hi
        rw [List.getElem?_set_self hn] at e'
        cases e'
        exact ⟨xs, upd_same, k1.mono (Le.new nf)⟩
      · exact other _ e1 nf i c' e' hi
    | true =>
      obtain ⟨F', a, rfl⟩ := same rfl
      obtain ⟨xs, e1, k1⟩ := k
      exact ⟨F', a, .lst (SqL.of e1) k1⟩
  | dct ds fz =>
    cases fz with
    | false =>
      obtain ⟨nf, xs, e1, k1⟩ := k
      refine ⟨upd F (io n) (.dK xs), ⟨Le.new nf, fun _ _ => rfl, by simp, sub' _ e1, fun i c' e' => ?_, inj'⟩, .dct upd_same (k1.mono (Le.new nf))⟩
      by_cases hi : i = n
      · subst hi
        rw [List.getElem?_set_self hn] at e'
        cases e'
        exact ⟨xs, upd_same, k1.mono (Le.new nf)⟩
      · exact other _ e1 nf i c' e' hi
    | true =>
      obtain ⟨F', a, rfl⟩ := same rfl
      obtain ⟨xs, e1, k1⟩ := k
      exact ⟨F', a, .dct e1 k1⟩
theorem VlOk.down {b : Nat} (s : Stt K F io m H) (h : VlOk K F io m.length v vl) (e : down b m vl = some (d, m')) : ∃ F', Adv K F io m F' io m' H ∧ Is K F' v d := by
  cases vl with
  | t a => cases e; exact ⟨F, Adv.refl s, h⟩
  | loc n =>
    obtain ⟨h1, rfl⟩ := h
    unfold TI.down at e
    simp only at e
    split at e
    · split at e
      · rename_i c q
        cases e
        exact s.freeze q
      · cases e
    · cases e
  | er c x => cases e
  | tv xs => cases e
theorem Stt.mut {n : Nat} {ds ds' : List D} {xs' : List V} (s : Stt K F io m H) (e : m[n]? = some (.lst ds false)) (k : IsL K F xs' ds') : Stt K F io (m.set n (.lst ds' false)) (upd H (io n) (.lst xs')) := by
  have hn : n < m.length := (List.getElem?_eq_some_iff.mp e).1
  obtain ⟨nf, xs, e1, k1⟩ := s.cell n _ e
  refine ⟨fun a o h => ?_, fun i c' e' => ?_, fun i j hi hj z => s.inj i j (by simpa using hi) (by simpa using hj) z⟩
  · rw [upd_ne (fun z => by rw [z, nf] at h; cases h)]
    exact s.sub a o h
  · by_cases hi : i = n
    · subst hi
      rw [List.getElem?_set_self hn] at e'
      cases e'
      exact ⟨nf, xs', upd_same, k⟩
    · rw [List.getElem?_set_ne (Ne.symm hi)] at e'
      have hl : i < m.length := (List.getElem?_eq_some_iff.mp e').1
      have ne : io i ≠ io n := fun z => hi (s.inj i n hl hn z)
      have q := s.cell i c' e'
      cases c' with
      | lst ds fz =>
        cases fz with
        | false => obtain ⟨k1, xs, k2, k3⟩ := q; exact ⟨k1, xs, by rw [upd_ne ne]; exact k2, k3⟩
        | true => exact q
      | dct ds fz =>
        cases fz with
        | false => obtain ⟨k1, xs, k2, k3⟩ := q; exact ⟨k1, xs, by rw [upd_ne ne]; exact k2, k3⟩
        | true => exact q
theorem Adv.mut {n : Nat} {ds ds' : List D} {xs' : List V} (s : Stt K F io m H) (e : m[n]? = some (.lst ds false)) (k : IsL K F xs' ds') : Adv K F io m F io (m.set n (.lst ds' false)) (upd H (io n) (.lst xs')) :=
  ⟨Le.refl F, fun _ _ => rfl, by simp, s.mut e k⟩
theorem Stt.mutD {n : Nat} {ds ds' : List (D × D)} {xs' : List (Key × V)} (s : Stt K F io m H) (e : m[n]? = some (.dct ds false)) (k : IsKV K F xs' ds') : Stt K F io (m.set n (.dct ds' false)) (upd H (io n) (.dK xs')) := by
  have hn : n < m.length := (List.getElem?_eq_some_iff.mp e).1
  obtain ⟨nf, xs, e1, k1⟩ := s.cell n _ e
  refine ⟨fun a o h => ?_, fun i c' e' => ?_, fun i j hi hj z => s.inj i j (by simpa using hi) (by simpa using hj) z⟩
  · rw [upd_ne (fun z => by rw [z, nf] at h; cases h)]
    exact s.sub a o h
  · by_cases hi : i = n
    · subst hi
      rw [List.getElem?_set_self hn] at e'
      cases e'
      exact ⟨nf, xs', upd_same, k⟩
    · rw [List.getElem?_set_ne (Ne.symm hi)] at e'
      have hl : i < m.length := (List.getElem?_eq_some_iff.mp e').1
      have ne : io i ≠ io n := fun z => hi (s.inj i n hl hn z)
      have q := s.cell i c' e'
      cases c' with
      | lst ds fz =>
        cases fz with
        | false => obtain ⟨k1, xs, k2, k3⟩ := q; exact ⟨k1, xs, by rw [upd_ne ne]; exact k2, k3⟩
        | true => exact q
      | dct ds fz =>
        cases fz with
        | false => obtain ⟨k1, xs, k2, k3⟩ := q; exact ⟨k1, xs, by rw [upd_ne ne]; exact k2, k3⟩
        | true => exact q
theorem Adv.mutD {n : Nat} {ds ds' : List (D × D)} {xs' : List (Key × V)} (s : Stt K F io m H) (e : m[n]? = some (.dct ds false)) (k : IsKV K F xs' ds') : Adv K F io m F io (m.set n (.dct ds' false)) (upd H (io n) (.dK xs')) :=
  ⟨Le.refl F, fun _ _ => rfl, by simp, s.mutD e k⟩
def nio (io : Nat → Addr) (n : Nat) (p : Addr) : Nat → Addr := fun i => if i = n then p else io i
theorem Adv.cell {p : Addr} {o : HO} {c : Cell} (s : Stt K F io m H) (n : H p = none) (k : CellO K F c o) (fz : ∀ ds b, (c = .lst ds b ∨ ∃ es, c = .dct es b) → b = false) : Adv K F io m F (nio io m.length p) (m ++ [c]) (upd H p o) := by
  have nf := nof s.sub n
  have other : ∀ i, i < m.length → nio io m.length p i = io i := fun i hi => if_neg (Nat.ne_of_lt hi)
  have apart : ∀ i, i < m.length → io i ≠ p := fun i hi z => by
    obtain ⟨c', e⟩ : ∃ c', m[i]? = some c' := ⟨m[i], List.getElem?_eq_getElem hi⟩
    have q := s.cell i c' e
    rw [z] at q
    cases c' with
    | lst ds fz =>
      cases fz with
      | false => obtain ⟨_, xs, k2, _⟩ := q; rw [n] at k2; cases k2
      | true => obtain ⟨xs, k2, _⟩ := q; rw [nf] at k2; cases k2
    | dct ds fz =>
      cases fz with
      | false => obtain ⟨_, xs, k2, _⟩ := q; rw [n] at k2; cases k2
      | true => obtain ⟨xs, k2, _⟩ := q; rw [nf] at k2; cases k2
  refine ⟨Le.refl F, other, by simp, fun a u e => ?_, fun i c' e => ?_, fun i j hi hj z => ?_⟩
  · rw [upd_ne (fun z => by rw [z, nf] at e; cases e)]
    exact s.sub a u e
  · by_cases hi : i < m.length
    · rw [List.getElem?_append_left hi] at e
      rw [other i hi]
      have q := s.cell i c' e
      have ne := apart i hi
      cases c' with
      | lst ds fz =>
        cases fz with
        | false => obtain ⟨k1, xs, k2, k3⟩ := q; exact ⟨k1, xs, by rw [upd_ne ne]; exact k2, k3⟩
        | true => exact q
      | dct ds fz =>
        cases fz with
        | false => obtain ⟨k1, xs, k2, k3⟩ := q; exact ⟨k1, xs, by rw [upd_ne ne]; exact k2, k3⟩
        | true => exact q
    · have hi' : i = m.length := by
        have := (List.getElem?_eq_some_iff.mp e).1
        simp at this
        omega
      subst hi'
      rw [List.getElem?_append_right (Nat.le_refl _)] at e
      simp at e
      subst e
      have hp : nio io m.length p m.length = p := if_pos rfl
      rw [hp]
      cases c with
      | lst ds b =>
        have := fz ds b (.inl rfl)
        subst this
        obtain ⟨xs, rfl, k⟩ := k
        exact ⟨nf, xs, upd_same, k⟩
      | dct es b =>
        have := fz [] b (.inr ⟨es, rfl⟩)
        subst this
        obtain ⟨xs, rfl, k⟩ := k
        exact ⟨nf, xs, upd_same, k⟩
  · simp at hi hj
    unfold nio at z
    by_cases h1 : i = m.length <;> by_cases h2 : j = m.length
    · omega
    · rw [if_pos h1, if_neg h2] at z
      exact absurd z.symm (apart j (by omega))
    · rw [if_neg h1, if_pos h2] at z
      exact absurd z (apart i (by omega))
    · rw [if_neg h1, if_neg h2] at z
      exact s.inj i j (by omega) (by omega) z
theorem Stt.take (s : Stt K F io m H) (b : Nat) : Stt K F io (m.take b) H := by
  refine ⟨s.sub, fun n c e => s.cell n c ?_, fun i j hi hj z => s.inj i j (by simp at hi; omega) (by simp at hj; omega) z⟩
  rw [List.getElem?_take] at e
  split at e
  · exact e
  · cases e
end
end TI
set_option maxHeartbeats 200000
set_option maxHeartbeats 2000000
namespace PySem
namespace HandSPX
section
variable {M : Model} {A : Around} {E : Value → Shared → Prop} {h : Heap} {g : Array GenState} {d : Drawn} {t : Nat} {os : OsState}
variable {nm q : Str} {C N : Addr} {bs bm bmB : List Value} {hdct : Bool} {sn : List Str} {sub : List Value} {ab : Bool} {col : Option Bool} {dd : Option Addr} {k0 k1 k2 k3 k5 : Option Value} {B newId initId : String}
theorem check_new_ownK (F : ExcBaseFacts B newId initId bmB) (hT : ∀ X : String, bm.contains (.type X) = bmB.contains (.type X)) {ks : List (Str × Value)} {Q : Unit → Shared → Prop}
    (hC : h.get? C = some (excClassObj nm q C N bs bm hdct sn sub ab col dd k0 k1 k2 k3 k5 newId)) (hq : Q () ⟨h, g, d, t, os⟩) : wpAny M A (checkBuiltinCall newId ⟨[.ref C], ks⟩) Q E ⟨h, g, d, t, os⟩ := by
  have hcont : (Value.ref C :: bm).contains (.type B) = true := by rw [List.contains_cons, hT, F.hasB, Bool.or_true]
  have hstar := F.noStar
  simp only [checkBuiltinCall, F.newKind, F.newSplit, F.newRow]
  repeat (first | refine wpAny_loadPart_at hC ?_ | (refine wpAny_isSubtype_exc hC ?_; rw [hcont]) | refine wpAny_staticBase_exc hC ?_ | refine wpAny_madeBy_exc hC ?_ | simp only [bne_self_eq_false, Bool.false_eq_true, if_false] | wp_step)
  exact hq
end
section
variable {prog : Program} {w : World} {A : Around} {E : Value → Shared → Prop} {R : Result → Shared → Prop} {h : Heap} {g : Array GenState} {d : Drawn} {t : Nat} {os : OsState}
variable {nm q : Str} {C N : Addr} {bs bm bmB : List Value} {hdct : Bool} {sn : List Str} {sub : List Value} {ab : Bool} {col : Option Bool} {dd : Option Addr} {k0 k1 k2 k3 k5 : Option Value} {B newId initId : String}
theorem new_ownK (F : ExcBaseFacts B newId initId bmB) (hT : ∀ X : String, bm.contains (.type X) = bmB.contains (.type X)) {kn : Str} {kv : Value}
    (hC : h.get? C = some (excClassObj nm q C N bs bm hdct sn sub ab col dd k0 k1 k2 k3 k5 newId))
    (hq : R (.ok (.ret (.ref (h.objs.size + 1)))) ⟨(h.push { cls := .type "tuple", data := .seq #[] }).push
      { cls := .ref C, data := .fields #[.ref h.objs.size, .none, .none, .none, .bool false, .none] }, g, d, t, os⟩) :
    codeAny (model prog w) A (.builtin newId ⟨[.ref C], [(kn, kv)]⟩) R ⟨h, g, d, t, os⟩ := by
  have hends := F.ends
  have hcB : (Value.ref C :: bm).contains (.type B) = true := by rw [List.contains_cons, hT, F.hasB, Bool.or_true]
  have hcA : (Value.ref C :: bm).contains (.type "AttributeError") = false := by rw [List.contains_cons, hT, F.noAttr]; rfl
  have hcN : (Value.ref C :: bm).contains (.type "NameError") = false := by rw [List.contains_cons, hT, F.noName]; rfl
  have hrest : ([] : List Value).length ≤ sizeLine := by simp
  refine codeAny_builtinAt F.entry ?_
  unfold Builtin.«BaseException.__new__»
  refine wpAt_bind ?_
  show wpAt _ _ _ (stack >>= _) _ _ _
  refine wpAt_bind (wpAt_stack fun p below => wpAt_of_wpAny ?_)
  wp_walk
  refine wpAt_of_wpAny ?_
  rw [F.owner]
  repeat (first | with_reducible refine wpAny_madeHere_exc F.canon hC ?_ | with_reducible refine wpAny_loadPart_at hC ?_ | (with_reducible refine wpAny_isSubtype_exc hC ?_; first | rw [hcB] | rw [hcA] | rw [hcN]) | wp_step)
  show R _ _
  rw [Heap.size_push]
  exact hq
end
end HandSPX
end PySem
namespace PySem
namespace HandSPX
section
variable {prog : Program} {w : World} {A : Around} {E : Value → Shared → Prop} {R : Result → Shared → Prop} {h : Heap} {g : Array GenState} {d : Drawn} {t : Nat} {os : OsState}
variable {nm q : Str} {C N : Addr} {bs bm bmB : List Value} {hdct : Bool} {sn : List Str} {sub : List Value} {ab : Bool} {col : Option Bool} {dd : Option Addr} {k0 k1 k2 k3 k5 : Option Value} {B newId initId : String}
theorem type_call_ownK (F : ExcBaseFacts B newId initId bmB) (hT : ∀ X : String, bm.contains (.type X) = bmB.contains (.type X)) {kn : Str} {kv : Value} {fI : Addr} {Q : Fin → Shared → Prop}
    (hC : h.get? C = some (excClassObj nm q C N bs bm hdct sn sub ab col dd k0 k1 k2 k3 k5 newId))
    (hi : W.Looks (model prog w) h (typeLookup (.ref C) "__init__") (some (.ref fI))) (hb : ∀ self, W.Looks (model prog w) h (bindSpecial (.ref fI) self) (.ref fI, [self]))
    (hq : codeAny (model prog w) A (.call (.ref fI) ⟨[.ref (h.objs.size + 1)], [(kn, kv)]⟩)
      (fun r s' => match r with | .ok (.ret v) => v = .none ∧ Q (.done (.ret (.ref (h.objs.size + 1)))) s' | .ok _ => False | .error e => E e s')
      ⟨(h.push (W.kdv_tup [])).push (excO C h.objs.size), g, d, t, os⟩) :
    wpAny (model prog w) A (Builtin.«type.__call__» ⟨[.ref C], [(kn, kv)]⟩) Q E ⟨h, g, d, t, os⟩ := by
  repeat (first | with_reducible refine wpAny_loadPart_at hC ?_ | with_reducible refine wpAny_madeBy_exc hC ?_ | wp_step)
  refine codeAny_call_builtin_code (Code.quiet_builtin _ F.quiet) (check_new_ownK F hT hC ?_)
  refine new_ownK F hT hC ?_
  show wpAny _ _ _ _ _ _
  have k : ∀ b o, h.get? b = some o → ((h.push (W.kdv_tup [])).push (excO C h.objs.size)).get? b = some o := fun b o e => Heap.get?_push_of_some _ (Heap.get?_push_of_some _ e)
  have hC₁ := k _ _ hC
  have hget : ((h.push (W.kdv_tup [])).push (excO C h.objs.size)).get? (h.objs.size + 1) = some (excO C h.objs.size) := by heap_get
  have hcC : (Value.ref C :: bm).contains (.ref C) = true := by simp
  have i1 := hi.keeps k
  have b1 := (hb (.ref (h.objs.size + 1))).keeps k
  unfold isInstance
  repeat (first | with_reducible refine wpAny_loadPart_at hget ?_ | (with_reducible refine wpAny_isSubtype_exc hC₁ ?_; rw [hcC]) | wp_step)
  show wpAny _ _ (typeLookup (.ref C) _) _ _ _
  refine i1.at ?_
  refine wpAny_holding (wpAny_bind (b1.at ?_))
  refine wpAny_bind (wpAny_call (codeAny_mono hq fun r s' z => ?_))
  rcases r with e | (v | _ | _ | _) <;> first | exact z | exact z.elim | skip
  obtain ⟨rfl, z⟩ := z
  first
    | exact wpAny_pure (wpAny_pure z)
    | (wp_walk; exact z)
theorem call_ownK (F : ExcBaseFacts B newId initId bmB) (hT : ∀ X : String, bm.contains (.type X) = bmB.contains (.type X)) {kn : Str} {kv : Value} {fI : Addr}
    (hC : h.get? C = some (excClassObj nm q C N bs bm hdct sn sub ab col dd k0 k1 k2 k3 k5 newId))
    (hi : W.Looks (model prog w) h (typeLookup (.ref C) "__init__") (some (.ref fI))) (hb : ∀ self, W.Looks (model prog w) h (bindSpecial (.ref fI) self) (.ref fI, [self]))
    (hq : codeAny (model prog w) (A.under (.builtin "type.__call__" ⟨[.ref C], [(kn, kv)]⟩)) (.call (.ref fI) ⟨[.ref (h.objs.size + 1)], [(kn, kv)]⟩) (W.InitBack (h.objs.size + 1) R)
      ⟨(h.push (W.kdv_tup [])).push (excO C h.objs.size), g, d, t, os⟩) :
    codeAny (model prog w) A (.call (.ref C) ⟨[], [(kn, kv)]⟩) R ⟨h, g, d, t, os⟩ := by
  have f1 := tc_lookup
  have f2 := tc_bind (.ref C)
  have hTy : (⟨h, g, d, t, os⟩ : Shared).TypeIs (.ref C) "type" := ⟨_, hC, rfl⟩
  refine codeAny_of_tree ?_
  show wpAny _ _ (callAny (.ref C) _) _ _ _
  repeat (any_goals (first | assumption | with_reducible refine wpAny_loadPart_at hC ?_ | wp_step))
  refine ⟨rfl, ?_⟩
  refine codeAny_call_builtin_at (Code.quiet_builtin _ (by decide +kernel)) entry_typeCall (wpAny_check_type_call_sub hC (type_call_ownK F hT hC hi hb ?_))
  refine codeAny_mono hq fun r s' z => ?_
  rcases r with e | (v | _ | _ | _) <;> exact z
end
end HandSPX
end PySem
set_option maxHeartbeats 200000
set_option maxHeartbeats 2000000
namespace PySem
namespace ErX
open PySem.W PySem.Calls PyProof.Rows PySem.HandSPX
def iA (p1 p2 p3 : Pos) : Arguments := { posonlyargs := [], args := [{ arg := "self", annotation := none, pos := p1 }, { arg := "value", annotation := none, pos := p2 }], vararg := none, kwonlyargs := [], kw_defaults := [], kwarg := none, defaults := [.Constant .none 0 p3] }
def iX (a1 a2 a3 a4 : Pos) : Expr := .Call (.Attribute (.Call (.Name "super" a1) [] [] a2) "__init__" a3) [] [] a4
def iB (a1 a2 a3 a4 a5 q1 q2 q3 q4 : Pos) : List Stmt := [.Expr (iX a1 a2 a3 a4) a5, .Assign [.Attribute (.Name "self" q1) "value" q2] (.Name "value" q3) q4]
def iS : Scope := { kind := .function, names := [(PySem.Str.ofString "self", .local), (PySem.Str.ofString "value", .local), (PySem.Str.ofString "__class__", .free), (PySem.Str.ofString "super", .globalImplicit)], isGenerator := false, isCoroutine := false, more := [] }
abbrev bmVE : List Value := [.type "ValueError", .type "Exception", .type "BaseException", .type "object"]
structure ErTxt (P : Program) (K : Frag) (mg : Str → Option Value) (nm : Str) (C fI : Addr) : Prop where
  gC : mg nm = some (.ref C)
  ini : excInitIn K C bmVE "ValueError.__new__" = true
  cls : ∃ nm q N bs bm sn sub ab col dd k0 k1 k2 k3 k5, K.lookup C = some (excClassObj nm q C N bs bm true sn sub ab col dd k0 k1 k2 k3 k5 "ValueError.__new__") ∧ refsVE bm = true
  sup : ks_superIn K C C "__init__" = some (some (.builtin "ValueError.__init__"))
  noOp : nsIn K cStatics "thirdparty.any" = some none
  subC : mroIn K C (.ref C) = some true
  subVE : subIn K (.ref C) (.type "ValueError") = some true
  sa : findIn K (.ref C) "__setattr__" = some (some (.builtin "object.__setattr__"))
  ga : findIn K (.ref C) "__getattribute__" = some (some (.builtin "BaseException.__getattribute__"))
  gg : findIn K (.ref C) "__getattr__" = some none
  noN : findIn K (.ref C) "value" = some none
  iC : findIn K (.ref C) "__init__" = some (some (.ref fI))
  tC : typeIn K (.ref fI) = some (.type "function")
  kC : keepIn K (.ref C) = true
  exC : subIn K (.ref C) (.type "BaseException") = some true
  tyC : typeIn K (.ref C) = some (.type "type")
  hdC : hasDictIn K C = true
  fn : ∃ (oc : Value) (od : Option Addr) (q : Str) (dT : Addr) (doc pm : Value) (an : Option Addr) (cda cc : Addr) (ct : Value) (osl : Array (Option Value)) (p1 p2 p3 : Pos) (a1 a2 a3 a4 a5 q1 q2 q3 q4 : Pos),
    K.lookup fI = some ⟨oc, od, .func (ksFn "__init__" q (iA p1 p2 p3) (iB a1 a2 a3 a4 a5 q1 q2 q3 q4) iS (.ref dT) .none doc pm an (.ref cda) ct cc), osl⟩ ∧ codeIn K (.ref cda) q = true ∧
    (∃ ccl cdd vs ccs file tf, K.lookup cda = some ⟨ccl, cdd, .fields vs, ccs⟩ ∧ vs[2]? = some (.str file tf) ∧ ((P.main.file : Str) == file) = true) ∧ (∃ cl cld csl, K.lookup cc = some ⟨cl, cld, .cell (some (.ref C)), csl⟩) ∧ (∀ q' L f cd, ∃ pl : Sem Bool, eval (iX a1 a2 a3 a4) (ksEnv q' iS L f cd cc) = (do let ov ← attributeBase (.Call (.Name "super" a1) [] [] a2) "__init__" (ksEnv q' iS L f cd cc) (eval (.Call (.Name "super" a1) [] [] a2) (ksEnv q' iS L f cd cc)); standAt a3.atName; let (f', first) ← holding [ov] (getMethod ov "__init__" pl); callWith a4 f' first (backTo a4 (starEach [] (ksEnv q' iS L f cd cc))) [])) ∧ (∀ q' L f cd, swapsWith (iX a1 a2 a3 a4) none a5.line (ksEnv q' iS L f cd cc) = pure false) ∧ (∃ o n, K.lookup dT = some o ∧ o.data = .seq #[.none] n)
  cC : findIn K (.ref C) "__class__" = some (some (.builtin "object.__class__"))
  spG : specialIn K (.builtin "object.__class__") "__get__" = some (some (.builtin "getset_descriptor.__get__"))
  tkG : takesIn K (.builtin "object.__class__") = some true
  mrO : mroIn K C (.type "object") = some true
  top : (P.main.scope.names.lookup ("super" : Str)).isSome = false
  noSup : mg "super" = none
structure ClTxt (K : Frag) (C : Addr) : Prop where
  cls : (clsIn K C).isSome = true
  ga : findIn K (.ref C) "__getattribute__" = some (some (.builtin "BaseException.__getattribute__"))
  gg : findIn K (.ref C) "__getattr__" = some none
  exC : subIn K (.ref C) (.type "BaseException") = some true
  cC : findIn K (.ref C) "__class__" = some (some (.builtin "object.__class__"))
  spG : specialIn K (.builtin "object.__class__") "__get__" = some (some (.builtin "getset_descriptor.__get__"))
  tkG : takesIn K (.builtin "object.__class__") = some true
  mrO : mroIn K C (.type "object") = some true
  subVE : subIn K (.ref C) (.type "ValueError") = some true
structure BtTxt (K : Frag) (mg : Str → Option Value) (nm : Str) (C : Addr) : Prop extends ClTxt K C where
  gC : mg nm = some (.ref C)
  q : excIn K C bmVE "ValueError.__new__" = true
  kC : keepIn K (.ref C) = true
  ini : findIn K (.ref C) "__init__" = some (some (.builtin "ValueError.__init__"))
theorem ErTxt.cl {P : Program} {K : Frag} {mg : Str → Option Value} {nm : Str} {C fI : Addr} (T : ErTxt P K mg nm C fI) : ClTxt K C := by
  obtain ⟨nm', q', N', bs, bm, sn, sub, ab, col, dd, k0, k1, k2, k3, k5, hC, hbm⟩ := T.cls
  exact ⟨by unfold clsIn; rw [hC] <;> rfl, T.ga, T.gg, T.exC, T.cC, T.spG, T.tkG, T.mrO, T.subVE⟩
def BindIni (ar : Args) (x : Addr) (v : Value) : Prop := ∀ (q : Str) (p1 p2 p3 a1 a2 a3 a4 a5 q1 q2 q3 q4 : Pos) (dT : Addr) (doc pm : Value) (an : Option Addr) (cda cc : Addr) (ct : Value), ∃ k, bindArgs (ksFn "__init__" q (iA p1 p2 p3) (iB a1 a2 a3 a4 a5 q1 q2 q3 q4) iS (.ref dT) .none doc pm an (.ref cda) ct cc) ar = seqItems? (.ref dT) >>= k ∧ k (some #[.none]) = pure ([("self", .ref x), ("value", v)] : List (Str × Value))
theorem bind_pos (x : Addr) (v : Value) : BindIni ⟨[.ref x, v], []⟩ x v := fun q p1 p2 p3 a1 a2 a3 a4 a5 q1 q2 q3 q4 dT doc pm an cda cc ct => ⟨_, rfl, by first | rfl | with_unfolding_all rfl | kernel_rfl⟩
theorem bind_none (x : Addr) : BindIni ⟨[.ref x], []⟩ x .none := fun q p1 p2 p3 a1 a2 a3 a4 a5 q1 q2 q3 q4 dT doc pm an cda cc ct => ⟨_, rfl, by first | rfl | with_unfolding_all rfl | kernel_rfl⟩
theorem bind_kw (x : Addr) (v : Value) : BindIni ⟨[.ref x], [("value", v)]⟩ x v := fun q p1 p2 p3 a1 a2 a3 a4 a5 q1 q2 q3 q4 dT doc pm an cda cc ct => ⟨_, rfl, by first | rfl | with_unfolding_all rfl | kernel_rfl⟩
structure InitEnd (h h' : Heap) (x C dx t1 : Addr) (v : Value) : Prop where
  keep : ∀ b o, b ≠ x → h.get? b = some o → h'.get? b = some o
  obj : h'.get? x = some { cls := .ref C, dict := some dx, data := .fields #[.ref t1, .none, .none, .none, .bool false, .none] }
  dbig : h.objs.size ≤ dx
  dne : dx ≠ x
  ns : h'.Ns1 dx (fun y => if y = "value" then some v else none)
section
variable {prog : Program} {w : World} {A : Around} {E : Value → Shared → Prop} {R : Result → Shared → Prop} {s : Shared} {K : Frag} {mg mb : Str → Option Value} {nm : Str} {C fI : Addr}
theorem er_init (T : ErTxt prog K mg nm C fI) {hp : Heap} {x t0 : Addr} {v : Value} (X : K.In hp) (hg : hp.Ns mainGlobals mg) (hb : hp.Ns builtinsNs mb) (hmb : mb "super" = some (.type "super")) (hlim : hp.NoLimit) (kp : ∀ b o, hp.get? b = some o → s.heap.get? b = some o) (hsz : hp.objs.size ≤ s.heap.objs.size) (hx : s.heap.get? x = some (excO C t0)) (hxn : hp.get? x = none) (hroom : A.depth < recursionLimit)
    {ar : Args} (hbd : BindIni ar x v) (hq : ∀ h' tk dx t1, InitEnd hp h' x C dx t1 v → R (.ok (.ret .none)) { s with heap := h', toks := tk }) :
    codeAny (model prog w) A (.call (.ref fI) ar) R s := by
  obtain ⟨oc, od, q, dT, doc, pm, an, cda, cc, ct, osl, p1, p2, p3, a1, a2, a3, a4, a5, q1, q2, q3, q4, ho, hcd, ⟨ccl, cdd, vs, ccs, file, tf, hcda, hvs, hfile⟩, ⟨cl, cld, csl, hcell⟩, hev, hsw, ⟨oT, nT, hT, oTd⟩⟩ := T.fn
  obtain ⟨nm', q', N', bs, bm, sn, sub, ab, col, dd, k0, k1, k2, k3, k5, hC, hbm⟩ := T.cls
  have hcl : clsIn K C = some { name := nm', bases := bs, mro := .ref C :: bm, ns := N', qualname := q', hasDict := true, slotNames := sn, subclasses := sub, abstract := ab, collection := col, hasDel := false } := by unfold clsIn; rw [hC] <;> rfl
  have Xs : K.In s.heap := X.keeps kp
  refine ks_codeAny_call_defAt (binds := [("self", .ref x), ("value", v)]) hroom (Xs _ _ ho) rfl (hlim.keeps kp) (codeRec_of Xs hcd) rfl (L2.BindsTo.of_looks fun M => ?_) ?_ ?_ (fun h₁ hns k₁ => ?_)
  · obtain ⟨k, e1, e2⟩ := hbd q p1 p2 p3 a1 a2 a3 a4 a5 q1 q2 q3 q4 dT doc pm an cda cc ct
    rw [e1]
    exact L2.looks_items Xs hT oTd (.of_pure e2)
  · show ∀ y ∈ iS.names, y.2 ≠ .cell
    decide
  · intro y hy
    simp only [List.mem_cons, List.not_mem_nil, or_false] at hy
    rcases hy with rfl | rfl <;> rfl
  obtain ⟨env, henv⟩ : ∃ env, env = ksEnv q iS s.heap.objs.size fI (.ref cda) cc := ⟨_, rfl⟩
  have hxL : x ≠ s.heap.objs.size := Nat.ne_of_lt (Heap.lt_size hx)
  have Fr1 : Fr hp s.heap.objs.size h₁ (fun y => List.lookup y ([("self", .ref x), ("value", v)] : List (Str × Value)).reverse) := ⟨hns, fun b o e => k₁ b o (kp b o e), hsz⟩
  have Nw1 : News hp s.heap.objs.size h₁ [(x, excO C t0)] := fun p hp' => by
    rw [List.mem_singleton.mp hp']
    exact ⟨k₁ _ _ hx, hxL, hxn⟩
  have X1 : K.In h₁ := Xs.keeps k₁
  have I1 : InstAt h₁ x (excO C t0) C none := ⟨k₁ _ _ hx, rfl, rfl, trivial⟩
  show wpAt _ _ (.func _ (ksEnv q iS s.heap.objs.size fI (.ref cda) cc)) (execs (iB a1 a2 a3 a4 a5 q1 q2 q3 q4) (ksEnv q iS s.heap.objs.size fI (.ref cda) cc)) _ _ _
  unfold iB
  obtain ⟨pl, hev⟩ := hev q s.heap.objs.size fI (.ref cda)
  refine ks_wpAt_execs_cons (ks_wpAt_Expr_any (ks_wpAt_MethodCall (pl := pl) ?_ hev) rfl (hsw _ _ _ _))
  refine ks_wpAt_super_base (env := ksEnv q iS s.heap.objs.size fI (.ref cda) cc) rfl rfl (by decide) rfl (X1 _ _ ho) rfl rfl rfl (X1 _ _ hcda) rfl hvs hfile T.top ?_
  refine ks_loadName_global rfl rfl (loadGlobal_builtin (env := ksEnv q iS s.heap.objs.size fI (.ref cda) cc) (hg.keeps Fr1.keep) T.noSup (hb.keeps Fr1.keep) hmb ⟨rfl, ?_⟩)
  refine wpAny_loadName_free rfl rfl rfl ⟨_, X1 _ _ hcell, rfl⟩ ?_
  refine wpAny_loadName_local rfl rfl hns (v := .ref x) rfl ?_
  have hCo := X1 _ _ hC
  refine ks_wpAny_isType_cls hCo rfl ⟨rfl, ?_⟩
  refine ks_wpAny_call_super hCo rfl (k₁ _ _ hx) rfl (fun c e => by cases e) (looks_mroIn X1 T.subC) (fun h2 e2 k2 => ?_)
  have keep2 : ∀ b o, h₁.get? b = some o → h2.get? b = some o := k2
  have soL : h₁.objs.size ≠ s.heap.objs.size := Nat.ne_of_gt hns.lt
  have ltm : ∀ b o, hp.get? b = some o → b ≠ h₁.objs.size := fun b o e => Nat.ne_of_lt (Heap.lt_size (Fr1.keep b o e))
  have Fr2 : Fr hp s.heap.objs.size h2 (fun y => List.lookup y ([("self", .ref x), ("value", v)] : List (Str × Value)).reverse) := ⟨hns.keeps k2, fun b o e => k2 b o (Fr1.keep b o e), hsz⟩
  have Nw2 : News hp s.heap.objs.size h2 [(h₁.objs.size, ks_superObj C x C), (x, excO C t0)] := fun p hp' => by
    rcases List.mem_cons.mp hp' with rfl | hp'
    · refine ⟨e2, soL, ?_⟩
      cases z : hp.get? h₁.objs.size with
      | none => rfl
      | some o => exact absurd rfl (ltm _ _ z)
    · rw [List.mem_singleton.mp hp']
      exact ⟨k2 _ _ (k₁ _ _ hx), hxL, hxn⟩
  have I2 : InstAt h2 x (excO C t0) C none := ⟨k2 _ _ (k₁ _ _ hx), rfl, rfl, trivial⟩
  refine kxs_method (so := h₁.objs.size) (D := C) kxs_ValueError Fr2 X Nw2 List.mem_cons_self I2 T.noOp T.sup T.subVE (by decide) (fun u h3 F3 N3 lt3 => ?_)
  refine kxs_callWith0 N3 List.mem_cons_self ?_
  have xu : x ≠ u := Nat.ne_of_lt (lt3 (x, excO C t0) (List.mem_cons_of_mem _ List.mem_cons_self))
  have xs : h₁.objs.size ≠ x := Nat.ne_of_gt (Heap.lt_size (k₁ _ _ hx))
  refine kxs_call F3 X N3 F.excBase_ValueError T.ini List.mem_cons_self (t := t0) (dv := none) (c2 := .none) (UpdF.tail (fun z => xu z.symm) (UpdF.tail xs (UpdF.head (fun _ h => nomatch h)))) (rest := []) (by decide) (fun t' h4 F4 N4 lt4 => ?_)
  have hx4 := (N4 (x, excObj C t' none .none) (List.mem_cons_of_mem _ (List.mem_cons_of_mem _ (List.mem_cons_of_mem _ List.mem_cons_self)))).1
  have X4 : K.In h4 := X.keeps F4.keep
  show wpAt _ _ _ (execs [_] _) _ _ _
  refine wpAt_of_wpAny (wpAny_execs_cons (plainObj_wpAny_Assign_Attribute ?_))
  refine wpAny_Name (wpAny_loadName_local rfl rfl F4.ns (v := v) rfl (wpAny_Name (wpAny_loadName_local rfl rfl F4.ns (v := .ref x) rfl ?_) (by decide))) (by decide)
  refine set_plain X4 (ox := excO C t') (od := none) ⟨hx4, rfl, rfl, trivial⟩ T.sa ?_
  refine exc_osa X4 hx4 hcl (show refsVE (.ref C :: bm) = true from hbm) rfl T.noN (fun h5 tk5 dx k5 dn dne hx5 hn5 => ?_)
  show wpAny _ _ (execs [] _) _ _ _
  have big : hp.objs.size ≤ h4.objs.size := Nat.le_of_lt (Nat.lt_of_le_of_lt hsz F4.ns.lt)
  exact wpAny_execs_nil (hq h5 tk5 dx t' ⟨fun b o hb e => k5 b o hb (F4.keep b o e), hx5, Nat.le_trans big dn, dne, hn5⟩)
theorem one_size (v : Value) : [v].length ≤ sizeLine := by
  rw [sizeLine_eq]
  exact (by decide : 1 ≤ 16777216)
structure OwnMade (h h' : Heap) (e C d : Addr) (v : Value) : Prop where
  keep : ∀ b o, h.get? b = some o → h'.get? b = some o
  new : h.objs.size ≤ e
  obj : ∃ oe vs, h'.get? e = some oe ∧ oe.cls = .ref C ∧ oe.dict = some d ∧ oe.data = .fields vs ∧ vs[1]? = some .none
  dbig : h.objs.size ≤ d
  dne : d ≠ e
  ns : h'.Ns1 d (fun y => if y = "value" then some v else none)
theorem er_made (T : ErTxt prog K mg nm C fI) {v : Value} (X : K.In s.heap) (hg : s.heap.Ns mainGlobals mg) (hb : s.heap.Ns builtinsNs mb) (hmb : mb "super" = some (.type "super")) (hlim : s.heap.NoLimit) (hroom : A.depth + 1 < recursionLimit)
    (hq : ∀ h' tk e d, OwnMade s.heap h' e C d v → R (.ok (.ret (.ref e))) { s with heap := h', toks := tk }) :
    codeAny (model prog w) A (.call (.ref C) ⟨[v], []⟩) R s := by
  obtain ⟨nm', q, N, bs, bm, sn, sub, ab, col, dd, k0, k1, k2, k3, k5, hC, hbm⟩ := T.cls
  obtain ⟨hp, g, dr, tk, os⟩ := s
  have k : ∀ b o, hp.get? b = some o → ((hp.push (kdv_tup [v])).push (excO C hp.objs.size)).get? b = some o := fun b o e => Heap.get?_push_of_some _ (Heap.get?_push_of_some _ e)
  have hget : ((hp.push (kdv_tup [v])).push (excO C hp.objs.size)).get? (hp.objs.size + 1) = some (excO C hp.objs.size) := by heap_get
  have hne : hp.get? (hp.objs.size + 1) = none := by
    cases e : hp.get? (hp.objs.size + 1) with
    | none => rfl
    | some o => exact absurd (Nat.lt_of_succ_lt (Heap.lt_size e)) (Nat.lt_irrefl _)
  refine call_own F.excBase_ValueError (fun X => refsVE_contains X bm hbm) (X _ _ hC) (looks_findIn X T.iC) (fun self => bind_fn X self T.tC) (one_size v) ?_
  refine er_init (s := ⟨(hp.push (kdv_tup [v])).push (excO C hp.objs.size), g, dr, tk, os⟩) (hp := hp) T X hg hb hmb hlim k (by rw [Heap.size_push, Heap.size_push]; omega) hget hne ?_ (bind_pos _ _) fun h' tk' dx t1 ⟨k', hx, dn, dne, hns⟩ => ?_
  · show A.depth + 1 < recursionLimit
    exact hroom
  · have old : ∀ b o, hp.get? b = some o → h'.get? b = some o := fun b o e => k' b o (Nat.ne_of_lt (Nat.lt_succ_of_lt (Heap.lt_size e))) e
    exact ⟨rfl, hq h' tk' (hp.objs.size + 1) dx ⟨old, Nat.le_succ _, ⟨_, _, hx, rfl, rfl, rfl, rfl⟩, dn, dne, hns⟩⟩
theorem er_made0 (T : ErTxt prog K mg nm C fI) (X : K.In s.heap) (hg : s.heap.Ns mainGlobals mg) (hb : s.heap.Ns builtinsNs mb) (hmb : mb "super" = some (.type "super")) (hlim : s.heap.NoLimit) (hroom : A.depth + 1 < recursionLimit)
    (hq : ∀ h' tk e d, OwnMade s.heap h' e C d .none → R (.ok (.ret (.ref e))) { s with heap := h', toks := tk }) :
    codeAny (model prog w) A (.call (.ref C) ⟨[], []⟩) R s := by
  obtain ⟨nm', q, N, bs, bm, sn, sub, ab, col, dd, k0, k1, k2, k3, k5, hC, hbm⟩ := T.cls
  obtain ⟨hp, g, dr, tk, os⟩ := s
  have k : ∀ b o, hp.get? b = some o → ((hp.push (kdv_tup [])).push (excO C hp.objs.size)).get? b = some o := fun b o e => Heap.get?_push_of_some _ (Heap.get?_push_of_some _ e)
  have hget : ((hp.push (kdv_tup [])).push (excO C hp.objs.size)).get? (hp.objs.size + 1) = some (excO C hp.objs.size) := by heap_get
  have hne : hp.get? (hp.objs.size + 1) = none := by
    cases e : hp.get? (hp.objs.size + 1) with
    | none => rfl
    | some o => exact absurd (Nat.lt_of_succ_lt (Heap.lt_size e)) (Nat.lt_irrefl _)
  refine call_own F.excBase_ValueError (fun X => refsVE_contains X bm hbm) (X _ _ hC) (looks_findIn X T.iC) (fun self => bind_fn X self T.tC) (Nat.zero_le _) ?_
  refine er_init (s := ⟨(hp.push (kdv_tup [])).push (excO C hp.objs.size), g, dr, tk, os⟩) (hp := hp) T X hg hb hmb hlim k (by rw [Heap.size_push, Heap.size_push]; omega) hget hne ?_ (bind_none _) fun h' tk' dx t1 ⟨k', hx, dn, dne, hns⟩ => ?_
  · show A.depth + 1 < recursionLimit
    exact hroom
  · have old : ∀ b o, hp.get? b = some o → h'.get? b = some o := fun b o e => k' b o (Nat.ne_of_lt (Nat.lt_succ_of_lt (Heap.lt_size e))) e
    exact ⟨rfl, hq h' tk' (hp.objs.size + 1) dx ⟨old, Nat.le_succ _, ⟨_, _, hx, rfl, rfl, rfl, rfl⟩, dn, dne, hns⟩⟩
theorem er_madeK (T : ErTxt prog K mg nm C fI) {v : Value} (X : K.In s.heap) (hg : s.heap.Ns mainGlobals mg) (hb : s.heap.Ns builtinsNs mb) (hmb : mb "super" = some (.type "super")) (hlim : s.heap.NoLimit) (hroom : A.depth + 1 < recursionLimit)
    (hq : ∀ h' tk e d, OwnMade s.heap h' e C d v → R (.ok (.ret (.ref e))) { s with heap := h', toks := tk }) :
    codeAny (model prog w) A (.call (.ref C) ⟨[], [("value", v)]⟩) R s := by
  obtain ⟨nm', q, N, bs, bm, sn, sub, ab, col, dd, k0, k1, k2, k3, k5, hC, hbm⟩ := T.cls
  obtain ⟨hp, g, dr, tk, os⟩ := s
  have k : ∀ b o, hp.get? b = some o → ((hp.push (kdv_tup [])).push (excO C hp.objs.size)).get? b = some o := fun b o e => Heap.get?_push_of_some _ (Heap.get?_push_of_some _ e)
  have hget : ((hp.push (kdv_tup [])).push (excO C hp.objs.size)).get? (hp.objs.size + 1) = some (excO C hp.objs.size) := by heap_get
  have hne : hp.get? (hp.objs.size + 1) = none := by
    cases e : hp.get? (hp.objs.size + 1) with
    | none => rfl
    | some o => exact absurd (Nat.lt_of_succ_lt (Heap.lt_size e)) (Nat.lt_irrefl _)
  refine call_ownK F.excBase_ValueError (fun X => refsVE_contains X bm hbm) (X _ _ hC) (looks_findIn X T.iC) (fun self => bind_fn X self T.tC) ?_
  refine er_init (s := ⟨(hp.push (kdv_tup [])).push (excO C hp.objs.size), g, dr, tk, os⟩) (hp := hp) T X hg hb hmb hlim k (by rw [Heap.size_push, Heap.size_push]; omega) hget hne ?_ (bind_kw _ _) fun h' tk' dx t1 ⟨k', hx, dn, dne, hns⟩ => ?_
  · show A.depth + 1 < recursionLimit
    exact hroom
  · have old : ∀ b o, hp.get? b = some o → h'.get? b = some o := fun b o e => k' b o (Nat.ne_of_lt (Nat.lt_succ_of_lt (Heap.lt_size e))) e
    exact ⟨rfl, hq h' tk' (hp.objs.size + 1) dx ⟨old, Nat.le_succ _, ⟨_, _, hx, rfl, rfl, rfl, rfl⟩, dn, dne, hns⟩⟩
end
end ErX
end PySem
namespace TI
open PySem PySem.Spec PyProof.Rows L2
theorem relO_er {v : V} {v' : Value} (r : RelV v v') (f : Str) : RelO (List.lookup f [(("value" : Str), v)]) (if f = "value" then some v' else none) := by
  by_cases hw : f = "value"
  · subst hw
    rw [if_pos rfl]
    have q : List.lookup ("value" : Str) [(("value" : Str), v)] = some v := by simp [List.lookup]
    rw [q]
    exact r
  · rw [if_neg hw]
    have qw : (f == ("value" : Str)) = false := by simpa using hw
    have q2 : List.lookup f [(("value" : Str), v)] = none := by simp [List.lookup, qw]
    rw [q2]
    trivial
section
variable {X : Cx} {C fI : Addr} {nm : Str}
def tMkEr (C : Addr) (ta : TA) : L2.St → Hp → XK → Prop := fun σ H Q => ta σ H fun vs H1 => ∃ v, vs = [v] ∧ ∀ d, H1 d = none → Q (.ref C) (some d) (upd H1 d (.xd [(("value" : Str), v)]))
theorem pmk_er {a : Expr} {ta : TA} {p pos : Pos} {k : Nat} (T : PySem.ErX.ErTxt X.prog X.K X.mg nm C fI) (hr : Room k X.A) (ha : PA X [a] ta) (hg : Gl X nm) (hd : (nm == ("__debug__" : Str)) = false)
    (he : starEach (a :: []) X.env = (false, eval a X.env) :: starEach [] X.env) (hpl : (backTo pos (starEach [] X.env)).any (·.1) = false) :
    PMk X (.Call (.Name nm p) [a] [] pos) (tMkEr C ta) := by
  intro pins s σ H Q I h
  refine wpAny_Call_Name_kw (ld_glob I hg T.gC ?_ hd)
  refine PySem.W.callWith_K (h₀ := X.base) I.ok.mod.kin T.kC (thn (ha.run pos pins s σ H _ I h) fun us s1 hh => ?_) he hpl
  obtain ⟨vs, H1, I1, r1, v, ev, q1⟩ := hh
  subst ev
  refine ⟨I1.kIn, ?_⟩
  cases r1 with
  | cons rv rn =>
    rename_i v' us'
    cases rn
    show wpAny _ _ (call (.ref C) [v']) _ _ _
    have hlim := I1.nolimit
    have hgl := I1.ok.mod.glob.keeps I1.bk
    obtain ⟨mb, hb1, hb2⟩ := I1.ok.mod.blt
    have hbl := hb1.keeps I1.bk
    obtain ⟨hp, g, dr, tk, os⟩ := s1
    refine wpAny_call (PySem.ErX.er_made T I1.kIn hgl hbl ((hb2 "super" (by decide)).trans (by rfl)) hlim (by have := hr.dp; omega) fun h' tk' e d M => ?_)
    show MkP X pins σ Q (.ref e) ⟨h', g, dr, tk', os⟩
    obtain ⟨oe, fv, hoe, hc, hd, hdat, h1⟩ := M.obj
    have hns := M.ns
    obtain ⟨G', g1, g2⟩ := restrict h' fun b => decide (b ≠ e)
    have gk : ∀ b, b ≠ e → G'.get? b = h'.get? b := fun b hb => g1 b (decide_eq_true hb)
    have ge : G'.get? e = none := g2 e (by simp)
    have old : ∀ b o, hp.get? b = some o → G'.get? b = some o := fun b o q => (gk b (Nat.ne_of_lt (Nat.lt_of_lt_of_le (Heap.lt_size q) M.new))).trans (M.keep b o q)
    have ob : ObjOk X.prog X.w (upd H1 d (.xd [(("value" : Str), v)])) G' d (.xd [(("value" : Str), v)]) :=
      ⟨_, hns.at (fun o q => (gk d M.dne).trans q), fun f => relO_er rv f⟩
    have J : Inv X pins σ (upd H1 d (.xd [(("value" : Str), v)])) ⟨G', g, dr, tk', os⟩ := I1.laid (t' := tk') old M.dbig ob
    refine ⟨e, oe, fv, ⟨G', g, dr, tk', os⟩, _, .ref C, some d, rfl, J, fun b o q => ?_, ge, hoe, ⟨hc, hd⟩, hdat, h1, ?_, rfl, I1.bare, raises_own T.exC T.tyC, q1 d (I1.hok.fresh M.dbig)⟩
    · by_cases hb : b = e
      · have q' : G'.get? b = some o := q
        rw [hb, ge] at q'; cases q'
      · exact (gk b hb).symm.trans q
    · rw [upd_ne (Ne.symm M.dne)]
      exact I1.hok.fresh M.new
theorem ps_raiseEr {a : Expr} {ta : TA} {W : WX} {p pos pos2 : Pos} {k : Nat} (hc : X.calm = true) (T : PySem.ErX.ErTxt X.prog X.K X.mg nm C fI) (hr : Room k X.A) (tk : Takes X W) (ha : PA X [a] ta) (hg : Gl X nm) (hd : (nm == ("__debug__" : Str)) = false)
    (he : starEach (a :: []) X.env = (false, eval a X.env) :: starEach [] X.env) (hpl : (backTo pos (starEach [] X.env)).any (·.1) = false) :
    PS X (.Raise (some (.Call (.Name nm p) [a] [] pos)) none pos2) (fun _ σ H => tMkEr C ta σ H fun cls d H' => W cls d σ H') := ps_raise hc tk (pmk_er T hr ha hg hd he hpl)
theorem er_at {pins : List (Addr × Obj)} {σ : L2.St} {H : Hp} {s : Shared} {a dx : Addr} {u : V} (I : Inv X pins σ H s) (ha : H a = some (ErO C dx a)) (hd : H dx = some (.xd [(("value" : Str), u)])) : ∃ (oe od : Obj) (w : Value), PySem.W.InstAt s.heap a oe C (some od) ∧ RelV u w ∧ PySem.W.lookIn "value" od = some (some w) := by
  obtain ⟨⟨oe, vs, e1, e2, e3⟩, _⟩ := (show ObjOk X.prog X.w H s.heap a (ErO C dx a) from I.hok a _ ha)
  obtain ⟨mA, hns, hr⟩ := (show ObjOk X.prog X.w H s.heap dx (.xd [(("value" : Str), u)]) from I.hok dx _ hd)
  obtain ⟨od, ho, hl⟩ := lookIn_ns hns
  have l : List.lookup ("value" : Str) [(("value" : Str), u)] = some u := by simp [List.lookup]
  obtain ⟨w, hw, rw'⟩ := RelO.some_of (v := u) (o := mA "value") (by rw [← l]; exact hr "value")
  exact ⟨oe, od, w, ⟨e1, e2.1, by unfold PySem.W.notCls; rw [e3] <;> rfl, by rw [e2.2]; exact ho⟩, rw', by rw [hl, hw]⟩
theorem isx_cl (T : PySem.ErX.ClTxt X.K C) {pins : List (Addr × Obj)} {σ : L2.St} {H : Hp} {s : Shared} {a : Addr} {oe : Obj} {od : Option Obj} {c : Value} {cv : V} {us : List Value} {Q : VK} {b : Bool} (I : Inv X pins σ H s) (J : PySem.W.InstAt s.heap a oe C od)
    (e : PySem.W.kitOne X.K (.ref C) c = some b) (rc : ∀ u, RelV cv u → u = c) (r : Vals [.ref a, cv] us) (q : Q (.bl b) H) : wpAny (model X.prog X.w) X.A (call (.builtin "isinstance") us) (EP X pins σ Q) X.xe s := by
  cases r with
  | cons rx rr =>
    cases rr with
    | cons rt rr =>
      cases rr
      cases rx
      rw [rc _ rt]
      exact PySem.W.kia_one (PySem.W.kitx_exc T.cls T.ga T.gg T.exC T.cC T.spG T.tkG T.mrO) I.kIn J e (fun z => nomatch z) fun tk => ⟨.bl b, H, I.kept (t' := tk) fun _ _ z => z, rfl, q⟩
theorem bare_at {pins : List (Addr × Obj)} {σ : L2.St} {H : Hp} {s : Shared} {a : Addr} (I : Inv X pins σ H s) (ha : H a = some (Er0O C a)) : ∃ oe : Obj, PySem.W.InstAt s.heap a oe C none := by
  obtain ⟨⟨oe, vs, e1, e2, e3⟩, _⟩ := (show ObjOk X.prog X.w H s.heap a (Er0O C a) from I.hok a _ ha)
  exact ⟨oe, e1, e2.1, by unfold PySem.W.notCls; rw [e3] <;> rfl, by rw [e2.2]; trivial⟩
theorem held_at {pins : List (Addr × Obj)} {σ : L2.St} {F H : Hp} {s : Shared} {io : Nat → Addr} {n : Nat} {a : Addr} {x : D ⊕ Nat} (I : Inv X pins σ H s) (l : Le F H)
    (h : (∃ (dx : Addr) (u : V), F a = some (ErO C dx a) ∧ F dx = some (.xd [(("value" : Str), u)]) ∧ SOk X.K F io n u x) ∨ (bareIn X.K C ∧ x = .inl .none ∧ F a = some (Er0O C a))) : ∃ (oe : Obj) (od : Option Obj), PySem.W.InstAt s.heap a oe C od := by
  rcases h with ⟨dx, u, h1, h2, _⟩ | ⟨_, _, h1⟩
  · obtain ⟨oe, od, w, J, _⟩ := er_at I (l _ _ h1) (l _ _ h2)
    exact ⟨oe, some od, J⟩
  · obtain ⟨oe, J⟩ := bare_at I (l _ _ h1)
    exact ⟨oe, none, J⟩
theorem fld_er (T : PySem.ErX.ErTxt X.prog X.K X.mg nm C fI) {pins : List (Addr × Obj)} {σ : L2.St} {H : Hp} {s : Shared} {a dx : Addr} {u : V} {Q : VK} (I : Inv X pins σ H s) (ha : H a = some (ErO C dx a)) (hd : H dx = some (.xd [(("value" : Str), u)]))
    (q : Q u H) (expr : Bool) : wpAny (model X.prog X.w) X.A (getAttr (.ref a) "value" expr) (EP X pins σ Q) X.xe s := by
  obtain ⟨oe, od, w, J, ru, hl⟩ := er_at I ha hd
  exact HandSPX.exc_get I.kIn J T.ga T.gg T.exC (PySem.W.findObj_own T.hdC T.noN rfl hl) (handed_of ru) ⟨u, H, I.tok _, ru, q⟩
end
end TI
set_option maxHeartbeats 200000
set_option maxHeartbeats 4000000
namespace TI
open PySem PySem.Spec PyProof.Rows L2
section
variable {X : Cx} {pins : List (Addr × Obj)} {σ : L2.St} {H : Hp} {s sI : Shared}
theorem Inv_track {a : Addr} {o : HO} (hex : X.ex = []) (J : L2.Inv X pins σ H sI) (J4 : L2.Inv X pins σ H s) (ha : sI.heap.get? a = none) (na : H a = none) (new : ObjOk X.prog X.w (upd H a o) s.heap a o) : L2.Inv X pins σ (upd H a o) s := by
  have n0 : X.s_0.heap.get? a = none := by
    cases e : X.s_0.heap.get? a with
    | none => rfl
    | some u =>
      obtain ⟨o', q⟩ := J.base.there a u e (by rw [hex]; exact fun z => nomatch z)
      rw [ha] at q; cases q
  have ne0 : ∀ b o, X.s_0.heap.get? b = some o → b ≠ a := fun b o e z => by rw [z, n0] at e; cases e
  have neI : ∀ b o, sI.heap.get? b = some o → b ≠ a := fun b o e z => by rw [z, ha] at e; cases e
  refine ⟨J4.ok, J4.os, J4.bare, ⟨fun b o e n hb hx => J4.base.keep b o e n hb hx, fun b o e n hb hx => J4.base.slot b o e n hb hx, fun b o e n hx => ?_, fun b o e hx => J4.base.there b o e hx, fun b xs e => ?_, fun b u xs e => ?_, fun b ps e => ?_⟩, J4.loc, J4.cell, ?_, fun x c e => ?_, fun p hp => ?_, HOk.laidN J4.hok (fun _ _ e => e) na new, J4.len⟩
  · rw [upd_ne (ne0 b o e)]; exact J4.base.free b o e n hx
  · have q := J4.base.tups b xs e
    rw [upd_ne (ne_of_none q na)]; exact q
  · have q := J4.base.frzs b u xs e
    rw [upd_ne (ne_of_none q na)]; exact q
  · obtain ⟨more, q⟩ := J4.base.tbls b ps e
    exact ⟨more, by rw [upd_ne (ne_of_none q na)]; exact q⟩
  · obtain ⟨m, ⟨oL, _, _, hoL, _⟩, _⟩ := J.loc
    rw [upd_ne (neI _ _ hoL)]; exact J4.free
  · obtain ⟨v, o', ho, _⟩ := J.cell x c e
    rw [upd_ne (neI _ _ ho)]; exact J4.freeC x c e
  · obtain ⟨e, n, ne, nf, d⟩ := J4.pin p hp
    obtain ⟨e1, _⟩ := J.pin p hp
    exact ⟨e, by rw [upd_ne (neI _ _ e1)]; exact n, ne, nf, d⟩
theorem Inv_suite0 (I : L2.Inv X pins σ H s) (a : Addr) : L2.Inv (X.suite a (X.pn ++ pins)) [] σ H s :=
  ⟨I.ok.suite _ _, I.os, I.bare, I.base, I.loc, I.cell, I.free, I.freeC, fun p hp => I.pin p (by rw [List.append_nil] at hp; exact hp), I.hok, I.len⟩
theorem Inv_unsuite0 {a : Addr} {pn' : List (Addr × Obj)} (I : L2.Inv (X.suite a (X.pn ++ pins)) pn' σ H s) (ok : X.Ok) : L2.Inv X pins σ H s :=
  ⟨ok, I.os, I.bare, I.base, I.loc, I.cell, I.free, I.freeC, fun p hp => I.pin p (List.mem_append_left _ hp), I.hok, I.len⟩
end
def wEr (K : PySem.W.Frag) (c : Value) (i j : Nat) (D : Ends) : WX := fun cls d σ H => PySem.W.exmOne K cls c = some true ∧ ∃ C dx, cls = .ref C ∧ d = some dx ∧ ∀ a, H a = none → D.nx ((σ.set j (some (.ref a))).set i none) (upd H a (ErO C dx a))
section
variable {X : Cx} {x n y : Str} {c : Value} {i j : Nat} {body : List Stmt} {np q q2 p3 pos pos' : Pos} {tb : WX → TS}
theorem ps_tryEr (hs : X.stack = X.env :: X.outer) (hf : X.env.frame = some X.env.locals) (hex : X.ex = []) (hN : X.N.Nodup) (hi : X.N[i]? = some n) (hln : X.env.kindOf n = some .local) (hj : X.N[j]? = some y) (hly : X.env.kindOf y = some .local) (hij : i ≠ j)
    (hc : Names X x c) (o1 : (n == ("__debug__" : Str)) = false) (o2 : (n == ("__classdict__" : Str)) = false) (hsw : swapsWith (.Name n q2) (some (.Name y q)) p3.line X.env = pure false)
    (hb : ∀ (W : WX) (pn : List (Addr × Obj)) (xe : Value → Shared → Prop), Takes (X.tr pn xe) W → PassesOwn (model X.prog X.w) X.A X.env xe → PSs (X.tr pn xe) body (tb W)) :
    PS X (.Try body [.ExceptHandler (some (.Name x np)) (some n) [.Assign [.Name y q] (.Name n q2) p3] pos'] [] [] pos) (fun D σ H => tb (wEr X.K c i j D) D σ H) := by
  refine ⟨fun pins s σ H D I h => ?_⟩
  have ok := I.ok
  have hfr : X.A.frames = some (X.env :: X.outer) := by rw [ok.frames, hs]
  have hloc : Loc X.env.scope n := .inl hln
  refine wpAny_Try_except ?_
  refine wpAny_mono ((hb (wEr X.K c i j D) (X.pn ++ pins) (fun e s₁ => wpAny (model X.prog X.w) X.A (noteFrame e X.env) (fun _ s₂ => wpAny (model X.prog X.w) X.A (setFlight e none) (fun _ s₃ =>
    wpAny (model X.prog X.w) X.A (handleBy e X.env [.ExceptHandler (some (.Name x np)) (some n) [.Assign [.Name y q] (.Name n q2) p3] pos']) (SP X pins D) X.xe s₃) X.xe s₂) X.xe s₁) (fun u s' xx => ?_) PassesOwn.looking).run [] s σ H D (I.toTry _) h) (fun f s1 hsp => ?_) (fun e s1 he => he)
  · -- the catch
    obtain ⟨a, B, sI, pins', σ', H', cls, d, rfl, J', nb, up, sky, na, os, ag, hb1, C, dx, rfl, rfl, hyes⟩ := xx
    have J : L2.Inv X pins σ' H' sI := J'.ofTry ok
    have sky' : Sky B (X.env :: X.outer) a (Zc (.ref C) (some dx)) X.env.locals s'.heap := by rw [← hs]; exact sky
    show wpAny (model X.prog X.w) X.A (noteFrame (.ref a) X.env) _ _ _
    refine Sky.land Zc.steady hfr hf sky' fun h3 fl3 up3 => ?_
    have J3 : L2.Inv X pins σ' H' { s' with heap := h3 } := J.landed nb fl3.1 (up.trans up3) os ag
    obtain ⟨oe3, vs3, he3, hz3, hd3⟩ := fl3.there
    have notFr : ∀ {h : Heap} {o : Obj} {vs : Array Value}, h.FunFrames B (X.env :: X.outer) → h.get? a = some o → o.data = .fields vs → a ∉ frs (X.env :: X.outer) := fun {h o vs} ff e dd hm => by
      obtain ⟨_, o', e', hnf⟩ := ff.mem hm
      rw [e] at e'; cases e'
      exact hnf _ dd
    have nfr := notFr fl3.2.2.1 he3 hd3
    have nI : sI.heap.get? a = none := by
      cases e : sI.heap.get? a with
      | none => rfl
      | some o =>
        have z := nb a o e (by rw [hs]; exact nfr)
        rw [fl3.2.1] at z; cases z
    have S3 := Inv_suite0 J3 a
    refine wpAny_handleBy_cons (codeAny_handlers_test ?_) (by intro q; cases q)
    have LT : PySem.W.Looks (model X.prog X.w) h3 (typeOf (.ref a)) (.ref C) := fun A Q E s k q => wpAny_typeOf_ref (k _ _ he3) (by rw [hz3.1]; exact q)
    have LM := PySem.W.exm_one (M := model X.prog X.w) (J3.kIn) LT hb1
    have test : ∀ {Q : Value → Shared → Prop} {E : Value → Shared → Prop}, Q c { s' with heap := h3 } → wpAny (model X.prog X.w) (X.A.mark (some (.ref a))) (eval (.Name x np) X.env) Q E { s' with heap := h3 } := fun {Q E} q => by
      obtain ⟨hg, hdbg, hm | ⟨hm, hv, hnn⟩⟩ := hc
      · exact ld_glob (X := X.suite a (X.pn ++ pins)) S3 hg hm q hdbg
      · exact ld_blt (X := X.suite a (X.pn ++ pins)) S3 hg hm hv q hnn hdbg
    refine test (LM.here ?_)
    refine codeAny_handlers_suite_as ?_
    refine HandSPX.lands_againZ fl3 fun h4 fl4 up4 => ?_
    have J4 : L2.Inv X pins σ' H' { s' with heap := h4 } := J.landed nb fl4.1 ((up.trans up3).trans up4) os ag
    obtain ⟨oe4, vs4, he4, hz4, hd4⟩ := fl4.there
    have J5 : L2.Inv X pins σ' (upd H' a (ErO C dx a)) { s' with heap := h4 } := Inv_track hex J J4 nI na ⟨⟨oe4, vs4, he4, hz4, hd4⟩, ⟨oe4, he4⟩, fun _ _ ⟨o, v, q, r⟩ k => ⟨o, v, k o q, r⟩⟩
    have S4 := Inv_suite0 J5 a
    refine store_ok (X := X.suite a (X.pn ++ pins)) (v := .ref a) S4 hN hi hloc rfl (fun s5 S5 => ?_) (.inr hln)
    have hlen : i < σ'.length := by
      have := J5.len
      have h2 := (List.getElem?_eq_some_iff.mp hi).1
      omega
    have stp : PSs (X.suite a (X.pn ++ pins)) [.Assign [.Name y q] (.Name n q2) p3] _ := pss_one (ps_set (X := X.suite a (X.pn ++ pins)) hN hj (.inl hly) (pe_var hi (.inl hln) o1 o2) hsw (.inr hly))
    refine wpAny_mono (stp.run [] s5 (σ'.set i (some (.ref a))) (upd H' a (ErO C dx a)) { nx := fun σ' H' => D.nx (σ'.set i none) H', rt := D.rt, bk := fun σ' H' => D.bk (σ'.set i none) H', ct := fun σ' H' => D.ct (σ'.set i none) H' } S5 ?_) (fun f s6 hsp => ?_) (fun _ _ z => False.elim z)
    · refine ⟨.ref a, by rw [List.getElem?_set_self hlen], ?_⟩
      show D.nx (((σ'.set i (some (.ref a))).set j (some (.ref a))).set i none) _
      rw [List.set_comm _ _ hij, List.set_set]
      exact hyes a na
    · have end_ : ∀ {σ6 : L2.St} {H6 : Hp} {Q : Shared → Prop}, L2.Inv (X.suite a (X.pn ++ pins)) [] σ6 H6 s6 → (∀ s7, L2.Inv X pins (σ6.set i none) H6 s7 → Q s7) →
          wpAny (model X.prog X.w) X.A (do bindName X.env n .none; unbindBehindTheSuite X.env n pos') (fun _ s7 => Q s7) X.xe s6 := fun {σ6 H6 Q} S6 hq => gone_ok (Inv_unsuite0 S6 ok) hN hi hln hq
      cases f with
      | next =>
        obtain ⟨σ6, H6, S6, q6⟩ := hsp
        exact end_ S6 fun s7 J7 => ⟨_, _, J7, q6⟩
      | brk =>
        obtain ⟨σ6, H6, S6, q6⟩ := hsp
        exact end_ S6 fun s7 J7 => ⟨_, _, J7, q6⟩
      | cont =>
        obtain ⟨σ6, H6, S6, q6⟩ := hsp
        exact end_ S6 fun s7 J7 => ⟨_, _, J7, q6⟩
      | ret u =>
        obtain ⟨v6, σ6, H6, S6, r6, q6⟩ := hsp
        exact end_ S6 fun s7 J7 => ⟨_, _, _, J7, r6, q6⟩
  · cases f with
    | next =>
      obtain ⟨σ', H', J', q⟩ := hsp
      exact wpAny_execs_nil ⟨σ', H', J'.ofTry ok, q⟩
    | brk =>
      obtain ⟨σ', H', J', q⟩ := hsp
      exact ⟨σ', H', J'.ofTry ok, q⟩
    | cont =>
      obtain ⟨σ', H', J', q⟩ := hsp
      exact ⟨σ', H', J'.ofTry ok, q⟩
    | ret u =>
      obtain ⟨v, σ', H', J', r, q⟩ := hsp
      exact ⟨v, σ', H', J'.ofTry ok, r, q⟩
end
end TI
set_option maxHeartbeats 200000
set_option maxHeartbeats 1000000
namespace TI
open PySem PySem.Spec PyProof.Rows L2
def tgIn : Tg → List Nat → Bool
  | .one i, vs => vs.contains i
  | .many is, vs => is.all fun i => vs.contains i
structure Sg where
  con : List (Str × D)
  fn : List (Str × Nat)
  kw : List (Nat × List Str × List Nat)
  bi : List Str
  er : List Str := []
  cl : List (Str × List (Str × Bool)) := []
  base : List Str := []
  eb : List Str := []
def visB (sc : Scope) (x : Str) : Bool := match sc.names.lookup x with
  | some .local => true
  | some .cell => true
  | some .free => true
  | _ => false
def locB (sc : Scope) (x : Str) : Bool := match sc.names.lookup x with
  | some .local => true
  | some .cell => true
  | _ => false
def gloB (sc : Scope) (x : Str) : Bool := match sc.names.lookup x with
  | some .globalImplicit => true
  | _ => false
def okN (x : Str) : Bool := !(x == ("__debug__" : Str)) && !(x == ("__classdict__" : Str)) && !(x == ("__name__" : Str))
def bltB (G : Sg) (sc : Scope) (x : Str) : Bool := gloB sc x && G.bi.contains x && okN x
def noneOp : CmpOp → Option Bool
  | .Is => some false
  | .IsNot => some true
  | _ => none
def dkeys : List (Option Expr) → Option (List Str)
  | [] => some []
  | some (.Constant (.str k) _ _) :: r => match dkeys r with
    | some l => some (k :: l)
    | none => none
  | _ => none
def parB (sc : Scope) (x y : Str) (px py : Pos) (a b : Expr) : Bool := (sc.kind == .function) && (sc.names.lookup x == some .local) && (sc.names.lookup y == some .local) && (py.line == px.line) && !(y == x) &&
  !(match a with | .Starred .. => true | _ => false) && !(match b with | .Starred .. => true | _ => false) && !([a, b].all (foldedForSure 8)) && !([a, b].all (constantsAlone 8))
def plainTest (e : Expr) : Prop := ∀ (env : Env) (whole : Sem Value), isTrue e env whole = (do let v ← whole; standAt e.pos; holding [v] (truthy v))
def plainStar (e : Expr) (es : List Expr) : Prop := ∀ env : Env, starEach (e :: es) env = (false, eval e env) :: starEach es env
inductive TrG : List Str → Scope → Expr → Tg → Type
  | one {N sc i x p} : N[i]? = some x → locB sc x = true → TrG N sc (.Name x p) (.one i)
  | nil {N sc k p} : TrG N sc (.Tuple [] k p) (.many [])
  | cons {N sc i x q es is k p} : N[i]? = some x → locB sc x = true → TrG N sc (.Tuple es k p) (.many is) → TrG N sc (.Tuple (.Name x q :: es) k p) (.many (i :: is))
mutual
inductive TrE (G : Sg) : List Str → Scope → Expr → Ex → Type
  | var {N sc i x p} : N[i]? = some x → visB sc x = true → okN x = true → TrE G N sc (.Name x p) (.var i)
  | con {N sc} {i : Nat} {x d p} : G.con[i]? = some (x, d) → gloB sc x = true → okN x = true → TrE G N sc (.Name x p) (.con d)
  | int {N sc i j p} : TrE G N sc (.Constant (.int i) j p) (.con (.int i))
  | bl {N sc i j p} : TrE G N sc (.Constant (.bool i) j p) (.con (.bool i))
  | non {N sc j p} : TrE G N sc (.Constant .none j p) (.con .none)
  | str {N sc i j p} : TrE G N sc (.Constant (.str i) j p) (.con (.str i))
  | bin {N sc a b a' b' bo o p} : bopOf bo = some o → TrE G N sc a a' → TrE G N sc b b' → TrE G N sc (.BinOp a bo b p) (.op o (.cons a' (.cons b' .nil)))
  | neg {N sc a a' p} : TrE G N sc a a' → TrE G N sc (.UnaryOp .USub a p) (.op .neg (.cons a' .nil))
  | not {N sc a a' p} : TrE G N sc a a' → TrE G N sc (.UnaryOp .Not a p) (.op .not (.cons a' .nil))
  | cmp {N sc a b a' b' bo o p} : cmpOf bo = some o → behindInMarks bo b = false → TrE G N sc a a' → TrE G N sc b b' → TrE G N sc (.Compare a [bo] [b] p) (.op o (.cons a' (.cons b' .nil)))
  | isc {N sc a a' bo c o j q p} : isOf bo c = some o → TrE G N sc a a' → TrE G N sc (.Compare a [bo] [.Constant c j q] p) (.op o (.cons a' .nil))
  | chain {N sc a b c a' b' c' bo o bo2 o2 p} : cmpOf bo = some o → cmpOf bo2 = some o2 → lastMarks [bo, bo2] [b, c] = false → TrE G N sc a a' → TrE G N sc b b' → TrE G N sc c c' → TrE G N sc (.Compare a [bo, bo2] [b, c] p) (.chain o o2 a' b' c')
  | one {N sc op a a' p} : TrE G N sc a a' → TrE G N sc (.BoolOp op [a] p) a'
  | and {N sc a b r a' r' p} : TrE G N sc a a' → TrE G N sc (.BoolOp .And (b :: r) p) r' → TrE G N sc (.BoolOp .And (a :: b :: r) p) (.and a' r')
  | or {N sc a b r a' r' p} : TrE G N sc a a' → TrE G N sc (.BoolOp .Or (b :: r) p) r' → TrE G N sc (.BoolOp .Or (a :: b :: r) p) (.or a' r')
  | ife {N sc c a b c' a' b' p} : TrT G N sc c c' → TrE G N sc a a' → TrE G N sc b b' → TrE G N sc (.IfExp c a b p) (.ife c' a' b')
  | idx {N sc a b a' b' p} : PlainIx b → TrE G N sc a a' → TrE G N sc b b' → TrE G N sc (.Subscript a b p) (.op .idx (.cons a' (.cons b' .nil)))
  | tup {N sc es es' k p} : TrL G N sc es es' → TrE G N sc (.Tuple es k p) (.tup es')
  | new {N sc e w} : TrN G N sc e w → TrE G N sc e (.new w)
  | mk {N sc e w} : TrN G N sc e w → TrE G N sc e (.mk w)
  | frz {N sc e e'} : TrE G N sc e e' → TrE G N sc e (.frz e')
  | call {N sc x f e es es' p pos} : G.fn.lookup x = some f → gloB sc x = true → okN x = true → TrL G N sc (e :: es) es' → TrE G N sc (.Call (.Name x p) (e :: es) [] pos) (.call f es')
  | kwcall {N sc x f ks ix kws es' p pos} : G.fn.lookup x = some f → (f, ks, ix) ∈ G.kw → gloB sc x = true → okN x = true → (∀ env pos, (backToKw pos (keywordEach kws env)).all (·.1.isSome) = true) → (∀ env pos, (backToKw pos (keywordEach kws env)).filterMap (·.1) = ks) →
      (∀ env pos, ((backTo pos (starEach [] env)).any (·.1) || (backToKw pos (keywordEach kws env)).any (·.1.isNone)) = false) → kws.length = ks.length → TrL G N sc (kws.map (·.value)) es' → TrE G N sc (.Call (.Name x p) [] kws pos) (.callk f ix es')
  | bcall {N sc x q bv o e es es' p pos} : bfnOf q = some (bv, o) → bootBuiltins x = some bv → bltB G sc x = true → TrL G N sc (e :: es) es' → TrE G N sc (.Call (.Name x p) (e :: es) [] pos) (.op o es')
  | isi {N sc T x e e' p p2 pos} : T ∈ tyNames → bootBuiltins x = some (.type T) → bltB G sc x = true → bltB G sc "isinstance" = true → plainStar e [.Name x p2] → TrE G N sc e e' →
      TrE G N sc (.Call (.Name "isinstance" p) [e, .Name x p2] [] pos) (.op (.isi T) (.cons e' .nil))
  | lenset {N sc a a' p p2 q pos} : bltB G sc "len" = true → bltB G sc "set" = true → plainStar a [] → TrE G N sc a a' → TrE G N sc (.Call (.Name "len" p) [.Call (.Name "set" p2) [a] [] q] [] pos) (.op .setlen (.cons a' .nil))
  | bitlen {N sc e e' ap pos} : (∀ env, attributeBase e "bit_length" env (eval e env) = eval e env) → (ap.endLine == pos.line) = true → TrE G N sc e e' → TrE G N sc (.Call (.Attribute e "bit_length" ap) [] [] pos) (.op .bitlen (.cons e' .nil))
  | isx {N sc x cs e e' p p2 pos} : (x, cs) ∈ G.cl → gloB sc x = true → okN x = true → bltB G sc "isinstance" = true → plainStar e [.Name x p2] → TrE G N sc e e' → TrE G N sc (.Call (.Name "isinstance" p) [e, .Name x p2] [] pos) (.isx x cs e')
  | fld {N sc cs e e' p} : (∀ nm, cs.contains nm = true → G.er.contains nm = true) → (∀ env, attributeBase e "value" env (eval e env) = eval e env) → TrE G N sc e e' → TrE G N sc (.Attribute e "value" p) (.fld cs e')
  | mke {N sc nm e e' p pos} : G.er.contains nm = true → gloB sc nm = true → okN nm = true → plainStar e [] → TrE G N sc e e' → TrE G N sc (.Call (.Name nm p) [e] [] pos) (.mkE nm e')
  | mke0 {N sc nm p pos} : G.er.contains nm = true → gloB sc nm = true → okN nm = true → TrE G N sc (.Call (.Name nm p) [] [] pos) (.mkE nm (.con .none))
  | mkeK {N sc nm e e' kp p pos} : G.er.contains nm = true → gloB sc nm = true → okN nm = true → TrE G N sc e e' → TrE G N sc (.Call (.Name nm p) [] [⟨some "value", e, kp⟩] pos) (.mkE nm e')
  | mkb {N sc nm p pos} : G.eb.contains nm = true → gloB sc nm = true → okN nm = true → TrE G N sc (.Call (.Name nm p) [] [] pos) (.mkB nm)
  | isv {N sc cs e e' p p2 pos} : (∀ nm, cs.contains nm = true → G.er.contains nm = true ∨ G.eb.contains nm = true) → bltB G sc "ValueError" = true → bltB G sc "isinstance" = true → plainStar e [.Name "ValueError" p2] → TrE G N sc e e' → TrE G N sc (.Call (.Name "isinstance" p) [e, .Name "ValueError" p2] [] pos) (.isv cs e')
  | pick {N sc es es' lp i i' p} : PlainIx i → TrL G N sc es es' → TrE G N sc i i' → TrE G N sc (.Subscript (.List es lp) i p) (.pick es' i')
  | isNe {N sc a a' bo neg j q p} : noneOp bo = some neg → TrE G N sc a a' → TrE G N sc (.Compare a [bo] [.Constant .none j q] p) (.isNe neg a')
  | tupv {N sc es es' k p} : TrL G N sc es es' → TrE G N sc (.Tuple es k p) (.tupv es')
  | idxv {N sc a a' i j q p} : PlainIx (.Constant (.int i) j q) → 0 ≤ i → TrE G N sc a a' → TrE G N sc (.Subscript a (.Constant (.int i) j q) p) (.idxv i.toNat a')
  | reprL {N sc es es' lp p pos} : bltB G sc "repr" = true → plainStar (.List es lp) [] → TrL G N sc es es' → TrE G N sc (.Call (.Name "repr" p) [.List es lp] [] pos) (.reprL es')
  | get2 {N sc o k x o' k' x' ap pos} : (∀ env, attributeBase o "get" env (eval o env) = eval o env) → (∀ env, ((backTo pos (starEach [k, x] env)).all (fun y => !y.1) && (backToKw pos (keywordEach [] env)).all (fun y => y.1.isSome) && decide (([k, x] : List Expr).length + ([] : List Keyword).length + (if ([] : List Keyword).isEmpty then 0 else 1) < 30)) = true) →
      (ap.endLine == pos.line) = true → (∀ env, backTo pos (starEach [k, x] env) = [(false, eval k env), (false, eval x env)]) → TrE G N sc o o' → TrE G N sc k k' → TrE G N sc x x' → TrE G N sc (.Call (.Attribute o "get" ap) [k, x] [] pos) (.get2 o' k' x')
  | popAt {N sc i x e e' q ap pos} : N[i]? = some x → visB sc x = true → okN x = true → plainStar e [] → (∀ env, attributeBase (.Name x q) "pop" env (eval (.Name x q) env) = eval (.Name x q) env) →
      (∀ env, ((backTo pos (starEach [e] env)).all (fun y => !y.1) && (backToKw pos (keywordEach [] env)).all (fun y => y.1.isSome) && decide (([e] : List Expr).length + ([] : List Keyword).length + (if ([] : List Keyword).isEmpty then 0 else 1) < 30)) = true) →
      (ap.endLine == pos.line) = true → TrE G N sc e e' → TrE G N sc (.Call (.Attribute (.Name x q) "pop" ap) [e] [] pos) (.popAt i e')
inductive TrT (G : Sg) : List Str → Scope → Expr → Ex → Type
  | val {N sc e e'} : plainTest e → TrE G N sc e e' → TrT G N sc e e'
  | cmp {N sc a b a' b' bo o p} : cmpOf bo = some o → behindInMarks bo b = false → TrE G N sc a a' → TrE G N sc b b' → TrT G N sc (.Compare a [bo] [b] p) (.op o (.cons a' (.cons b' .nil)))
  | isc {N sc a a' bo c o j q p} : isOf bo c = some o → TrE G N sc a a' → TrT G N sc (.Compare a [bo] [.Constant c j q] p) (.op o (.cons a' .nil))
  | isNe {N sc a a' bo neg j q p} : noneOp bo = some neg → TrE G N sc a a' → TrT G N sc (.Compare a [bo] [.Constant .none j q] p) (.isNe neg a')
  | chain {N sc a b c a' b' c' bo o bo2 o2 p} : cmpOf bo = some o → cmpOf bo2 = some o2 → lastMarks [bo, bo2] [b, c] = false → TrE G N sc a a' → TrE G N sc b b' → TrE G N sc c c' → TrT G N sc (.Compare a [bo, bo2] [b, c] p) (.chain o o2 a' b' c')
  | not {N sc a a' p} : TrT G N sc a a' → TrT G N sc (.UnaryOp .Not a p) (.op .not (.cons a' .nil))
  | ife {N sc c a b c' a' b' p} : TrT G N sc c c' → TrT G N sc a a' → TrT G N sc b b' → TrT G N sc (.IfExp c a b p) (.ife c' a' b')
  | bool {N sc e e'} : TrW G N sc e e' → TrT G N sc e e'
inductive TrW (G : Sg) : List Str → Scope → Expr → Ex → Type
  | and1 {N sc a a' p} : TrT G N sc a a' → TrW G N sc (.BoolOp .And [a] p) a'
  | or1 {N sc a a' p} : TrT G N sc a a' → TrW G N sc (.BoolOp .Or [a] p) a'
  | and {N sc a b r a' r' p} : TrT G N sc a a' → TrW G N sc (.BoolOp .And (b :: r) p) r' → TrW G N sc (.BoolOp .And (a :: b :: r) p) (.and a' r')
  | or {N sc a b r a' r' p} : TrT G N sc a a' → TrW G N sc (.BoolOp .Or (b :: r) p) r' → TrW G N sc (.BoolOp .Or (a :: b :: r) p) (.or a' r')
inductive TrL (G : Sg) : List Str → Scope → List Expr → Exs → Type
  | nil {N sc} : TrL G N sc [] .nil
  | cons {N sc e es e' es'} : plainStar e es → TrE G N sc e e' → TrL G N sc es es' → TrL G N sc (e :: es) (.cons e' es')
inductive TrN (G : Sg) : List Str → Scope → Expr → Nw → Type
  | lst {N sc es es' p} : TrL G N sc es es' → TrN G N sc (.List es p) (.lst es')
  | bin {N sc a b a' b' bo o p} : bopOf bo = some o → TrE G N sc a a' → TrE G N sc b b' → TrN G N sc (.BinOp a bo b p) (.op o (.cons a' (.cons b' .nil)))
  | bcall {N sc x q bv o e es es' p pos} : bfnOf q = some (bv, o) → bootBuiltins x = some bv → bltB G sc x = true → TrL G N sc (e :: es) es' → TrN G N sc (.Call (.Name x p) (e :: es) [] pos) (.op o es')
  | rep {N sc es es' p k k' p2} : TrL G N sc es es' → TrE G N sc k k' → TrN G N sc (.BinOp (.List es p) .Mult k p2) (.rep es' k')
  | dct {N sc keys ks values es' p} : dkeys keys = some ks → ks ≠ [] → keys.length = values.length → TrL G N sc values es' → TrN G N sc (.Dict keys values p) (.dct ks es')
  | dct0 {N sc p} : TrN G N sc (.Dict [] [] p) .dct0
  | rev {N sc e e' kk p1 p2 p3 p} : TrE G N sc e e' → TrN G N sc (.Subscript e (.Slice none none (some (.UnaryOp .USub (.Constant (.int 1) kk p1) p2)) p3) p) (.op .slRev (.cons e' .nil))
  | slLo {N sc e a e' a' p2 p} : TrE G N sc e e' → TrE G N sc a a' → TrN G N sc (.Subscript e (.Slice (some a) none none p2) p) (.op .slLo (.cons e' (.cons a' .nil)))
  | slHi {N sc e a e' a' p2 p} : TrE G N sc e e' → TrE G N sc a a' → TrN G N sc (.Subscript e (.Slice none (some a) none p2) p) (.op .slHi (.cons e' (.cons a' .nil)))
  | slLH {N sc e a c e' a' c' p2 p} : TrE G N sc e e' → TrE G N sc a a' → TrE G N sc c c' → TrN G N sc (.Subscript e (.Slice (some a) (some c) none p2) p) (.op .slLH (.cons e' (.cons a' (.cons c' .nil))))
  | comp {N sc elt tg it scope own tg' it' elt' p} : blkC N sc scope own = true → tgIn tg' (own.map (·.2)) = true → (∀ env x, foldedSetIterable it env x = pure x) → TrR G N sc tg it it' → TrG N scope tg tg' → TrE G N (relS scope sc) elt elt' →
      TrN G N sc (.ListComp elt [⟨tg, it, [], 0⟩] scope p) (.comp elt' tg' it' none (own.map (·.2)))
  | compIf {N sc elt tg it c scope own tg' it' elt' c' p} : blkC N sc scope own = true → tgIn tg' (own.map (·.2)) = true → (∀ env x, foldedSetIterable it env x = pure x) → TrR G N sc tg it it' → TrG N scope tg tg' → TrT G N (relS scope sc) c c' → TrE G N (relS scope sc) elt elt' →
      TrN G N sc (.ListComp elt [⟨tg, it, [c], 0⟩] scope p) (.comp elt' tg' it' (some c') (own.map (·.2)))
  | srtU {N sc e e' lp p p1 p2 q q1 q2} : bltB G sc "sorted" = true → bltB G sc "set" = true → bltB G sc "sum" = true → plainStar e [.List [] lp] → TrE G N sc e e' → TrN G N sc (.Call (.Name "sorted" p) [.Call (.Name "set" p1) [.Call (.Name "sum" p2) [e, .List [] lp] [] q2] [] q1] [] q) (.srtU e')
  | comp2 {N sc elt tg it tg1 it1 scope own vs1 tg' it' tg1' it1' elt' p} : blkC N sc scope own = true → tgIn tg' (own.map (·.2)) = true → tgIn tg1' vs1 = true → vs1.all (fun i => (own.map (·.2)).contains i) = true → (∀ env x, foldedSetIterable it env x = pure x) → (∀ env x, foldedSetIterable it1 env x = pure x) →
      TrR G N sc tg it it' → TrG N scope tg tg' → TrR G N (relS scope sc) tg1 it1 it1' → TrG N scope tg1 tg1' → TrE G N (relS scope sc) elt elt' →
      TrN G N sc (.ListComp elt [⟨tg, it, [], 0⟩, ⟨tg1, it1, [], 0⟩] scope p) (.comp2 elt' tg' it' tg1' it1' (own.map (·.2)) vs1)
inductive TrR (G : Sg) : List Str → Scope → Expr → Expr → Src → Type
  | val {N sc tg e e'} : TrE G N sc e e' → TrR G N sc tg e (.val e')
  | range1 {N sc tg a a' p pos} : bltB G sc "range" = true → TrE G N sc a a' → plainStar a [] → TrR G N sc tg (.Call (.Name "range" p) [a] [] pos) (.range (.cons a' .nil))
  | range2 {N sc tg a c a' c' p pos} : bltB G sc "range" = true → TrE G N sc a a' → TrE G N sc c c' → plainStar a [c] → plainStar c [] → TrR G N sc tg (.Call (.Name "range" p) [a, c] [] pos) (.range (.cons a' (.cons c' .nil)))
  | enum {N sc es k tp e e' p pos} : bltB G sc "enumerate" = true → TrE G N sc e e' → plainStar e [] → TrR G N sc (.Tuple es k tp) (.Call (.Name "enumerate" p) [e] [] pos) (.enum e')
  | zipS {N sc es k tp a c a' c' p pos kp j cp} : bltB G sc "zip" = true → TrE G N sc a a' → TrE G N sc c c' → plainStar a [c] → plainStar c [] →
      TrR G N sc (.Tuple es k tp) (.Call (.Name "zip" p) [a, c] [⟨some "strict", .Constant (.bool true) j cp, kp⟩] pos) (.zipS a' c')
end
mutual
inductive TrS (G : Sg) : List Str → Scope → Stmt → St → Type
  | set {N sc i x e e' q p} : N[i]? = some x → locB sc x = true → TrE G N sc e e' → (∀ env, env.scope = sc → swapsWith e (some (.Name x q)) p.line env = pure false) → TrS G N sc (.Assign [.Name x q] e p) (.set i e')
  | setc {N sc i x elt tg it scope own tg' it' elt' lp q p} : N[i]? = some x → sc.kind = .function → sc.names.lookup x = some .local → (q.line == lp.line) = true → (scope.names.any fun (n, k) => n == x && (k == .local || k == .cell)) = false → blkC N sc scope own = true → tgIn tg' (own.map (·.2)) = true → (∀ env y, foldedSetIterable it env y = pure y) → TrR G N sc tg it it' →
      TrG N scope tg tg' → TrE G N (relS scope sc) elt elt' →
      TrS G N sc (.Assign [.Name x q] (.ListComp elt [⟨tg, it, [], 0⟩] scope lp) p) (.set i (.mk (.comp elt' tg' it' none (own.map (·.2)))))
  | setcIf {N sc i x elt tg it c scope own tg' it' elt' c' lp q p} : N[i]? = some x → sc.kind = .function → sc.names.lookup x = some .local → (q.line == lp.line) = true → (scope.names.any fun (n, k) => n == x && (k == .local || k == .cell)) = false → blkC N sc scope own = true → tgIn tg' (own.map (·.2)) = true → (∀ env y, foldedSetIterable it env y = pure y) → TrR G N sc tg it it' →
      TrG N scope tg tg' → TrT G N (relS scope sc) c c' → TrE G N (relS scope sc) elt elt' →
      TrS G N sc (.Assign [.Name x q] (.ListComp elt [⟨tg, it, [c], 0⟩] scope lp) p) (.set i (.mk (.comp elt' tg' it' (some c') (own.map (·.2)))))
  | unp {N sc es is e e' k q p} : TrG N sc (.Tuple es k q) (.many is) → TrE G N sc e e' → (∀ env, env.scope = sc → swapsWithSole [.Tuple es k q] e p.line env = pure false) → (∀ env, env.scope = sc → swappedStores [.Tuple es k q] e env = pure none) → (∀ env, (assignEach [.Tuple es k q] env).map (·.2) = [assign (.Tuple es k q) env]) →
      TrS G N sc (.Assign [.Tuple es k q] e p) (.unp is e')
  | par {N sc i j x y a b a' b' px py pt kt k2 pt2 p} : N[i]? = some x → N[j]? = some y → i ≠ j → parB sc x y px py a b = true → plainStar a [b] → plainStar b [] → TrE G N sc a a' → TrE G N sc b b' →
      TrS G N sc (.Assign [.Tuple [.Name x px, .Name y py] kt pt] (.Tuple [a, b] k2 pt2) p) (.par i j a' b')
  | par2 {N sc i j x y a b a' b' px py pt kt k2 pt2 p} : N[i]? = some x → N[j]? = some y → locB sc x = true → locB sc y = true → (sc.names.lookup x == some .local && sc.names.lookup y == some .local) = false → plainStar a [b] → plainStar b [] → TrE G N sc a a' → TrE G N sc b b' →
      TrS G N sc (.Assign [.Tuple [.Name x px, .Name y py] kt pt] (.Tuple [a, b] k2 pt2) p) (.par i j a' b')
  | app {N sc i x e e' q ap cp p} : N[i]? = some x → visB sc x = true → okN x = true → plainStar e [] → (∀ env, attributeBase (.Name x q) "append" env (eval (.Name x q) env) = eval (.Name x q) env) →
      (∀ env, ((backTo cp (starEach [e] env)).all (fun y => !y.1) && (backToKw cp (keywordEach [] env)).all (fun y => y.1.isSome) && decide (([e] : List Expr).length + ([] : List Keyword).length + (if ([] : List Keyword).isEmpty then 0 else 1) < 30)) = true) →
      (ap.endLine == cp.line) = true → (∀ env, swapsWith (.Call (.Attribute (.Name x q) "append" ap) [e] [] cp) none p.line env = pure false) → TrE G N sc e e' →
      TrS G N sc (.Expr (.Call (.Attribute (.Name x q) "append" ap) [e] [] cp) p) (.app i e')
  | ext {N sc i x e e' q ap cp p} : N[i]? = some x → visB sc x = true → okN x = true → plainStar e [] → (∀ env, attributeBase (.Name x q) "extend" env (eval (.Name x q) env) = eval (.Name x q) env) →
      (∀ env, ((backTo cp (starEach [e] env)).all (fun y => !y.1) && (backToKw cp (keywordEach [] env)).all (fun y => y.1.isSome) && decide (([e] : List Expr).length + ([] : List Keyword).length + (if ([] : List Keyword).isEmpty then 0 else 1) < 30)) = true) →
      (ap.endLine == cp.line) = true → (∀ env, swapsWith (.Call (.Attribute (.Name x q) "extend" ap) [e] [] cp) none p.line env = pure false) → TrE G N sc e e' →
      TrS G N sc (.Expr (.Call (.Attribute (.Name x q) "extend" ap) [e] [] cp) p) (.ext i e')
  | put {N sc i x k e k' e' q sp p} : N[i]? = some x → visB sc x = true → okN x = true → TrE G N sc k k' → TrE G N sc e e' →
      (∀ env v, assign (.Subscript (.Name x q) k sp) env v = (do let ov ← holding [v] (eval (.Name x q) env); let iv ← holding [v, ov] (eval k env); standAt sp; holding [v, ov, iv] (setItem ov iv v); release [v, ov, iv] [])) →
      (∀ env, swapsWithSole [.Subscript (.Name x q) k sp] e p.line env = pure false) → (∀ env, swappedStores [.Subscript (.Name x q) k sp] e env = pure none) → (∀ env, (assignEach [.Subscript (.Name x q) k sp] env).map (·.2) = [assign (.Subscript (.Name x q) k sp) env]) →
      TrS G N sc (.Assign [.Subscript (.Name x q) k sp] e p) (.put i k' e')
  | putd {N sc i x k e k' e' q sp p} : N[i]? = some x → visB sc x = true → okN x = true → TrE G N sc k k' → TrE G N sc e e' → (∀ env, swapsWith e (some (.Subscript (.Name x q) k sp)) p.line env = pure false) →
      TrS G N sc (.Assign [.Subscript (.Name x q) k sp] e p) (.putd i k' e')
  | par3 {N sc i j l x y z a b c a' b' c' px py pz kt pt k2 pt2 p} : N[i]? = some x → N[j]? = some y → N[l]? = some z → i ≠ j → i ≠ l → j ≠ l → sc.names.lookup x = some .local → sc.names.lookup y = some .local → sc.names.lookup z = some .local → plainStar a [b, c] → plainStar b [c] → plainStar c [] →
      (∀ env, env.scope = sc → swappedStores [.Tuple [.Name x px, .Name y py, .Name z pz] kt pt] (.Tuple [a, b, c] k2 pt2) env = pure (some [x, y, z])) → (∀ env, swapsWithSole [.Tuple [.Name x px, .Name y py, .Name z pz] kt pt] (.Tuple [a, b, c] k2 pt2) p.line env = pure false) →
      TrE G N sc a a' → TrE G N sc b b' → TrE G N sc c c' → TrS G N sc (.Assign [.Tuple [.Name x px, .Name y py, .Name z pz] kt pt] (.Tuple [a, b, c] k2 pt2) p) (.par3 i j l a' b' c')
  | exp {N sc e e' p} : TrE G N sc e e' → (∀ env, swapsWith e none p.line env = pure false) → TrS G N sc (.Expr e p) (.exp e')
  | iff {N sc c a b c' a' b' p} : TrT G N sc c c' → TrB G N sc a a' → TrB G N sc b b' → TrS G N sc (.If c a b p) (.iff c' a' b')
  | forr {N sc tg it body tg' it' body' p} : (∀ env x, foldedSetIterable it env x = pure x) → TrG N sc tg tg' → TrR G N sc tg it it' → TrB G N sc body body' → TrS G N sc (.For tg it body [] p) (.forr tg' it' body')
  | whl {N sc c body c' body' n p} : TrT G N sc c c' → TrB G N sc body body' → TrS G N sc (.While c body [] p) (.whl n c' body')
  | ret {N sc e e' p} : TrE G N sc e e' → TrS G N sc (.Return (some e) p) (.ret e')
  | retn {N sc p} : TrS G N sc (.Return none p) (.ret (.con .none))
  | pass {N sc p} : TrS G N sc (.Pass p) .pass
  | brk {N sc p} : TrS G N sc (.Break p) .brk
  | cont {N sc p} : TrS G N sc (.Continue p) .cont
  | rai {N sc e c p} : TrS G N sc (.Raise e c p) .rai
  | rs {N sc nm e e' p pos pos2} : G.er.contains nm = true → gloB sc nm = true → okN nm = true → plainStar e [] → TrE G N sc e e' → TrS G N sc (.Raise (some (.Call (.Name nm p) [e] [] pos)) none pos2) (.rs nm e')
  | expx {N sc x f e es es' p pos p2} : G.fn.lookup x = some f → gloB sc x = true → okN x = true → TrL G N sc (e :: es) es' → (∀ env, swapsWith (.Call (.Name x p) (e :: es) [] pos) none p2.line env = pure false) → TrS G N sc (.Expr (.Call (.Name x p) (e :: es) [] pos) p2) (.expx f es')
  | retx {N sc x f e es es' p pos p2} : G.fn.lookup x = some f → gloB sc x = true → okN x = true → TrL G N sc (e :: es) es' → TrS G N sc (.Return (some (.Call (.Name x p) (e :: es) [] pos)) p2) (.retx f es')
  | tri {N sc body body' bn n y np q q2 p3 pos' pos i j} : G.base.contains bn = true → gloB sc bn = true → okN bn = true → N[i]? = some n → N[j]? = some y → i ≠ j → sc.names.lookup n = some .local → sc.names.lookup y = some .local → okN n = true → (∀ env, swapsWith (.Name n q2) (some (.Name y q)) p3.line env = pure false) → TrB G N sc body body' →
      TrS G N sc (.Try body [.ExceptHandler (some (.Name bn np)) (some n) [.Assign [.Name y q] (.Name n q2) p3] pos'] [] [] pos) (.tri G.er body' i j)
inductive TrB (G : Sg) : List Str → Scope → List Stmt → Sts → Type
  | nil {N sc} : TrB G N sc [] .nil
  | cons {N sc s r s' r'} : TrS G N sc s s' → TrB G N sc r r' → TrB G N sc (s :: r) (.cons s' r')
end
end TI
set_option maxHeartbeats 200000
set_option maxHeartbeats 1000000
namespace TI
open PySem PySem.Spec PyProof.Rows L2
def DE (X : Cx) (e : Expr) (σ : L2.St) (H : Hp) (Q : VK) : Prop := ∀ (pins : List (Addr × Obj)) (s : Shared), Inv X pins σ H s → wpAny (model X.prog X.w) X.A (eval e X.env) (EP X pins σ Q) X.xe s
def DT (X : Cx) (e : Expr) (σ : L2.St) (H : Hp) (Q : Bool → Hp → Prop) : Prop := ∀ (pins : List (Addr × Obj)) (s : Shared), Inv X pins σ H s → wpAny (model X.prog X.w) X.A (isTrue e X.env (eval e X.env)) (TP X pins σ Q) X.xe s
def DW (X : Cx) (e : Expr) (σ : L2.St) (H : Hp) (Q : Bool → Hp → Prop) : Prop := ∀ (whole : Sem Value) (pins : List (Addr × Obj)) (s : Shared), Inv X pins σ H s → wpAny (model X.prog X.w) X.A (isTrue e X.env whole) (TP X pins σ Q) X.xe s
def DA (X : Cx) (es : List Expr) (σ : L2.St) (H : Hp) (Q : List V → Hp → Prop) : Prop := ∀ (pos : Pos) (pins : List (Addr × Obj)) (s : Shared), Inv X pins σ H s → wpAny (model X.prog X.w) X.A (spliced (backTo pos (starEach es X.env))) (AP X pins σ Q) X.xe s
def DS (X : Cx) (st : Stmt) (D : Ends) (σ : L2.St) (H : Hp) : Prop := ∀ (pins : List (Addr × Obj)) (s : Shared), Inv X pins σ H s → wpAny (model X.prog X.w) X.A (exec st X.env) (SP X pins D) X.xe s
def DB (X : Cx) (st : List Stmt) (D : Ends) (σ : L2.St) (H : Hp) : Prop := ∀ (pins : List (Addr × Obj)) (s : Shared), Inv X pins σ H s → wpAny (model X.prog X.w) X.A (PySem.execs st X.env) (SP X pins D) X.xe s
section
variable {X : Cx} {e a b c : Expr} {es : List Expr} {σ : L2.St} {H : Hp} {Q : VK} {p pos : Pos}
theorem cE : PE X e (fun σ H Q => DE X e σ H Q) := ⟨fun pins s _ _ _ I h => h pins s I⟩
theorem cT : PT X e (fun σ H Q => DT X e σ H Q) := ⟨fun pins s _ _ _ I h => h pins s I⟩
theorem cW : PW X e (fun σ H Q => DW X e σ H Q) := ⟨fun wh pins s _ _ _ I h => h wh pins s I⟩
theorem cA : PA X es (fun σ H Q => DA X es σ H Q) := ⟨fun pos pins s _ _ _ I h => h pos pins s I⟩
theorem cB {st : List Stmt} : PSs X st (fun D σ H => DB X st D σ H) := ⟨fun pins s _ _ _ I h => h pins s I⟩
theorem PE.de {t : TE} (h : PE X e t) (q : t σ H Q) : DE X e σ H Q := fun pins s I => h.run pins s σ H Q I q
theorem PT.dt {t : TT} {Q : Bool → Hp → Prop} (h : PT X e t) (q : t σ H Q) : DT X e σ H Q := fun pins s I => h.run pins s σ H Q I q
theorem PW.dw {t : TT} {Q : Bool → Hp → Prop} (h : PW X e t) (q : t σ H Q) : DW X e σ H Q := fun wh pins s I => h.run wh pins s σ H Q I q
theorem PA.da {t : TA} {Q : List V → Hp → Prop} (h : PA X es t) (q : t σ H Q) : DA X es σ H Q := fun pos pins s I => h.run pos pins s σ H Q I q
theorem PS.ds {st : Stmt} {t : TS} {D : Ends} (h : PS X st t) (q : t D σ H) : DS X st D σ H := fun pins s I => h.run pins s σ H D I q
theorem PSs.db {st : List Stmt} {t : TS} {D : Ends} (h : PSs X st t) (q : t D σ H) : DB X st D σ H := fun pins s I => h.run pins s σ H D I q
theorem DE.mono {Q' : VK} (h : DE X e σ H Q) (k : ∀ v H', Q v H' → Q' v H') : DE X e σ H Q' := fun pins s I => thn (h pins s I) fun _ _ ⟨v, H', I', r, q⟩ => ⟨v, H', I', r, k v H' q⟩
def r2c (X : Cx) (f : Value → Value → Sem Value) : R2 := fun x y H Q => ∀ (pins : List (Addr × Obj)) (s : Shared) (σ : L2.St) (v u : Value), Inv X pins σ H s → RelV x v → RelV y u → wpAny (model X.prog X.w) X.A (f v u) (EP X pins σ Q) X.xe s
theorem op2c {f : Value → Value → Sem Value} : OpR X f (r2c X f) := fun pins s σ _ _ _ v u _ I rx ry h => h pins s σ v u I rx ry
def r1c (X : Cx) (f : Value → Sem Value) : V → Hp → VK → Prop := fun x H Q => ∀ (pins : List (Addr × Obj)) (s : Shared) (σ : L2.St) (v : Value), Inv X pins σ H s → RelV x v → wpAny (model X.prog X.w) X.A (f v) (EP X pins σ Q) X.xe s
theorem op1c {f : Value → Sem Value} : UnR X f (r1c X f) := fun pins s σ _ _ v _ I rx h => h pins s σ v I rx
def rcc (X : Cx) (f : Value) : List V → Hp → VK → Prop := fun vs H Q => ∀ (pins : List (Addr × Obj)) (s : Shared) (σ : L2.St) (us : List Value), Inv X pins σ H s → Vals vs us → wpAny (model X.prog X.w) X.A (call f us) (EP X pins σ Q) X.xe s
theorem opcc {f : Value} : CallR X f (rcc X f) := fun pins s σ _ _ us _ I r h => h pins s σ us I r
def rix (X : Cx) (value slice : Expr) : R2 := fun x y H Q => ∀ (pins : List (Addr × Obj)) (s : Shared) (σ : L2.St) (v u : Value), Inv X pins σ H s → RelV x v → RelV y u → subscripted slice false v u = operate [v, u] (getItem v u) → wpAny (model X.prog X.w) X.A (subscriptTail value slice v u) (EP X pins σ Q) X.xe s
theorem DE.bin {op : Operator} (h : DE X a σ H fun x H1 => DE X b σ H1 fun y H2 => r2c X (binaryOp op) x y H2 Q) : DE X (.BinOp a op b p) σ H Q := PE.de (pe_op op2c cE cE) h
theorem DE.cmp {op : CmpOp} (hm : behindInMarks op b = false) (h : DE X a σ H fun x H1 => DE X b σ H1 fun y H2 => r2c X (compareOp op) x y H2 Q) : DE X (.Compare a [op] [b] p) σ H Q := PE.de (pe_cmpR op2c cE cE hm) h
theorem DT.cmp {op : CmpOp} {Q : Bool → Hp → Prop} (hm : behindInMarks op b = false) (h : DE X a σ H fun x H1 => DE X b σ H1 fun y H2 => r2c X (compareOp op) x y H2 fun z H3 => ∃ k, z = .bl k ∧ Q k H3) : DT X (.Compare a [op] [b] p) σ H Q := PT.dt (pt_cmpR op2c cE cE hm) h
theorem DE.un {op : UnaryOp} (h : DE X a σ H fun x H1 => r1c X (unaryOp op) x H1 Q) : DE X (.UnaryOp op a p) σ H Q := PE.de (pe_un op1c cE) h
theorem DE.chain {op op' : CmpOp} (hm : lastMarks [op, op'] [b, c] = false) (h : DE X a σ H fun x H1 => DE X b σ H1 fun y H2 => r2c X (compareOp op) x y H2 fun z H3 => ∃ k, z = .bl k ∧ (if k = true then DE X c σ H3 fun w H4 => r2c X (compareOp op') y w H4 Q else Q (.bl false) H3)) :
    DE X (.Compare a [op, op'] [b, c] p) σ H Q := PE.de (pe_chain op2c op2c cE cE cE hm) h
theorem DT.chain {op op' : CmpOp} {Q : Bool → Hp → Prop} (hm : lastMarks [op, op'] [b, c] = false) (h : DE X a σ H fun x H1 => DE X b σ H1 fun y H2 => r2c X (compareOp op) x y H2 fun z H3 => ∃ k, z = .bl k ∧ (if k = true then DE X c σ H3 fun w H4 => r2c X (compareOp op') y w H4 (fun q H5 => ∃ k, q = .bl k ∧ Q k H5) else ∃ k, V.bl false = .bl k ∧ Q k H3)) :
    DT X (.Compare a [op, op'] [b, c] p) σ H Q := PT.dt (pt_chain op2c op2c cE cE cE hm) h
theorem DE.idx (hs : PlainIx b) (h : DE X a σ H fun x H1 => DE X b σ H1 fun y H2 => rix X a b x y H2 Q) : DE X (.Subscript a b p) σ H Q := fun pins s I => by
  refine Subscript_ (binT (cE (X := X) (e := a)) (cE (X := X) (e := b)) (R := fun x y H2 => rix X a b x y H2 Q) I h fun v u s2 x y H2 I2 rx ry q => ?_)
  exact q pins s2 σ v u I2 rx ry (hs _ _)
end
end TI
set_option maxHeartbeats 200000
set_option maxHeartbeats 1000000
namespace TI
open PySem PySem.Spec PyProof.Rows L2
abbrev NoE : XK := fun _ _ _ => False
structure FnG (P : Program) (w : World) (K : PySem.W.Frag) (mg : Str → Option Value) (base : Heap) (k : Nat) (f : Addr) (fd : FuncData) (ps : List Str) (sp : Sp) : Prop where
  len : ∀ vs H Q E, sp vs H Q E → vs.length = ps.length
  run : ∀ (A : Around) (outer : List Env) (s : Shared) (H : Hp) (args : Args) (us : List Value) (vs : List V) (Q : VK) (E : XK), Room k A → A.guards = some [] → Env0 P w K mg base A outer s H →
    BindsTo s fd args (ps.zip us) → Vals vs us → sp vs H Q E → codeAny (model P w) A (.call (.ref f) args) (CR (L2.CX P w) outer P w H s Q E) s
theorem FnG.mono {P : Program} {w : World} {K : PySem.W.Frag} {mg : Str → Option Value} {base : Heap} {j k : Nat} {f : Addr} {fd : FuncData} {ps : List Str} {sp : Sp} (F : FnG P w K mg base j f fd ps sp) (h : j ≤ k) : FnG P w K mg base k f fd ps sp :=
  ⟨F.len, fun A outer s H args us vs Q E hr => F.run A outer s H args us vs Q E (hr.mono h)⟩
def XOk (K : PySem.W.Frag) (F : Hp) (io : Nat → Addr) (m m' : Mu) (Q : VK) (E : XK) : XR → Prop
  | .ok vl => ∀ v F' io' H', Adv K F io m F' io' m' H' → VlOk K F' io' m'.length v vl → Q v H'
  | .ex c x => ∀ (C dx : Addr) (u : V) F' io' H', Adv K F io m F' io' m' H' → PySem.W.nsIn K mainGlobals c = some (some (.ref C)) → F' dx = some (.xd [(("value" : Str), u)]) → SOk K F' io' m'.length u x → E (.ref C) (some dx) H'
def spX (K : PySem.W.Frag) (cx : List Vl → Mu → Option (XR × Mu)) (np : Nat) : Sp := fun vs H Q E => vs.length = np ∧ ∃ F io m ls q m', Stt K F io m H ∧ VlsOk K F io m.length vs ls ∧ cx ls m = some (q, m') ∧ XOk K F io m m' Q E q
def KwB (K : PySem.W.Frag) (fd : FuncData) (ps ks : List Str) (ix : List Nat) : Prop := ix.length = ps.length ∧ (∀ i ∈ ix, i < ks.length) ∧
  ∀ (s : Shared) (ws : List Value), K.In s.heap → ws.length = ks.length → BindsTo s fd ⟨[], ks.zip ws⟩ (ps.zip (ix.filterMap fun i => ws[i]?))
structure Md (G : Sg) (cx : Nat → List Vl → Mu → Option (XR × Mu)) (k : Nat) (P : Program) (w : World) (K : PySem.W.Frag) (mg : Str → Option Value) (base : Heap) : Prop where
  con : ∀ (i : Nat) x d, G.con[i]? = some (x, d) → ∃ u v, mg x = some u ∧ RelV v u ∧ Is K (fun _ => none) v d
  bi : ∀ x, G.bi.contains x = true → mg x = none
  fn : ∀ x f, G.fn.lookup x = some f → ∃ a fd ps, mg x = some (.ref a) ∧ PySem.W.keepIn K (.ref a) = true ∧ Binds K fd ps [] ∧ FnG P w K mg base k a fd ps (spX K (cx f) ps.length) ∧ (∀ ls m q, cx f ls m = some q → ls.length = ps.length) ∧ ∀ ks ix, (f, ks, ix) ∈ G.kw → KwB K fd ps ks ix
  er : ∀ nm, G.er.contains nm = true → ∃ C fI, PySem.W.nsIn K mainGlobals nm = some (some (.ref C)) ∧ PySem.ErX.ErTxt P K mg nm C fI
  cl : ∀ x cs, (x, cs) ∈ G.cl → ∃ C1, mg x = some (.ref C1) ∧ (∀ nm b, cs.lookup nm = some b → (G.er.contains nm = true ∨ G.eb.contains nm = true) ∧ ∀ C, PySem.W.nsIn K mainGlobals nm = some (some (.ref C)) → PySem.W.kitOne K (.ref C) (.ref C1) = some b) ∧
    ∀ S ∈ ["NoneType", "bool", "int", "str", "list", "tuple", "dict"], PySem.W.kitOne K (.type S) (.ref C1) = some false
  base : ∀ x, G.base.contains x = true → ∃ B, mg x = some (.ref B) ∧ ∀ nm C, G.er.contains nm = true → PySem.W.nsIn K mainGlobals nm = some (some (.ref C)) → PySem.W.exmOne K (.ref C) (.ref B) = some true
  eb : ∀ nm, G.eb.contains nm = true → ∃ C, PySem.W.nsIn K mainGlobals nm = some (some (.ref C)) ∧ PySem.ErX.BtTxt K mg nm C
structure Cxt (G : Sg) (cx : Nat → List Vl → Mu → Option (XR × Mu)) (k : Nat) (N : List Str) (sc : Scope) (X : Cx) : Prop where
  hN : X.N = N
  nd : N.Nodup
  hsc : X.env.scope = sc
  calm : X.calm = true
  room : Room k X.A
  grd : X.A.guards = some []
  po : PassesOwn (model X.prog X.w) X.A X.env X.xe
  md : Md G cx k X.prog X.w X.K X.mg X.base
section
variable {G : Sg} {cx : Nat → List Vl → Mu → Option (XR × Mu)} {k : Nat} {N : List Str} {sc : Scope} {X : Cx}
theorem Cxt.gl (C : Cxt G cx k N sc X) {x : Str} (h : gloB sc x = true) : Gl X x := by
  show X.env.scope.names.lookup x = some .globalImplicit
  rw [C.hsc]
  unfold gloB at h
  split at h
  · assumption
  · cases h
theorem Cxt.vis (C : Cxt G cx k N sc X) {x : Str} (h : visB sc x = true) : Vis X.env.scope x := by
  unfold Vis
  rw [C.hsc]
  unfold visB at h
  split at h
  · exact .inl (by assumption)
  · exact .inr (.inl (by assumption))
  · exact .inr (.inr (by assumption))
  · cases h
def Sto (X : Cx) (ssc : Scope) : Prop := ∀ x, locB ssc x = true → L2.Loc X.env.scope x ∧ (X.fn x = true ∨ X.env.scope.names.lookup x = some .local)
theorem okN_at {x : Str} (h : okN x = true) : (x == ("__debug__" : Str)) = false ∧ (x == ("__classdict__" : Str)) = false ∧ x ≠ "__name__" := by
  unfold okN at h
  simp only [Bool.and_eq_true, Bool.not_eq_true'] at h
  refine ⟨h.1.1, h.1.2, fun e => ?_⟩
  have := h.2
  rw [e] at this
  simp at this
theorem Cxt.units (C : Cxt G cx k N sc X) : X.A.units + 200 < cLine := by have := C.room.un; omega
theorem Cxt.blt (C : Cxt G cx k N sc X) {x : Str} (h : bltB G sc x = true) : Gl X x ∧ X.mg x = none ∧ (x == ("__debug__" : Str)) = false ∧ x ≠ "__name__" := by
  unfold bltB at h
  simp only [Bool.and_eq_true] at h
  have o := okN_at h.2
  exact ⟨C.gl h.1.1, C.md.bi x h.1.2, o.1, o.2.2⟩
theorem call_fn {a : Addr} {fd : FuncData} {ps : List Str} {sp : Sp} {pins : List (Addr × Obj)} {σ : L2.St} {H : Hp} {s : Shared} {Q : VK} {us : List Value} {vs : List V} (F : FnG X.prog X.w X.K X.mg X.base k a fd ps sp) (hr : Room k X.A) (hg : X.A.guards = some [])
    (I : Inv X pins σ H s) {pos : List Value} {kw : List (Str × Value)} (hb : BindsTo s fd ⟨pos, kw⟩ (ps.zip us)) (r : Vals vs us) (h : sp vs H Q NoE) : wpAny (model X.prog X.w) X.A (PySem.call (.ref a) pos kw) (EP X pins σ Q) X.xe s := by
  refine wpAny_call (codeAny_mono (F.run X.A X.stack s H ⟨pos, kw⟩ us vs Q NoE hr hg I.env0 hb r h) fun res s' hq => ?_)
  cases res with
  | error e => obtain ⟨_, _, _, _, _, _, _, _, _, _, _, _, z⟩ := hq; exact False.elim z
  | ok fl =>
    cases fl with
    | ret u => exact I.after hq
    | next => exact False.elim hq
    | brk => exact False.elim hq
    | cont => exact False.elim hq
theorem DE.fcall {x : Str} {a : Addr} {fd : FuncData} {ps : List Str} {sp : Sp} {e : Expr} {es : List Expr} {p pos : Pos} {σ : L2.St} {H : Hp} {Q : VK} (F : FnG X.prog X.w X.K X.mg X.base k a fd ps sp) (hr : Room k X.A) (hg : X.A.guards = some [])
    (hgl : Gl X x) (hm : X.mg x = some (.ref a)) (hk : PySem.W.keepIn X.K (.ref a) = true) (hb : Binds X.K fd ps []) (hd : (x == ("__debug__" : Str)) = false) (he : plainStar e es) (hpl : ∀ pos, (backTo pos (starEach es X.env)).any (·.1) = false)
    (h : DA X (e :: es) σ H fun vs H1 => sp vs H1 Q NoE) : DE X (.Call (.Name x p) (e :: es) [] pos) σ H Q := fun pins s I => by
  refine wpAny_Call_Name_kw (ld_glob I hgl hm ?_ hd)
  refine PySem.W.callWith_K (h₀ := X.base) I.ok.mod.kin hk (thn (h pos pins s I) fun us s1 ⟨vs, H1, I1, r, q⟩ => ⟨I1.kIn, ?_⟩) (he _) (hpl pos)
  have hl : (us ++ []).length = ps.length := by
    have e1 := F.len _ _ _ _ q
    have e2 := r.length
    rw [List.append_nil]; omega
  have b := hb s1 us I1.kIn hl
  rw [List.append_nil] at b
  exact call_fn F hr hg I1 b r q
theorem DE.blt {x : Str} {bv : Value} {e : Expr} {es : List Expr} {p pos : Pos} {σ : L2.St} {H : Hp} {Q : VK} (hbv : (∃ id, bv = .builtin id) ∨ ∃ T, bv = .type T) (hgl : Gl X x) (hm : X.mg x = none) (hv : bootBuiltins x = some bv) (hn : x ≠ "__name__") (hd : (x == ("__debug__" : Str)) = false)
    (he : plainStar e es) (hpl : ∀ pos, (backTo pos (starEach es X.env)).any (·.1) = false) (h : DA X (e :: es) σ H fun vs H1 => rcc X bv vs H1 Q) : DE X (.Call (.Name x p) (e :: es) [] pos) σ H Q := by
  rcases hbv with ⟨id, rfl⟩ | ⟨T, rfl⟩
  · exact PE.de (pe_callB opcc hgl hm hv cA hn hd (he _) (hpl _)) h
  · exact PE.de (pe_callTy opcc hgl hm hv cA hn hd (he _) (hpl _)) h
end
end TI
set_option maxHeartbeats 200000
set_option maxHeartbeats 1000000
namespace TI
open PySem PySem.Spec PyProof.Rows L2
abbrev FE := En → Mu → Option (Vl × Mu)
def OkE (X : Cx) (e : Expr) (f : FE) : Prop := ∀ r m vl m', f r m = some (vl, m') → ∀ (σ : L2.St) (F : Hp) (io : Nat → Addr) (H : Hp), Stt X.K F io m H → EnOk X.K F io m.length σ r → ∀ Q : VK,
  (∀ v F' io' H', Adv X.K F io m F' io' m' H' → VlOk X.K F' io' m'.length v vl → Q v H') → DE X e σ H Q
def OkT (X : Cx) (e : Expr) (f : FE) : Prop := ∀ r m b m', f r m = some (.t (.bool b), m') → ∀ (σ : L2.St) (F : Hp) (io : Nat → Addr) (H : Hp), Stt X.K F io m H → EnOk X.K F io m.length σ r → ∀ Q : Bool → Hp → Prop,
  (∀ F' io' H', Adv X.K F io m F' io' m' H' → Q b H') → DT X e σ H Q
def OkW (X : Cx) (e : Expr) (f : FE) : Prop := ∀ r m b m', f r m = some (.t (.bool b), m') → ∀ (σ : L2.St) (F : Hp) (io : Nat → Addr) (H : Hp), Stt X.K F io m H → EnOk X.K F io m.length σ r → ∀ Q : Bool → Hp → Prop,
  (∀ F' io' H', Adv X.K F io m F' io' m' H' → Q b H') → DW X e σ H Q
def OkL (X : Cx) (es : List Expr) (f : En → Mu → Option (List Vl × Mu)) : Prop := ∀ r m vls m', f r m = some (vls, m') → ∀ (σ : L2.St) (F : Hp) (io : Nat → Addr) (H : Hp), Stt X.K F io m H → EnOk X.K F io m.length σ r → ∀ Q : List V → Hp → Prop,
  (∀ vs F' io' H', Adv X.K F io m F' io' m' H' → VlsOk X.K F' io' m'.length vs vls → Q vs H') → DA X es σ H Q
def OkD (X : Cx) (es : List Expr) (f : En → Mu → Option (List D × Mu)) : Prop := ∀ r m ds m', f r m = some (ds, m') → ∀ (σ : L2.St) (F : Hp) (io : Nat → Addr) (H : Hp), Stt X.K F io m H → EnOk X.K F io m.length σ r → ∀ Q : List V → Hp → Prop,
  (∀ vs F' io' H', Adv X.K F io m F' io' m' H' → IsL X.K F' vs ds → Q vs H') → DA X es σ H Q
def Unf : Cell → Prop
  | .lst _ b => b = false
  | .dct _ b => b = false
def OkN (X : Cx) (e : Expr) (f : En → Mu → Option (Cell × Mu)) : Prop := ∀ r m c m', f r m = some (c, m') → Unf c ∧ ∀ (σ : L2.St) (F : Hp) (io : Nat → Addr) (H : Hp), Stt X.K F io m H → EnOk X.K F io m.length σ r → ∀ Q : VK,
  (∀ p o F' io' H', Adv X.K F io m F' io' m' H' → H' p = none → CellO X.K F' c o → Q (.ref p) (upd H' p o)) → DE X e σ H Q
def Good (K : PySem.W.Frag) (F : Hp) (J : It) (ds : List D) : Prop := ∀ F2 H2, Le F F2 → Le F2 H2 →
  (∀ i d, ds[i]? = some d → J.go i H2 ∧ ∀ x H3, J.yld i H2 x H3 → ∃ F3, Grow F2 H2 F3 H3 ∧ Is K F3 x d) ∧ J.stop ds.length H2
def DI (X : Cx) (tg it : Expr) (σ : L2.St) (H : Hp) (R : It → Hp → Prop) : Prop := ∀ (pins : List (Addr × Obj)) (s : Shared), Inv X pins σ H s →
  wpAny (model X.prog X.w) X.A (eval it X.env) (fun v s1 => wpAny (model X.prog X.w) X.A (pyIter v) (PIE X pins σ tg R) X.xe s1) X.xe s
theorem cI {X : Cx} {tg it : Expr} : PI X tg it (fun σ H R => DI X tg it σ H R) := ⟨fun pins s _ _ _ I h => h pins s I⟩
theorem PI.di {X : Cx} {tg it : Expr} {wi : TI} {σ : L2.St} {H : Hp} {R : It → Hp → Prop} (h : PI X tg it wi) (q : wi σ H R) : DI X tg it σ H R := fun pins s I => h.run pins s σ H R I q
def OkR (X : Cx) (tg it : Expr) (f : En → Mu → Option (List D × Mu)) : Prop := ∀ r m ds m', f r m = some (ds, m') → ∀ (σ : L2.St) (F : Hp) (io : Nat → Addr) (H : Hp), Stt X.K F io m H → EnOk X.K F io m.length σ r → ∀ R : It → Hp → Prop,
  (∀ J F' io' H', Adv X.K F io m F' io' m' H' → Good X.K F' J ds → R J H') → DI X tg it σ H R
theorem bind_some {α β : Type} {x : Option α} {f : α → Option β} {y : β} (h : (x >>= f) = some y) : ∃ a, x = some a ∧ f a = some y := by
  cases x with
  | none => cases h
  | some a => exact ⟨a, rfl, h⟩
theorem post_res {K : PySem.W.Frag} {F H : Hp} {io : Nat → Addr} {m : Mu} {d : D} {Q : VK} (st : Stt K F io m H) (q : ∀ v F' io' H', Adv K F io m F' io' m H' → VlOk K F' io' m.length v (.t d) → Q v H') : Res K F H d Q :=
  fun v F' H' g i => q v F' io H' (Adv.grow st g) i
section
variable {call : Nat → List Vl → Mu → Option (Vl × Mu)} {b : Nat}
theorem op_inv {o : Op} {es : Exs} {r : En} {m m' : Mu} {vl : Vl} (h : evalE call b (.op o es) r m = some (vl, m')) :
    ∃ vs ds, evalL call b es r m = some (vs, m') ∧ views m' vs = some ds ∧ ((∃ d, opF o ds = some d ∧ vl = .t d) ∨ ∃ c, opN o ds = some c ∧ vl = .t c.data) := by
  unfold evalE at h
  obtain ⟨⟨vs, m1⟩, h1, h⟩ := bind_some h
  obtain ⟨ds, h2, h⟩ := bind_some h
  split at h
  · rename_i d hd
    cases h
    exact ⟨vs, ds, h1, h2, .inl ⟨d, hd, rfl⟩⟩
  · split at h
    · rename_i c hc
      cases h
      exact ⟨vs, ds, h1, h2, .inr ⟨c, hc, rfl⟩⟩
    · cases h
theorem nop_inv {o : Op} {es : Exs} {r : En} {m m' : Mu} {c : Cell} (h : evalN call b (.op o es) r m = some (c, m')) :
    ∃ vs ds, evalL call b es r m = some (vs, m') ∧ views m' vs = some ds ∧ opN o ds = some c := by
  unfold evalN at h
  obtain ⟨⟨vs, m1⟩, h1, h⟩ := bind_some h
  obtain ⟨ds, h2, h⟩ := bind_some h
  obtain ⟨c', h3, h⟩ := bind_some h
  cases h
  exact ⟨vs, ds, h1, h2, h3⟩
theorem l_inv {e : Ex} {es : Exs} {r : En} {m m' : Mu} {vs : List Vl} (h : evalL call b (.cons e es) r m = some (vs, m')) : ∃ v ws m1, vs = v :: ws ∧ evalE call b e r m = some (v, m1) ∧ evalL call b es r m1 = some (ws, m') := by
  unfold evalL at h
  obtain ⟨⟨v, m1⟩, h1, h⟩ := bind_some h
  obtain ⟨⟨ws, m2⟩, h2, h⟩ := bind_some h
  cases h
  exact ⟨v, ws, m1, rfl, h1, h2⟩
theorem l_nil {r : En} {m m' : Mu} {vs : List Vl} (h : evalL call b .nil r m = some (vs, m')) : vs = [] ∧ m' = m := by
  unfold evalL at h; cases h; exact ⟨rfl, rfl⟩
theorem l_one {e : Ex} {r : En} {m m' : Mu} {vs : List Vl} (h : evalL call b (.cons e .nil) r m = some (vs, m')) : ∃ v, vs = [v] ∧ evalE call b e r m = some (v, m') := by
  obtain ⟨v, ws, m1, rfl, h1, h2⟩ := l_inv h
  obtain ⟨rfl, rfl⟩ := l_nil h2
  exact ⟨v, rfl, h1⟩
theorem l_two {e c : Ex} {r : En} {m m' : Mu} {vs : List Vl} (h : evalL call b (.cons e (.cons c .nil)) r m = some (vs, m')) : ∃ v w m1, vs = [v, w] ∧ evalE call b e r m = some (v, m1) ∧ evalE call b c r m1 = some (w, m') := by
  obtain ⟨v, ws, m1, rfl, h1, h2⟩ := l_inv h
  obtain ⟨w, rfl, h3⟩ := l_one h2
  exact ⟨v, w, m1, rfl, h1, h3⟩
theorem l_three {e c d : Ex} {r : En} {m m' : Mu} {vs : List Vl} (h : evalL call b (.cons e (.cons c (.cons d .nil))) r m = some (vs, m')) :
    ∃ v w u m1 m2, vs = [v, w, u] ∧ evalE call b e r m = some (v, m1) ∧ evalE call b c r m1 = some (w, m2) ∧ evalE call b d r m2 = some (u, m') := by
  obtain ⟨v, ws, m1, rfl, h1, h2⟩ := l_inv h
  obtain ⟨w, u, m2, rfl, h3, h4⟩ := l_two h2
  exact ⟨v, w, u, m1, m2, rfl, h1, h3, h4⟩
end
section
variable {X : Cx} {F H : Hp} {io : Nat → Addr} {m : Mu} {Q : VK}
theorem views_two {v w : Vl} {ds : List D} (h : views m [v, w] = some ds) : ∃ a c, ds = [a, c] ∧ view m v = some a ∧ view m w = some c := by
  unfold views at h
  split at h
  · rename_i a es h1 h2
    cases h
    unfold views at h2
    split at h2
    · rename_i c fs h3 h4
      cases h2
      unfold views at h4
      cases h4
      exact ⟨a, c, rfl, h1, h3⟩
    · cases h2
  · cases h
theorem views_one {v : Vl} {ds : List D} (h : views m [v] = some ds) : ∃ a, ds = [a] ∧ view m v = some a := by
  unfold views at h
  split at h
  · rename_i a es h1 h2
    cases h
    unfold views at h2
    cases h2
    exact ⟨a, rfl, h1⟩
  · cases h
theorem two_ok {call : Nat → List Vl → Mu → Option (Vl × Mu)} {b : Nat} {a c : Expr} {a' c' : Ex} {r : En} {m' : Mu} {v w : Vl} {m1 : Mu} {σ : L2.St} (ha : OkE X a (evalE call b a')) (hc : OkE X c (evalE call b c')) (h1 : evalE call b a' r m = some (v, m1)) (h2 : evalE call b c' r m1 = some (w, m'))
    (st : Stt X.K F io m H) (en : EnOk X.K F io m.length σ r) {R : V → V → Hp → Prop} (q : ∀ x y F' io' H', Adv X.K F io m F' io' m' H' → VlOk X.K F' io' m'.length x v → VlOk X.K F' io' m'.length y w → R x y H') :
    DE X a σ H fun x H1 => DE X c σ H1 fun y H2 => R x y H2 := by
  refine ha r m v m1 h1 σ F io H st en _ fun x F1 io1 H1 A1 hx => ?_
  refine hc r m1 w m' h2 σ F1 io1 H1 A1.st (en.adv A1) _ fun y F2 io2 H2 A2 hy => ?_
  exact q x y F2 io2 H2 (A1.trans A2) (hx.adv A2) hy
end
end TI
set_option maxHeartbeats 200000
set_option maxHeartbeats 1000000
namespace TI
open PySem PySem.Spec PyProof.Rows L2
def gsOf : List Nat → TGs
  | [] => gNil
  | i :: is => gCons (gName i) (gsOf is)
def gOf (K : PySem.W.Frag) : Tg → TG
  | .one i => gName i
  | .many is => gTup K is.length (gsOf is)
section
variable {G : Sg} {cx : Nat → List Vl → Mu → Option (XR × Mu)} {k : Nat} {N : List Str} {sc : Scope} {X : Cx}
theorem pgs_of (hN : X.N = N) (nd : N.Nodup) (so : Sto X sc) : ∀ {tg : Expr} {tg' : Tg}, TrG N sc tg tg' → ∀ es kk p is, tg = .Tuple es kk p → tg' = .many is → PGs X es (gsOf is) ∧ ∀ env, (assignEach es env).length = is.length ∧ (assignEach es env).findIdx? (·.1) = none
  | _, _, .one _ _, _, _, _, _, h, _ => by cases h
  | _, _, .nil, es, kk, p, is, h, h' => by
    cases h; cases h'
    exact ⟨pgs_nil, fun env => ⟨rfl, rfl⟩⟩
  | _, _, .cons (i := i) (x := x) h1 h2 d, es, kk, p, is, h, h' => by
    cases h; cases h'
    obtain ⟨a, c⟩ := pgs_of hN nd so d _ _ _ _ rfl rfl
    have hl := so _ h2
    refine ⟨pgs_cons (pg_name (by rw [hN]; exact nd) (by rw [hN]; exact h1) hl.1 hl.2) a rfl, fun env => ?_⟩
    have e : ∀ (q : Pos) es', assignEach (.Name x q :: es') env = (false, assign (.Name x q) env) :: assignEach es' env := fun _ _ => rfl
    rw [e]
    refine ⟨by simp [(c env).1], ?_⟩
    rw [List.findIdx?_cons]
    simp [(c env).2]
theorem pg_of (hN : X.N = N) (nd : N.Nodup) (calm : X.calm = true) (so : Sto X sc) {tg : Expr} {tg' : Tg} (d : TrG N sc tg tg') : PG X tg (gOf X.K tg') := by
  have hn : X.N.Nodup := by rw [hN]; exact nd
  cases d with
  | one h1 h2 =>
    have hl := so _ h2
    exact pg_name hn (by rw [hN]; exact h1) hl.1 hl.2
  | nil => exact pg_tup calm pgs_nil rfl rfl
  | cons h1 h2 d =>
    obtain ⟨a, c⟩ := pgs_of hN nd so (.cons h1 h2 d) _ _ _ _ rfl rfl
    exact pg_tup calm a (c _).1 (c _).2
end
theorem wipe_set {σ : L2.St} {i : Nat} {x : Option V} : ∀ {vs : List Nat}, i ∈ vs → wipe (σ.set i x) vs = wipe σ vs
  | [], h => by simp at h
  | v :: vs, h => by
    show (wipe (σ.set i x) vs).set v none = (wipe σ vs).set v none
    by_cases hi : i ∈ vs
    · rw [wipe_set hi]
    · have e : i = v := by simpa [hi] using h
      subst e
      have key : ∀ {vs : List Nat} {σ : L2.St}, i ∉ vs → wipe (σ.set i x) vs = (wipe σ vs).set i x := by
        intro vs
        induction vs with
        | nil => intro σ _; rfl
        | cons a r ih =>
          intro σ hn
          have h1 : i ≠ a := fun z => hn (by simp [z])
          show (wipe (σ.set i x) r).set a none = ((wipe σ r).set a none).set i x
          rw [ih (fun z => hn (by simp [z])), List.set_comm _ _ h1]
      rw [key hi, List.set_set]
theorem wipe_none {σ : L2.St} {i : Nat} : ∀ {vs : List Nat}, i ∈ vs → (wipe σ vs).set i none = wipe σ vs
  | [], h => by simp at h
  | v :: vs, h => by
    show ((wipe σ vs).set v none).set i none = (wipe σ vs).set v none
    by_cases e : i = v
    · subst e; rw [List.set_set]
    · have hi : i ∈ vs := by simpa [e] using h
      rw [List.set_comm _ _ (Ne.symm e), wipe_none hi]
theorem wipe_wipe {σ : L2.St} : ∀ {vs : List Nat}, wipe (wipe σ vs) vs = wipe σ vs := fun {vs} => by
  have key : ∀ (us : List Nat), (∀ u ∈ us, u ∈ vs) → wipe (wipe σ vs) us = wipe σ vs := by
    intro us
    induction us with
    | nil => intro _; rfl
    | cons a r ih =>
      intro h
      show (wipe (wipe σ vs) r).set a none = wipe σ vs
      rw [ih fun u hu => h u (by simp [hu])]
      exact wipe_none (h a (by simp))
  exact key vs fun u hu => hu
section
variable {K : PySem.W.Frag} {F H : Hp} {io : Nat → Addr} {n : Nat} {σ : L2.St} {r r' : En} {d : D} {x : V} {Q : L2.St → Hp → Prop}
theorem gs_ok (W : L2.St → Prop) : ∀ (is : List Nat) {xs : List V} {ds : List D} {σ : L2.St} {r : En}, IsL K F xs ds → ds.length = is.length → EnOk K F io n σ r → W σ → (∀ i ∈ is, ∀ σ v, W σ → W (σ.set i v)) →
    (∀ σ', W σ' → EnOk K F io n σ' (setTg.setMany r is ds) → Q σ' H) → gsOf is xs σ H Q
  | [], xs, ds, σ, r, k, hl, en, w, hw, q => by
    cases k with
    | nil => exact ⟨rfl, q σ w en⟩
    | cons _ _ => cases hl
  | i :: is, xs, ds, σ, r, k, hl, en, w, hw, q => by
    cases k with
    | nil => cases hl
    | cons k1 k2 =>
      refine ⟨_, _, rfl, ?_⟩
      refine gs_ok W is k2 (by simpa using hl) (en.set i (vl := .t _) k1) (hw i (by simp) _ _ w) (fun j hj => hw j (by simp [hj])) fun σ' w' e' => q σ' w' e'
theorem g_ok (W : L2.St → Prop) {tg : Tg} (l : Le F H) (e : setTg r tg d = some r') (k : Is K F x d) (en : EnOk K F io n σ r) (w : W σ) (hw : ∀ i σ v, (match tg with | .one j => i = j | .many is => i ∈ is) → W σ → W (σ.set i v))
    (q : ∀ σ', W σ' → EnOk K F io n σ' r' → Q σ' H) : gOf K tg x σ H Q := by
  cases tg with
  | one i =>
    cases e
    exact q _ (hw i _ _ rfl w) (en.set i (vl := .t d) k)
  | many is =>
    cases d with
    | tuple ds =>
      replace e : (if ds.length = is.length then some (setTg.setMany r is ds) else none) = some r' := e
      split at e
      · rename_i hl
        cases e
        cases k with
        | tup h1 h2 =>
          refine ⟨_, _, rfl, l.st h1, by rw [h2.length, hl], ?_⟩
          exact gs_ok W is h2 hl en w (fun i hi σ v => hw i σ v hi) q
      · cases e
    | _ => cases e
end
section
variable {G : Sg} {cx : Nat → List Vl → Mu → Option (XR × Mu)} {k : Nat} {N : List Str} {sc : Scope} {X : Cx}
theorem Cxt.blk (C : Cxt G cx k N sc X) {scope : Scope} (s : Shared) (H : Hp) (A : Addr) (cl : List (Str × Addr)) (fp : List Addr) : Cxt G cx k N (relS scope sc) (X.blk s H scope (compEnvC scope cl A X.env) fp) where
  hN := C.hN
  nd := C.nd
  hsc := by
    show relS scope X.env.scope = relS scope sc
    rw [C.hsc]
  calm := C.calm
  room := C.room
  grd := C.grd
  po := PassesOwn.never
  md := ⟨C.md.con, C.md.bi, C.md.fn, C.md.er, C.md.cl, C.md.base, C.md.eb⟩
theorem Sto.blk {scope : Scope} (s : Shared) (H : Hp) (A : Addr) (cl : List (Str × Addr)) (fp : List Addr) : Sto (X.blk s H scope (compEnvC scope cl A X.env) fp) scope := fun x h => by
  unfold locB at h
  have keep : ∀ {kd : NameKind}, kd ≠ .free → scope.names.lookup x = some kd → (relS scope X.env.scope).names.lookup x = some kd := fun n e => lookup_relS_keep n e
  split at h
  · rename_i e
    exact ⟨.inl (keep (by decide) e), .inr (keep (by decide) e)⟩
  · rename_i e
    refine ⟨.inr (keep (by decide) e), .inl ?_⟩
    show (scope.names.lookup x == some .cell) = true
    rw [e]; rfl
  · cases h
end
end TI
set_option maxHeartbeats 200000
set_option maxHeartbeats 2000000
namespace TI
open PySem PySem.Spec PyProof.Rows L2
def delA (H : Hp) (p : Addr) : Hp := fun a => if a = p then none else H a
theorem upd_del {H : Hp} {p : Addr} {o : HO} (h : H p = some o) : upd (delA H p) p o = H := by
  funext a
  unfold upd delA
  by_cases e : a = p
  · subst e; rw [if_pos rfl]; exact h.symm
  · rw [if_neg e, if_neg e]
section
variable {K : PySem.W.Frag} {F H : Hp} {io : Nat → Addr} {m : Mu}
theorem Stt.last {n : Nat} {ds : List D} (s : Stt K F io m H) (e : m[n]? = some (.lst ds false)) : Stt K F io (m.take n) (delA H (io n)) := by
  have hn : n < m.length := (List.getElem?_eq_some_iff.mp e).1
  obtain ⟨nf, xs, h1, _⟩ := s.cell n _ e
  have keep : ∀ {a o}, a ≠ io n → H a = some o → delA H (io n) a = some o := fun {a o} h q => by unfold delA; rw [if_neg h]; exact q
  refine ⟨fun a o h => keep (fun z => by rw [z, nf] at h; cases h) (s.sub a o h), fun i c h => ?_, fun i j hi hj z => s.inj i j (by simp at hi; omega) (by simp at hj; omega) z⟩
  rw [List.getElem?_take] at h
  split at h
  · rename_i hi
    have hl : i < m.length := (List.getElem?_eq_some_iff.mp h).1
    have ne : io i ≠ io n := fun z => absurd (s.inj i n hl hn z) (by omega)
    have q := s.cell i c h
    cases c with
    | lst ds fz =>
      cases fz with
      | false => obtain ⟨k1, xs, k2, k3⟩ := q; exact ⟨k1, xs, keep ne k2, k3⟩
      | true => exact q
    | dct ds fz =>
      cases fz with
      | false => obtain ⟨k1, xs, k2, k3⟩ := q; exact ⟨k1, xs, keep ne k2, k3⟩
      | true => exact q
  · cases h
end
section
variable {G : Sg} {cx : Nat → List Vl → Mu → Option (XR × Mu)} {k : Nat} {N : List Str} {sc : Scope} {X : Cx}
theorem comp_core {b : Nat} (C : Cxt G cx k N sc X) {scope : Scope} {own : List (Str × Nat)} {tg it elt : Expr} {ifs : List Expr} {tg' : Tg} {fs : En → Mu → Option (List D × Mu)} {fc fe : FE} {tt : TT} {f : En → Mu → Option (Cell × Mu)}
    (hb : blkC N sc scope own = true) (ht : tgIn tg' (own.map (·.2)) = true) (hs : ∀ x, foldedSetIterable it X.env x = pure x) (hR : OkR X tg it fs) (dg : TrG N scope tg tg')
    (hPT : ∀ (s : Shared) (H : Hp) (A : Addr) (cl : List (Str × Addr)) (fp : List Addr), PTs (X.blk s H scope (compEnvC scope cl A X.env) fp) ifs tt)
    (hT : ∀ r m b m', fc r m = some (.t (.bool b), m') → ∀ (σ : L2.St) (F : Hp) (io : Nat → Addr) (H : Hp), Stt X.K F io m H → EnOk X.K F io m.length σ r → ∀ Q : Bool → Hp → Prop, (∀ F' io' H', Adv X.K F io m F' io' m' H' → Q b H') → tt σ H Q)
    (hE : ∀ (s : Shared) (H : Hp) (A : Addr) (cl : List (Str × Addr)) (fp : List Addr), OkE (X.blk s H scope (compEnvC scope cl A X.env) fp) elt fe)
    (hf : ∀ r m c m', f r m = some (c, m') → ∃ ds m1 m2 xs, fs r m = some (ds, m1) ∧ compLoop b m1.length fe fc tg' (wipeE r (own.map (·.2))) ds (m1 ++ [.lst [] false]) = some m2 ∧ m2[m1.length]? = some (.lst xs false) ∧ m2.length = m1.length + 1 ∧ c = .lst xs false ∧ m' = m2.take m1.length) :
    ∀ r m c m', f r m = some (c, m') → Unf c ∧ ∀ (σ : L2.St) (F : Hp) (io : Nat → Addr) (H : Hp), Stt X.K F io m H → EnOk X.K F io m.length σ r → ∀ Q : VK,
      (∀ p o F' io' H', Adv X.K F io m F' io' m' H' → H' p = none → CellO X.K F' c o → Q (.ref p) (upd H' p o)) →
      tLc (fun σ H R => DI X tg it σ H R) (gOf X.K tg') tt (fun σ H Q => ∀ (s : Shared) (H0 : Hp) (A : Addr) (cl : List (Str × Addr)) (fp : List Addr), DE (X.blk s H0 scope (compEnvC scope cl A X.env) fp) elt σ H Q) (own.map (·.2)) σ H Q := by
  intro r m c m' hh
  obtain ⟨ds, m1, m2, xs, h1, h2, h3, h4, rfl, rfl⟩ := hf r m c m' hh
  refine ⟨rfl, fun σ F io H st en Q q => ?_⟩
  refine hR r m ds m1 h1 σ F io H st en _ fun J F1 io1 H1 A1 good => ?_
  intro Dd hD
  generalize hvs : own.map (·.2) = vs at *
  have A0 := Adv.cell (c := .lst [] false) A1.st hD ⟨[], rfl, .nil⟩ (fun ds b h => by rcases h with h | ⟨es, h⟩ <;> cases h; rfl)
  generalize hn : m1.length = n at *
  have io0 : nio io1 n Dd n = Dd := if_pos rfl
  have hlen : (m1 ++ [Cell.lst [] false]).length = n + 1 := by simp [hn]
  let W : Nat → Nat → Hp → Prop := fun i mm Hc => mm = ds.length - i ∧ i ≤ ds.length ∧ ∃ F' io' μ, Adv X.K F1 (nio io1 n Dd) (m1 ++ [.lst [] false]) F' io' μ Hc ∧ compLoop b n fe fc tg' (wipeE r vs) (ds.drop i) μ = some m2
  refine ⟨W, ⟨ds.length, rfl, Nat.zero_le _, F1, nio io1 n Dd, _, Adv.refl A0.st, h2⟩, fun i mm Hc w => ?_⟩
  obtain ⟨hm, hi, F2, io2, μ, A2, hl⟩ := w
  have ion : io2 n = Dd := (A2.ii n (by rw [hlen]; exact Nat.lt_succ_self n)).trans io0
  obtain ⟨items, stop⟩ := good F2 Hc (A0.ff.trans A2.ff) A2.st.sub
  by_cases hd : i < ds.length
  · refine .inr ⟨?_, ?_⟩
    · exact (items i _ (List.getElem?_eq_getElem hd)).1
    refine ⟨W (i + 1) (mm - 1), fun H' w' => ⟨mm - 1, by omega, w'⟩, fun x H' hy => ?_⟩
    obtain ⟨F3, gr, ix⟩ := (items i _ (List.getElem?_eq_getElem hd)).2 x H' hy
    rw [List.drop_eq_getElem_cons hd] at hl
    unfold compLoop at hl
    obtain ⟨r1, e1, hl⟩ := bind_some hl
    obtain ⟨⟨cv, μ1⟩, e2, hl⟩ := bind_some hl
    dsimp only at hl
    have A3 := A2.trans (Adv.grow A2.st gr)
    have en3 : EnOk X.K F3 io2 μ.length (wipe σ vs) (wipeE r vs) := (en.wipe vs).adv ((A1.trans A0).trans A3)
    have inV : ∀ j, (match tg' with | .one i => j = i | .many is => j ∈ is) → j ∈ vs := fun j hj => by
      cases tg' with
      | one i => cases hj; simpa [tgIn] using ht
      | many is =>
        have := ht
        simp only [tgIn, List.all_eq_true] at this
        simpa using this j hj
    refine g_ok (n := μ.length) (io := io2) (fun σ2 => wipe σ2 vs = wipe σ vs) A3.st.sub e1 ix en3 wipe_wipe (fun j σ2 v hj hw => ?_) fun σ2 hw2 en4 => ?_
    · rw [wipe_set (inV j hj)]; exact hw
    refine ⟨hw2, ?_⟩
    have fin : ∀ {F' io' μ' H''}, Adv X.K F1 (nio io1 n Dd) (m1 ++ [.lst [] false]) F' io' μ' H'' → compLoop b n fe fc tg' (wipeE r vs) (ds.drop (i + 1)) μ' = some m2 → W (i + 1) (mm - 1) H'' := fun {F' io' μ' H''} A e => ⟨by omega, by omega, F', io', μ', A, e⟩
    split at hl
    · refine hT r1 μ true μ1 e2 σ2 F3 io2 H' A3.st en4 _ fun F4 io4 H4 A4 => ?_
      rw [if_pos rfl]
      obtain ⟨⟨v, μ2⟩, e3, hl⟩ := bind_some hl
      dsimp only at hl
      obtain ⟨⟨d, μ3⟩, e4, hl⟩ := bind_some hl
      intro s0 H0 A cl fp
      refine hE s0 H0 A cl fp r1 μ1 v μ2 e3 σ2 F4 io4 H4 A4.st (en4.adv A4) _ fun y F5 io5 H5 A5 hy => ?_
      obtain ⟨F6, A6, iy⟩ := hy.down A5.st e4
      have A7 := ((A3.trans A4).trans A5).trans A6
      have ion7 : io5 n = Dd := (A7.ii n (by rw [hlen]; exact Nat.lt_succ_self n)).trans io0
      dsimp only at hl
      split at hl
      · rename_i acc ha
        split at hl
        · rename_i hz
          obtain ⟨_, xs', hx, kx⟩ := A6.st.cell n _ ha
          rw [ion7] at hx
          refine ⟨xs', hx, by rw [kx.length]; exact Nat.lt_of_lt_of_le hz (by decide), ?_⟩
          have M := Adv.mut A6.st ha (kx.append (.cons iy .nil))
          rw [ion7] at M
          exact fin (A7.trans M) hl
        · cases hl
      · cases hl
    · refine hT r1 μ false μ1 e2 σ2 F3 io2 H' A3.st en4 _ fun F4 io4 H4 A4 => ?_
      rw [if_neg Bool.false_ne_true]
      exact fin (A3.trans A4) hl
    · cases hl
  · have e : i = ds.length := by omega
    subst e
    refine .inl ⟨stop, ?_⟩
    rw [List.drop_length] at hl
    have e : μ = m2 := Option.some.inj hl
    subst e
    obtain ⟨_, xs', hx, kx⟩ := A2.st.cell n _ h3
    rw [ion] at hx
    have L := A2.st.last h3
    rw [ion] at L
    have AA : Adv X.K F io m F2 io2 (μ.take n) (delA Hc Dd) := by
      refine ⟨A1.ff.trans (A0.ff.trans A2.ff), fun j hj => ?_, ?_, L⟩
      · exact (((A1.trans A0).trans A2).ii j hj)
      · have := A1.ln
        rw [List.length_take]
        omega
    have := q Dd (.lst xs') F2 io2 (delA Hc Dd) AA (if_pos rfl) ⟨xs', rfl, kx⟩
    rw [upd_del hx] at this
    exact this
theorem comp_ok {b : Nat} (C : Cxt G cx k N sc X) {scope : Scope} {own : List (Str × Nat)} {tg it elt : Expr} {ifs : List Expr} {tg' : Tg} {fs : En → Mu → Option (List D × Mu)} {fc fe : FE} {tt : TT} {pos : Pos} {f : En → Mu → Option (Cell × Mu)}
    (hb : blkC N sc scope own = true) (ht : tgIn tg' (own.map (·.2)) = true) (hs : ∀ x, foldedSetIterable it X.env x = pure x) (hR : OkR X tg it fs) (dg : TrG N scope tg tg')
    (hPT : ∀ (s : Shared) (H : Hp) (A : Addr) (cl : List (Str × Addr)) (fp : List Addr), PTs (X.blk s H scope (compEnvC scope cl A X.env) fp) ifs tt)
    (hT : ∀ r m b m', fc r m = some (.t (.bool b), m') → ∀ (σ : L2.St) (F : Hp) (io : Nat → Addr) (H : Hp), Stt X.K F io m H → EnOk X.K F io m.length σ r → ∀ Q : Bool → Hp → Prop, (∀ F' io' H', Adv X.K F io m F' io' m' H' → Q b H') → tt σ H Q)
    (hE : ∀ (s : Shared) (H : Hp) (A : Addr) (cl : List (Str × Addr)) (fp : List Addr), OkE (X.blk s H scope (compEnvC scope cl A X.env) fp) elt fe)
    (hf : ∀ r m c m', f r m = some (c, m') → ∃ ds m1 m2 xs, fs r m = some (ds, m1) ∧ compLoop b m1.length fe fc tg' (wipeE r (own.map (·.2))) ds (m1 ++ [.lst [] false]) = some m2 ∧ m2[m1.length]? = some (.lst xs false) ∧ m2.length = m1.length + 1 ∧ c = .lst xs false ∧ m' = m2.take m1.length) :
    OkN X (.ListComp elt [⟨tg, it, ifs, 0⟩] scope pos) f := fun r m c m' hh => by
  obtain ⟨u, core⟩ := comp_core (b := b) C hb ht hs hR dg hPT hT hE hf r m c m' hh
  refine ⟨u, fun σ F io H st en Q q => ?_⟩
  have ok : BlkOk X.N X.env.scope scope own := by rw [C.hN, C.hsc]; exact blkOk_by hb
  exact PE.de (pe_lc (g := gOf X.K tg') C.calm (by rw [C.hN]; exact C.nd) cI ok (fun s H A cl fp => pg_of (C.blk s H A cl fp).hN C.nd C.calm (Sto.blk s H A cl fp) dg) hPT
    (fun s H A cl fp => ⟨fun pins s' _ _ _ I h => h s H A cl fp pins s' I⟩) hs) (core σ F io H st en Q q)
end
end TI
set_option maxHeartbeats 200000
set_option maxHeartbeats 2000000
namespace TI
open PySem PySem.Spec PyProof.Rows L2
section
variable {G : Sg} {cx : Nat → List Vl → Mu → Option (XR × Mu)} {k : Nat} {N : List Str} {sc : Scope} {X : Cx}
theorem in_tg {tg' : Tg} {vs : List Nat} (ht : tgIn tg' vs = true) : ∀ j, (match tg' with | .one i => j = i | .many is => j ∈ is) → j ∈ vs := fun j hj => by
  cases tg' with
  | one i => cases hj; simpa [tgIn] using ht
  | many is =>
    have := ht
    simp only [tgIn, List.all_eq_true] at this
    simpa using this j hj
theorem comp2_core {b : Nat} {scope : Scope} {own : List (Str × Nat)} {vs1 : List Nat} {tg it elt tg1 it1 : Expr} {tg' tg1' : Tg} {fs fs1 : En → Mu → Option (List D × Mu)} {fe : FE} {f : En → Mu → Option (Cell × Mu)}
    (ht : tgIn tg' (own.map (·.2)) = true) (ht1 : tgIn tg1' vs1 = true) (hR : OkR X tg it fs)
    (hR1 : ∀ (s : Shared) (H : Hp) (A : Addr) (cl : List (Str × Addr)) (fp : List Addr), OkR (X.blk s H scope (compEnvC scope cl A X.env) fp) tg1 it1 fs1)
    (hE : ∀ (s : Shared) (H : Hp) (A : Addr) (cl : List (Str × Addr)) (fp : List Addr), OkE (X.blk s H scope (compEnvC scope cl A X.env) fp) elt fe)
    (hf : ∀ r m c m', f r m = some (c, m') → ∃ ds m1 m2 xs, fs r m = some (ds, m1) ∧ comp2Loop b m1.length fs1 fe tg' tg1' (wipeE r (own.map (·.2))) vs1 ds (m1 ++ [.lst [] false]) = some m2 ∧ m2[m1.length]? = some (.lst xs false) ∧ m2.length = m1.length + 1 ∧ c = .lst xs false ∧ m' = m2.take m1.length) :
    ∀ r m c m', f r m = some (c, m') → Unf c ∧ ∀ (σ : L2.St) (F : Hp) (io : Nat → Addr) (H : Hp), Stt X.K F io m H → EnOk X.K F io m.length σ r → ∀ Q : VK,
      (∀ p o F' io' H', Adv X.K F io m F' io' m' H' → H' p = none → CellO X.K F' c o → Q (.ref p) (upd H' p o)) →
      tLc2 (fun σ H R => DI X tg it σ H R) (gOf X.K tg') tYes (fun σ H R => ∀ (s : Shared) (H0 : Hp) (A : Addr) (cl : List (Str × Addr)) (fp : List Addr), DI (X.blk s H0 scope (compEnvC scope cl A X.env) fp) tg1 it1 σ H R) (gOf X.K tg1') tYes
        (fun σ H Q => ∀ (s : Shared) (H0 : Hp) (A : Addr) (cl : List (Str × Addr)) (fp : List Addr), DE (X.blk s H0 scope (compEnvC scope cl A X.env) fp) elt σ H Q) (own.map (·.2)) vs1 σ H Q := by
  intro r m c m' hh
  obtain ⟨ds, m1, m2, xs, h1, h2, h3, h4, rfl, rfl⟩ := hf r m c m' hh
  refine ⟨rfl, fun σ F io H st en Q q => ?_⟩
  refine hR r m ds m1 h1 σ F io H st en _ fun J F1 io1 H1 A1 good => ?_
  intro Dd hD
  generalize hvs : own.map (·.2) = vs at *
  have A0 := Adv.cell (c := .lst [] false) A1.st hD ⟨[], rfl, .nil⟩ (fun ds b h => by rcases h with h | ⟨es, h⟩ <;> cases h; rfl)
  generalize hn : m1.length = n at *
  have io0 : nio io1 n Dd n = Dd := if_pos rfl
  have hlen : (m1 ++ [Cell.lst [] false]).length = n + 1 := by simp [hn]
  let W : Nat → Nat → Hp → Prop := fun i mm Hc => mm = ds.length - i ∧ i ≤ ds.length ∧ ∃ F' io' μ, Adv X.K F1 (nio io1 n Dd) (m1 ++ [.lst [] false]) F' io' μ Hc ∧ comp2Loop b n fs1 fe tg' tg1' (wipeE r vs) vs1 (ds.drop i) μ = some m2
  refine ⟨W, ⟨ds.length, rfl, Nat.zero_le _, F1, nio io1 n Dd, _, Adv.refl A0.st, h2⟩, fun i mm Hc w => ?_⟩
  obtain ⟨hm, hi, F2, io2, μ, A2, hl⟩ := w
  have ion : io2 n = Dd := (A2.ii n (by rw [hlen]; exact Nat.lt_succ_self n)).trans io0
  obtain ⟨items, stop⟩ := good F2 Hc (A0.ff.trans A2.ff) A2.st.sub
  by_cases hd : i < ds.length
  · refine .inr ⟨?_, ?_⟩
    · exact (items i _ (List.getElem?_eq_getElem hd)).1
    refine ⟨W (i + 1) (mm - 1), fun H' w' => ⟨mm - 1, by omega, w'⟩, fun x H' hy => ?_⟩
    obtain ⟨F3, gr, ix⟩ := (items i _ (List.getElem?_eq_getElem hd)).2 x H' hy
    rw [List.drop_eq_getElem_cons hd] at hl
    unfold comp2Loop at hl
    obtain ⟨r1, e1, hl⟩ := bind_some hl
    obtain ⟨⟨es, μ1⟩, e2, hl⟩ := bind_some hl
    dsimp only at hl
    obtain ⟨μ2, e3, hl⟩ := bind_some hl
    have A3 := A2.trans (Adv.grow A2.st gr)
    have en3 : EnOk X.K F3 io2 μ.length (wipe σ vs) (wipeE r vs) := (en.wipe vs).adv ((A1.trans A0).trans A3)
    refine g_ok (n := μ.length) (io := io2) (fun σ2 => wipe σ2 vs = wipe σ vs) A3.st.sub e1 ix en3 wipe_wipe (fun j σ2 v hj hw => ?_) fun σ2 hw2 en4 => ?_
    · rw [wipe_set (in_tg ht j hj)]; exact hw
    refine ⟨hw2, ?_⟩
    unfold tYes
    dsimp only
    rw [if_pos rfl]
    intro s0 H0 A cl fp
    refine hR1 s0 H0 A cl fp r1 μ es μ1 e2 σ2 F3 io2 H' A3.st en4 _ fun J1 F4 io4 H4 A4 good1 => ?_
    let W1 : Nat → Nat → Hp → Prop := fun j kk Hc => kk = es.length - j ∧ j ≤ es.length ∧ ∃ F' io' μ', Adv X.K F4 io4 μ1 F' io' μ' Hc ∧ compLoop b n fe (fun _ m => some (.t (.bool true), m)) tg1' (wipeE r1 vs1) (es.drop j) μ' = some μ2
    have A34 := A3.trans A4
    refine ⟨W1, ⟨es.length, rfl, Nat.zero_le _, F4, io4, μ1, Adv.refl A4.st, e3⟩, fun j kk Hc w => ?_⟩
    obtain ⟨hm1, hi1, F5, io5, μ5, A5, hl1⟩ := w
    have A35 := A34.trans A5
    have ion5 : io5 n = Dd := (A35.ii n (by rw [hlen]; exact Nat.lt_succ_self n)).trans io0
    obtain ⟨items1, stop1⟩ := good1 F5 Hc A5.ff A5.st.sub
    by_cases hd1 : j < es.length
    · refine .inr ⟨(items1 j _ (List.getElem?_eq_getElem hd1)).1, ?_⟩
      refine ⟨W1 (j + 1) (kk - 1), fun H' w' => ⟨kk - 1, by omega, w'⟩, fun x1 H6 hy1 => ?_⟩
      obtain ⟨F6, gr1, ix1⟩ := (items1 j _ (List.getElem?_eq_getElem hd1)).2 x1 H6 hy1
      rw [List.drop_eq_getElem_cons hd1] at hl1
      unfold compLoop at hl1
      obtain ⟨r2, e4, hl1⟩ := bind_some hl1
      have A6 := A5.trans (Adv.grow A5.st gr1)
      have en6 : EnOk X.K F6 io5 μ5.length (wipe σ2 vs1) (wipeE r1 vs1) := (en4.wipe vs1).adv (A4.trans A6)
      refine g_ok (n := μ5.length) (io := io5) (fun σ3 => wipe σ3 vs1 = wipe σ2 vs1) A6.st.sub e4 ix1 en6 wipe_wipe (fun j σ3 v hj hw => ?_) fun σ3 hw3 en7 => ?_
      · rw [wipe_set (in_tg ht1 j hj)]; exact hw
      refine ⟨hw3, ?_⟩
      rw [if_pos rfl]
      have hl1 : (do
          let (v, m) ← fe r2 μ5
          let (d, m) ← down b m v
          match m[n]? with
          | some (.lst xs false) => if xs.length < 1000000 then compLoop b n fe (fun _ m => some (.t (.bool true), m)) tg1' (wipeE r1 vs1) (es.drop (j + 1)) (m.set n (.lst (xs ++ [d]) false)) else none
          | _ => none) = some μ2 := hl1
      obtain ⟨⟨v, μ6⟩, e5, hl1⟩ := bind_some hl1
      obtain ⟨⟨d, μ7⟩, e6, hl1⟩ := bind_some hl1
      dsimp only at hl1
      intro s1 H01 A' cl1 fp1
      refine hE s1 H01 A' cl1 fp1 r2 μ5 v μ6 e5 σ3 F6 io5 H6 A6.st en7 _ fun y F7 io7 H7 A7 hy => ?_
      obtain ⟨F8, A8, iy⟩ := hy.down A7.st e6
      have A68 := (A6.trans A7).trans A8
      have A38 := A34.trans A68
      have ion8 : io7 n = Dd := (A38.ii n (by rw [hlen]; exact Nat.lt_succ_self n)).trans io0
      split at hl1
      · rename_i acc ha
        split at hl1
        · rename_i hz
          obtain ⟨_, xs', hx, kx⟩ := A8.st.cell n _ ha
          rw [ion8] at hx
          refine ⟨xs', hx, by rw [kx.length]; exact Nat.lt_of_lt_of_le hz (by decide), ?_⟩
          have M := Adv.mut A8.st ha (kx.append (.cons iy .nil))
          rw [ion8] at M
          exact ⟨by omega, by omega, _, _, _, A68.trans M, hl1⟩
        · cases hl1
      · cases hl1
    · have e : j = es.length := by omega
      subst e
      refine .inl ⟨stop1, ?_⟩
      rw [List.drop_length] at hl1
      have e : μ5 = μ2 := Option.some.inj hl1
      subst e
      exact ⟨by omega, by omega, _, _, _, A35, hl⟩
  · have e : i = ds.length := by omega
    subst e
    refine .inl ⟨stop, ?_⟩
    rw [List.drop_length] at hl
    have e : μ = m2 := Option.some.inj hl
    subst e
    obtain ⟨_, xs', hx, kx⟩ := A2.st.cell n _ h3
    rw [ion] at hx
    have L := A2.st.last h3
    rw [ion] at L
    have AA : Adv X.K F io m F2 io2 (μ.take n) (delA Hc Dd) := by
      refine ⟨A1.ff.trans (A0.ff.trans A2.ff), fun j hj => ?_, ?_, L⟩
      · exact (((A1.trans A0).trans A2).ii j hj)
      · have := A1.ln
        rw [List.length_take]
        omega
    have := q Dd (.lst xs') F2 io2 (delA Hc Dd) AA (if_pos rfl) ⟨xs', rfl, kx⟩
    rw [upd_del hx] at this
    exact this
end
end TI
set_option maxHeartbeats 200000
set_option maxHeartbeats 2000000
namespace TI
open PySem PySem.Spec PyProof.Rows L2
section
variable {K : PySem.W.Frag} {F : Hp}
theorem good_list {a : Addr} {xs : List V} {ds : List D} (h : SqL K F a xs) (k : IsL K F xs ds) : Good K F (Itl K a) ds := fun F2 H2 l1 l2 => by
  have hq : SqL K H2 a xs := (l1.trans l2).sl h
  refine ⟨fun i d e => ?_, xs, hq, by rw [k.length]; exact Nat.le_refl _⟩
  obtain ⟨v, hv, iv⟩ := k.get e
  refine ⟨⟨xs, v, hq, hv⟩, fun x H3 hy => ?_⟩
  obtain ⟨rfl, hy⟩ := hy
  have := hy xs hq
  rw [hv] at this
  cases this
  exact ⟨F2, Grow.refl l2, iv.mono l1⟩
theorem good_tup {a : Addr} {xs : List V} {ds : List D} (h : SqT K F a xs) (k : IsL K F xs ds) : Good K F (Itt K a) ds := fun F2 H2 l1 l2 => by
  have hq : SqT K H2 a xs := (l1.trans l2).st h
  refine ⟨fun i d e => ?_, xs, hq, by rw [k.length]; exact Nat.le_refl _⟩
  obtain ⟨v, hv, iv⟩ := k.get e
  refine ⟨⟨xs, v, hq, hv⟩, fun x H3 hy => ?_⟩
  obtain ⟨rfl, hy⟩ := hy
  have := hy xs hq
  rw [hv] at this
  cases this
  exact ⟨F2, Grow.refl l2, iv.mono l1⟩
theorem good_str {x : Str} : Good K F (Its x) (x.cps.toList.map fun c => .str ⟨#[c]⟩) := fun F2 H2 l1 l2 => by
  refine ⟨fun i d e => ?_, by simp [Its]⟩
  rw [List.getElem?_map] at e
  cases q : x.cps.toList[i]? with
  | none => rw [q] at e; cases e
  | some c =>
    rw [q] at e
    cases e
    have hc : x.cps[i]? = some c := by rw [← Array.getElem?_toList]; exact q
    refine ⟨(Array.getElem?_eq_some_iff.mp hc).1, fun y H3 hy => ?_⟩
    obtain ⟨rfl, c', h1, rfl⟩ := hy
    rw [hc] at h1
    cases h1
    exact ⟨F2, Grow.refl l2, .str _⟩
theorem good_range {lo : Int} {n : Nat} : Good K F (Itr lo n) (rangeD lo n) := fun F2 H2 l1 l2 => by
  refine ⟨fun i d e => ?_, ?_⟩
  · unfold rangeD at e
    rw [List.getElem?_map] at e
    cases q : (List.range n)[i]? with
    | none => rw [q] at e; cases e
    | some j =>
      rw [q] at e
      cases e
      obtain ⟨hi, hj⟩ := List.getElem?_eq_some_iff.mp q
      rw [List.getElem_range] at hj
      subst hj
      refine ⟨show i < n by simpa using hi, fun x H3 hy => ?_⟩
      obtain ⟨rfl, rfl⟩ := hy
      exact ⟨F2, Grow.refl l2, .int _⟩
  · show n ≤ (rangeD lo n).length
    simp [rangeD]
theorem good_enum {a : Addr} {xs : List V} {ds : List D} (h : SqL K F a xs) (k : IsL K F xs ds) : Good K F (Ite K a) (enumD ds) := fun F2 H2 l1 l2 => by
  have hq : SqL K H2 a xs := (l1.trans l2).sl h
  have hl : (enumD ds).length = ds.length := by simp [enumD]
  refine ⟨fun i d e => ?_, xs, hq, by rw [k.length, hl]; exact Nat.le_refl _⟩
  have hi : i < ds.length := by rw [← hl]; exact (List.getElem?_eq_some_iff.mp e).1
  obtain ⟨v, hv, iv⟩ := k.get (List.getElem?_eq_getElem hi)
  have hd : d = .tuple [.int (i : Nat), ds[i]] := by
    obtain ⟨h1, h2⟩ := List.getElem?_eq_some_iff.mp e
    rw [← h2]
    simp [enumD]
  refine ⟨⟨xs, v, hq, hv⟩, fun x H3 hy => ?_⟩
  obtain ⟨T, y, rfl, hT, rfl, hy⟩ := hy
  have := hy xs hq
  rw [hv] at this
  cases this
  refine ⟨_, Grow.new l2 hT, ?_⟩
  rw [hd]
  exact .tup (SqT.of upd_same) (.cons (.int _) (.cons ((iv.mono l1).mono (Le.new (nof l2 hT))) .nil))
theorem good_zip {a c : Addr} {xs ys : List V} {ds es : List D} (h : SqL K F a xs) (k : IsL K F xs ds) (h' : SqL K F c ys) (k' : IsL K F ys es) (e0 : ds.length = es.length) : Good K F (Itz K a c) (zipD ds es) := fun F2 H2 l1 l2 => by
  have hq : SqL K H2 a xs := (l1.trans l2).sl h
  have hq' : SqL K H2 c ys := (l1.trans l2).sl h'
  have hl : (zipD ds es).length = ds.length := by simp [zipD, e0]
  refine ⟨fun i d e => ?_, xs, ys, hq, hq', .inl (by rw [k.length, hl]; exact Nat.le_refl _)⟩
  have hi : i < ds.length := by rw [← hl]; exact (List.getElem?_eq_some_iff.mp e).1
  obtain ⟨v, hv, iv⟩ := k.get (List.getElem?_eq_getElem hi)
  obtain ⟨v', hv', iv'⟩ := k'.get (List.getElem?_eq_getElem (show i < es.length by omega))
  have hd : d = .tuple [ds[i], es[i]] := by
    obtain ⟨h1, h2⟩ := List.getElem?_eq_some_iff.mp e
    rw [← h2]
    simp [zipD]
  refine ⟨⟨xs, ys, v, v', hq, hq', hv, hv'⟩, fun x H3 hy => ?_⟩
  obtain ⟨T, y, z, rfl, hT, rfl, hy, hz⟩ := hy
  have := hy xs hq
  rw [hv] at this
  cases this
  have := hz ys hq'
  rw [hv'] at this
  cases this
  refine ⟨_, Grow.new l2 hT, ?_⟩
  rw [hd]
  have nw := nof l2 hT
  exact .tup (SqT.of upd_same) (.cons ((iv.mono l1).mono (Le.new nw)) (.cons ((iv'.mono l1).mono (Le.new nw)) .nil))
end
section
variable {G : Sg} {cx : Nat → List Vl → Mu → Option (XR × Mu)} {k : Nat} {X : Cx} {b : Nat}
theorem hpl_of {N : List Str} {sc : Scope} : ∀ {es : List Expr} {es' : Exs}, TrL G N sc es es' → ∀ env pos, (backTo pos (starEach es env)).any (·.1) = false
  | _, _, .nil, env, pos => rfl
  | _, _, .cons (e := e) (es := es) h _ d, env, pos => by
    rw [h env]
    show (false || (backTo pos (starEach es env)).any (·.1)) = false
    rw [hpl_of d env pos]; rfl
theorem cons_ok {e : Expr} {es : List Expr} {e' : Ex} {es' : Exs} (hs : plainStar e es) (h1 : OkE X e (evalE (valC cx) b e')) (h2 : OkL X es (evalL (valC cx) b es')) : OkL X (e :: es) (evalL (valC cx) b (.cons e' es')) := by
  intro r m vls m' hh σ F io H st en Q q
  obtain ⟨v, ws, m1, rfl, g1, g2⟩ := l_inv hh
  refine PA.da (pa_cons (cE (X := X)) (cA (X := X)) (hs _)) ?_
  refine h1 r m v m1 g1 σ F io H st en _ fun x F1 io1 H1 A1 hx => ?_
  refine h2 r m1 ws m' g2 σ F1 io1 H1 A1.st (en.adv A1) _ fun xs F2 io2 H2 A2 hxs => ?_
  exact q _ F2 io2 H2 (A1.trans A2) (.cons (hx.adv A2) hxs)
theorem consD_ok {e : Expr} {es : List Expr} {e' : Ex} {es' : Exs} (hs : plainStar e es) (h1 : OkE X e (evalE (valC cx) b e')) (h2 : OkD X es (evalD (valC cx) b es')) : OkD X (e :: es) (evalD (valC cx) b (.cons e' es')) := by
  intro r m ds m' hh σ F io H st en Q q
  unfold evalD at hh
  obtain ⟨⟨v, m1⟩, g1, hh⟩ := bind_some hh
  obtain ⟨⟨d, m2⟩, g2, hh⟩ := bind_some hh
  obtain ⟨⟨es0, m3⟩, g3, hh⟩ := bind_some hh
  cases hh
  refine PA.da (pa_cons (cE (X := X)) (cA (X := X)) (hs _)) ?_
  refine h1 r m v m1 g1 σ F io H st en _ fun x F1 io1 H1 A1 hx => ?_
  obtain ⟨F2, A2, ix⟩ := hx.down A1.st g2
  have A12 := A1.trans A2
  refine h2 r m2 es0 m' g3 σ F2 io1 H1 A2.st (en.adv A12) _ fun xs F3 io3 H3 A3 hxs => ?_
  exact q _ F3 io3 H3 (A12.trans A3) (.cons (ix.mono A3.ff) hxs)
end
end TI
set_option maxHeartbeats 200000
set_option maxHeartbeats 2000000
namespace TI
open PySem PySem.Spec PyProof.Rows L2
section
variable {G : Sg} {cx : Nat → List Vl → Mu → Option (XR × Mu)} {k : Nat}
section
variable {X : Cx} {b : Nat} {N : List Str} {sc : Scope}
theorem opN_unf {o : Op} {ds : List D} {c : Cell} (h : opN o ds = some c) : Unf c := by
  cases o <;> first | (cases h; done) | skip
  case add =>
    replace h : nAdd ds = some c := h
    unfold nAdd at h
    split at h
    · split at h
      · cases h; exact rfl
      · cases h
    · cases h
  case list =>
    replace h : nList ds = some c := h
    unfold nList at h
    split at h <;> first | (cases h; done) | (cases h; exact rfl)
  case slRev =>
    replace h : nRev ds = some c := h
    unfold nRev at h
    split at h <;> first | (cases h; done) | (cases h; exact rfl)
  case dictP =>
    replace h : nDict ds = some c := h
    unfold nDict at h
    split at h <;> first | (cases h; done) | skip
    split at h <;> first | (cases h; done) | (cases h; exact rfl)
  all_goals
    replace h : nCut _ _ ds = some c := h
    unfold nCut at h
    split at h <;> first | (cases h; done) | skip
    all_goals (repeat' split at h) <;> first | (cases h; done) | (cases h; exact rfl)
theorem fin_op {o : Op} {K : PySem.W.Frag} {F H : Hp} {io : Nat → Addr} {m : Mu} {ds : List D} {vl : Vl} {Q : VK} {P : Prop} (st : Stt K F io m H) (q : ∀ v F' io' H', Adv K F io m F' io' m H' → VlOk K F' io' m.length v vl → Q v H')
    (h : (∃ d, opF o ds = some d ∧ vl = .t d) ∨ ∃ c, opN o ds = some c ∧ vl = .t c.data) (h1 : ∀ d, opF o ds = some d → Res K F H d Q → P) (h2 : ∀ c, opN o ds = some c → ResN K F H c Q → P) : P := by
  rcases h with ⟨d, e, rfl⟩ | ⟨c, e, rfl⟩
  · exact h1 d e (post_res st q)
  · exact h2 c e (Res.frz st.sub (post_res st q))
theorem bin_ok {x y : Expr} {x' y' : Ex} {bo : Operator} {o : Op} {p : Pos} (hb : bopOf bo = some o) (hx : OkE X x (evalE (valC cx) b x')) (hy : OkE X y (evalE (valC cx) b y')) : OkE X (.BinOp x bo y p) (evalE (valC cx) b (.op o (.cons x' (.cons y' .nil)))) := by
  intro r m vl m' hh σ F io H st en Q q
  obtain ⟨vs, ds, h1, h2, h3⟩ := op_inv hh
  obtain ⟨v, w, m1, rfl, g1, g2⟩ := l_two h1
  obtain ⟨d1, d2, rfl, e1, e2⟩ := views_two h2
  refine DE.bin (two_ok hx hy g1 g2 st en fun vx vy F' io' H' A hvx hvy => ?_)
  intro pins s σ' v u I rx ry
  have wx := hvx.vw A.st e1
  have wy := hvy.vw A.st e2
  refine fin_op (Q := Q) A.st (fun v F2 io2 H2 A2 hv => q v F2 io2 H2 (A.trans A2) hv) h3 (fun d e rs => ?_) (fun c e rs => ?_)
  · exact bin_val hb A.st.sub I rx ry wx wy e rs
  · exact bin_new hb A.st.sub I rx ry wx wy e rs
theorem binN_ok {x y : Expr} {x' y' : Ex} {bo : Operator} {o : Op} {p : Pos} (hb : bopOf bo = some o) (hx : OkE X x (evalE (valC cx) b x')) (hy : OkE X y (evalE (valC cx) b y')) : OkN X (.BinOp x bo y p) (evalN (valC cx) b (.op o (.cons x' (.cons y' .nil)))) := by
  intro r m c m' hh
  obtain ⟨vs, ds, h1, h2, h3⟩ := nop_inv hh
  refine ⟨opN_unf h3, fun σ F io H st en Q q => ?_⟩
  obtain ⟨v, w, m1, rfl, g1, g2⟩ := l_two h1
  obtain ⟨d1, d2, rfl, e1, e2⟩ := views_two h2
  refine DE.bin (two_ok hx hy g1 g2 st en fun vx vy F' io' H' A hvx hvy => ?_)
  intro pins s σ' v u I rx ry
  exact bin_new hb A.st.sub I rx ry (hvx.vw A.st e1) (hvy.vw A.st e2) h3 fun p o hp ho => q p o F' io' H' A hp ho
theorem opF_cmp {bo : CmpOp} {o : Op} (h : cmpOf bo = some o) {ds : List D} {d : D} (e : opF o ds = some d) : ∃ k, d = .bool k := by
  have f2 : ∀ {g : D → D → Option D}, (∀ a c d, g a c = some d → ∃ k, d = .bool k) → f2 g ds = some d → ∃ k, d = .bool k := fun {g} hg e => by
    unfold TI.f2 at e
    split at e
    · exact hg _ _ _ e
    · cases e
  have fi : ∀ {g : Int → Int → Option D}, (∀ a c d, g a c = some d → ∃ k, d = .bool k) → fII g ds = some d → ∃ k, d = .bool k := fun {g} hg e => by
    unfold TI.fII at e
    split at e
    · exact hg _ _ _ e
    · cases e
  have inn : ∀ {neg}, ∀ a c d, fIn neg a c = some d → ∃ k, d = .bool k := fun {neg} a c d e => by
    unfold fIn at e
    split at e
    · obtain ⟨_, rfl⟩ := ite_some e; exact ⟨_, rfl⟩
    · split at e
      · cases e; exact ⟨_, rfl⟩
      · cases e
    · cases e
  have eqs : ∀ {neg}, ∀ a c d, fEq neg a c = some d → ∃ k, d = .bool k := fun {neg} a c d e => by
    unfold fEq at e
    split at e
    · cases e; exact ⟨_, rfl⟩
    · cases e; exact ⟨_, rfl⟩
    · split at e
      · cases e; exact ⟨_, rfl⟩
      · obtain ⟨_, rfl⟩ := ite_some e; exact ⟨_, rfl⟩
  cases bo <;> first | (cases h; done) | skip
  all_goals cases h
  · exact f2 eqs e
  · exact f2 eqs e
  · exact fi (fun a c d e => by cases e; exact ⟨_, rfl⟩) e
  · exact fi (fun a c d e => by cases e; exact ⟨_, rfl⟩) e
  · exact fi (fun a c d e => by cases e; exact ⟨_, rfl⟩) e
  · exact fi (fun a c d e => by cases e; exact ⟨_, rfl⟩) e
  · exact f2 inn e
  · exact f2 inn e
theorem opN_cmp {bo : CmpOp} {o : Op} (h : cmpOf bo = some o) {ds : List D} {c : Cell} (e : opN o ds = some c) : False := by
  cases bo <;> first | (cases h; done) | skip
  all_goals (cases h; cases e)
theorem cmp_ok (hu : X.A.units + 70 < cLine) {x y : Expr} {x' y' : Ex} {bo : CmpOp} {o : Op} {p : Pos} (hb : cmpOf bo = some o) (hm : behindInMarks bo y = false) (hx : OkE X x (evalE (valC cx) b x')) (hy : OkE X y (evalE (valC cx) b y')) :
    OkE X (.Compare x [bo] [y] p) (evalE (valC cx) b (.op o (.cons x' (.cons y' .nil)))) := by
  intro r m vl m' hh σ F io H st en Q q
  obtain ⟨vs, ds, h1, h2, h3⟩ := op_inv hh
  obtain ⟨v, w, m1, rfl, g1, g2⟩ := l_two h1
  obtain ⟨d1, d2, rfl, e1, e2⟩ := views_two h2
  refine DE.cmp hm (two_ok hx hy g1 g2 st en fun vx vy F' io' H' A hvx hvy => ?_)
  intro pins s σ' v u I rx ry
  refine fin_op (Q := Q) A.st (fun v F2 io2 H2 A2 hv => q v F2 io2 H2 (A.trans A2) hv) h3 (fun d e rs => ?_) (fun c e rs => (opN_cmp hb e).elim)
  exact cmp_val hu hb A.st.sub I rx ry (hvx.vw A.st e1) (hvy.vw A.st e2) e rs
theorem cmpT_ok (hu : X.A.units + 70 < cLine) {x y : Expr} {x' y' : Ex} {bo : CmpOp} {o : Op} {p : Pos} (hb : cmpOf bo = some o) (hm : behindInMarks bo y = false) (hx : OkE X x (evalE (valC cx) b x')) (hy : OkE X y (evalE (valC cx) b y')) :
    OkT X (.Compare x [bo] [y] p) (evalE (valC cx) b (.op o (.cons x' (.cons y' .nil)))) := by
  intro r m k m' hh σ F io H st en Q q
  obtain ⟨vs, ds, h1, h2, h3⟩ := op_inv hh
  obtain ⟨v, w, m1, rfl, g1, g2⟩ := l_two h1
  obtain ⟨d1, d2, rfl, e1, e2⟩ := views_two h2
  refine DT.cmp hm (two_ok hx hy g1 g2 st en fun vx vy F' io' H' A hvx hvy => ?_)
  intro pins s σ' v u I rx ry
  refine fin_op (Q := fun z H3 => ∃ k, z = .bl k ∧ Q k H3) A.st (fun v F2 io2 H2 A2 hv => ⟨k, by cases hv; rfl, q F2 io2 H2 (A.trans A2)⟩) h3 (fun d e rs => ?_) (fun c e rs => (opN_cmp hb e).elim)
  exact cmp_val hu hb A.st.sub I rx ry (hvx.vw A.st e1) (hvy.vw A.st e2) e rs
theorem isc_core {bo : CmpOp} {c : PySem.Const} {o : Op} (hb : isOf bo c = some o) {x : Expr} {x' : Ex} {r : En} {m m' : Mu} {vl : Vl} (hh : evalE (valC cx) b (.op o (.cons x' .nil)) r m = some (vl, m')) :
    ∃ v d, evalE (valC cx) b x' r m = some (v, m') ∧ view m' v = some d ∧ ∃ k, vl = .t (.bool k) ∧ ∀ {K : PySem.W.Frag} {F H : Hp} {vx : V} {j : Nat} {q : Pos} {a : Expr} {σ : L2.St} {Q : VK}, Vw K F H vx d → X.K = K → Q (.bl k) H →
      ∃ cv : V, ((∃ b, c = .bool b ∧ cv = .bl b) ∨ (c = .none ∧ cv = .non)) ∧ r2c X (compareOp bo) vx cv H Q := by
  obtain ⟨vs, ds, h1, h2, h3⟩ := op_inv hh
  obtain ⟨v, rfl, g1⟩ := l_one h1
  obtain ⟨d, rfl, e1⟩ := views_one h2
  refine ⟨v, d, g1, e1, ?_⟩
  cases c <;> cases bo <;> first | (cases hb; done) | skip
  case none.Is =>
    cases hb
    rcases h3 with ⟨z, e, rfl⟩ | ⟨z, e, _⟩
    · cases e
      exact ⟨isNone d, rfl, fun hv hK q => by
        subst hK
        exact ⟨.non, .inr ⟨rfl, rfl⟩, fun pins s σ v u I rx ry => op_isN pins s σ _ _ _ v u _ I rx ry ⟨rfl, by rw [isN_dec hv]; exact q⟩⟩⟩
    · cases e
  case none.IsNot =>
    cases hb
    rcases h3 with ⟨z, e, rfl⟩ | ⟨z, e, _⟩
    · cases e
      exact ⟨!isNone d, rfl, fun hv hK q => by
        subst hK
        exact ⟨.non, .inr ⟨rfl, rfl⟩, fun pins s σ v u I rx ry => op_notN pins s σ _ _ _ v u _ I rx ry ⟨rfl, by rw [isN_dec hv]; exact q⟩⟩⟩
    · cases e
  case bool.Is b =>
    cases hb
    rcases h3 with ⟨z, e, rfl⟩ | ⟨z, e, _⟩
    · replace e : fB _ [d] = some z := e
      unfold fB at e
      split at e
      · rename_i k hk
        cases hk
        cases e
        exact ⟨decide (k = b), rfl, fun hv hK q => by
          subst hK
          have := hv.bool
          subst this
          exact ⟨.bl b, .inl ⟨b, rfl, rfl⟩, fun pins s σ v u I rx ry => op_isBl pins s σ _ _ _ v u _ I rx ry ⟨k, b, rfl, rfl, q⟩⟩⟩
      · cases e
    · cases e
  case bool.IsNot b =>
    cases hb
    rcases h3 with ⟨z, e, rfl⟩ | ⟨z, e, _⟩
    · replace e : fB _ [d] = some z := e
      unfold fB at e
      split at e
      · rename_i k hk
        cases hk
        cases e
        exact ⟨!decide (k = b), rfl, fun hv hK q => by
          subst hK
          have := hv.bool
          subst this
          exact ⟨.bl b, .inl ⟨b, rfl, rfl⟩, fun pins s σ v u I rx ry => op_isnot_bl pins s σ _ _ _ v u _ I rx ry ⟨k, b, rfl, rfl, q⟩⟩⟩
      · cases e
    · cases e
theorem DE.const {c : PySem.Const} {cv : V} {j : Nat} {p : Pos} {σ : L2.St} {H : Hp} {Q : VK} (h : (∃ b, c = .bool b ∧ cv = .bl b) ∨ (c = .none ∧ cv = .non)) (q : Q cv H) : DE X (.Constant c j p) σ H Q := by
  rcases h with ⟨b, rfl, rfl⟩ | ⟨rfl, rfl⟩
  · exact PE.de pe_bl q
  · exact PE.de pe_non q
theorem nob {bo : CmpOp} {c : PySem.Const} {o : Op} (hb : isOf bo c = some o) (e : Expr) : behindInMarks bo e = false := by
  refine nobehind e ?_ ?_ <;> (intro h; subst h; cases c <;> cases hb)
theorem isc_ok {bo : CmpOp} {c : PySem.Const} {o : Op} {j : Nat} {q p : Pos} (hb : isOf bo c = some o) {x : Expr} {x' : Ex} (hx : OkE X x (evalE (valC cx) b x')) : OkE X (.Compare x [bo] [.Constant c j q] p) (evalE (valC cx) b (.op o (.cons x' .nil))) := by
  intro r m vl m' hh σ F io H st en Q k
  obtain ⟨v, d, g1, e1, kk, rfl, f⟩ := isc_core (X := X) (x := x) hb hh
  refine DE.cmp (nob hb _) ?_
  refine hx r m v m' g1 σ F io H st en _ fun vx F' io' H' A hvx => ?_
  obtain ⟨cv, h1, h2⟩ := f (j := j) (q := q) (a := x) (σ := σ) (Q := Q) (hvx.vw A.st e1) rfl (k _ F' io' H' A (.bl _))
  exact DE.const h1 h2
theorem iscT_ok {bo : CmpOp} {c : PySem.Const} {o : Op} {j : Nat} {q p : Pos} (hb : isOf bo c = some o) {x : Expr} {x' : Ex} (hx : OkE X x (evalE (valC cx) b x')) : OkT X (.Compare x [bo] [.Constant c j q] p) (evalE (valC cx) b (.op o (.cons x' .nil))) := by
  intro r m kb m' hh σ F io H st en Q k
  obtain ⟨v, d, g1, e1, kk, hk, f⟩ := isc_core (X := X) (x := x) hb hh
  cases hk
  refine DT.cmp (nob hb _) ?_
  refine hx r m v m' g1 σ F io H st en _ fun vx F' io' H' A hvx => ?_
  obtain ⟨cv, h1, h2⟩ := f (j := j) (q := q) (a := x) (σ := σ) (Q := fun z H3 => ∃ k, z = .bl k ∧ Q k H3) (hvx.vw A.st e1) rfl ⟨kb, rfl, k F' io' H' A⟩
  exact DE.const h1 h2
theorem neg_ok {x : Expr} {x' : Ex} {p : Pos} (hx : OkE X x (evalE (valC cx) b x')) : OkE X (.UnaryOp .USub x p) (evalE (valC cx) b (.op .neg (.cons x' .nil))) := by
  intro r m vl m' hh σ F io H st en Q q
  obtain ⟨vs, ds, h1, h2, h3⟩ := op_inv hh
  obtain ⟨v, rfl, g1⟩ := l_one h1
  obtain ⟨d, rfl, e1⟩ := views_one h2
  refine DE.un (hx r m v m' g1 σ F io H st en _ fun vx F' io' H' A hvx => ?_)
  rcases h3 with ⟨z, e, rfl⟩ | ⟨z, e, _⟩
  · replace e : fI _ [d] = some z := e
    unfold fI at e
    split at e
    · rename_i i hi
      cases hi
      cases e
      have := (hvx.vw A.st e1).int
      subst this
      exact fun pins s σ v I rx => un_neg pins s σ _ _ v _ I rx ⟨i, rfl, q _ F' io' H' A (.int _)⟩
    · cases e
  · cases e
theorem not_inv {x' : Ex} {r : En} {m m' : Mu} {vl : Vl} (hh : evalE (valC cx) b (.op .not (.cons x' .nil)) r m = some (vl, m')) : ∃ v k, evalE (valC cx) b x' r m = some (v, m') ∧ view m' v = some (.bool k) ∧ vl = .t (.bool (!k)) := by
  obtain ⟨vs, ds, h1, h2, h3⟩ := op_inv hh
  obtain ⟨v, rfl, g1⟩ := l_one h1
  obtain ⟨d, rfl, e1⟩ := views_one h2
  rcases h3 with ⟨z, e, rfl⟩ | ⟨z, e, _⟩
  · replace e : fB _ [d] = some z := e
    unfold fB at e
    split at e
    · rename_i k hk
      cases hk
      cases e
      exact ⟨v, k, g1, e1, rfl⟩
    · cases e
  · cases e
theorem not_ok {x : Expr} {x' : Ex} {p : Pos} (hx : OkE X x (evalE (valC cx) b x')) : OkE X (.UnaryOp .Not x p) (evalE (valC cx) b (.op .not (.cons x' .nil))) := by
  intro r m vl m' hh σ F io H st en Q q
  obtain ⟨v, k, g1, e1, rfl⟩ := not_inv hh
  refine PE.de (pe_not (cE (X := X))) (hx r m v m' g1 σ F io H st en _ fun vx F' io' H' A hvx => ?_)
  have := (hvx.vw A.st e1).bool
  exact ⟨k, this, q _ F' io' H' A (.bl _)⟩
theorem view_bool {m : Mu} {v : Vl} {k : Bool} (h : view m v = some (.bool k)) : v = .t (.bool k) := by
  cases v with
  | t d => cases h; rfl
  | loc n =>
    replace h : (m[n]?).map Cell.data = some (.bool k) := h
    cases q : m[n]? with
    | none => rw [q] at h; cases h
    | some c =>
      rw [q] at h
      cases c <;> cases h
  | er c x => cases h
  | tv xs => cases h
theorem notT_ok {x : Expr} {x' : Ex} {p : Pos} (hx : OkT X x (evalE (valC cx) b x')) : OkT X (.UnaryOp .Not x p) (evalE (valC cx) b (.op .not (.cons x' .nil))) := by
  intro r m kb m' hh σ F io H st en Q q
  obtain ⟨v, k, g1, e1, hk⟩ := not_inv hh
  cases hk
  have := view_bool e1
  subst this
  exact PT.dt (pt_not (cT (X := X))) (hx r m k m' g1 σ F io H st en _ fun F' io' H' A => q F' io' H' A)
theorem val_ok {x : Expr} {x' : Ex} (he : plainTest x) (hx : OkE X x (evalE (valC cx) b x')) : OkT X x (evalE (valC cx) b x') := by
  intro r m kb m' hh σ F io H st en Q q
  exact PT.dt (pt_val (cE (X := X)) (he _)) (hx r m _ m' hh σ F io H st en _ fun vx F' io' H' A hvx => ⟨kb, by cases hvx; rfl, q F' io' H' A⟩)
theorem and_inv {x' y' : Ex} {r : En} {m m' : Mu} {vl : Vl} (hh : evalE (valC cx) b (.and x' y') r m = some (vl, m')) : (∃ m1 k, evalE (valC cx) b x' r m = some (.t (.bool true), m1) ∧ evalE (valC cx) b y' r m1 = some (.t (.bool k), m') ∧ vl = .t (.bool k)) ∨ (evalE (valC cx) b x' r m = some (.t (.bool false), m') ∧ vl = .t (.bool false)) := by
  unfold evalE at hh
  obtain ⟨⟨v, m1⟩, h1, hh⟩ := bind_some hh
  dsimp only at hh
  split at hh
  · split at hh
    · rename_i k m2 h2
      cases hh
      exact .inl ⟨m1, k, h1, h2, rfl⟩
    · cases hh
  · cases hh
    exact .inr ⟨h1, rfl⟩
  · cases hh
theorem or_inv {x' y' : Ex} {r : En} {m m' : Mu} {vl : Vl} (hh : evalE (valC cx) b (.or x' y') r m = some (vl, m')) : (∃ m1 k, evalE (valC cx) b x' r m = some (.t (.bool false), m1) ∧ evalE (valC cx) b y' r m1 = some (.t (.bool k), m') ∧ vl = .t (.bool k)) ∨ (evalE (valC cx) b x' r m = some (.t (.bool true), m') ∧ vl = .t (.bool true)) := by
  unfold evalE at hh
  obtain ⟨⟨v, m1⟩, h1, hh⟩ := bind_some hh
  dsimp only at hh
  split at hh
  · split at hh
    · rename_i k m2 h2
      cases hh
      exact .inl ⟨m1, k, h1, h2, rfl⟩
    · cases hh
  · cases hh
    exact .inr ⟨h1, rfl⟩
  · cases hh
theorem and_ok {x y : Expr} {rs : List Expr} {x' y' : Ex} {p : Pos} (hx : OkE X x (evalE (valC cx) b x')) (hy : OkE X (.BoolOp .And (y :: rs) p) (evalE (valC cx) b y')) : OkE X (.BoolOp .And (x :: y :: rs) p) (evalE (valC cx) b (.and x' y')) := by
  intro r m vl m' hh σ F io H st en Q q
  refine PE.de (pe_and (cE (X := X)) (cE (X := X))) ?_
  rcases and_inv hh with ⟨m1, k, h1, h2, rfl⟩ | ⟨h1, rfl⟩
  · refine hx r m _ m1 h1 σ F io H st en _ fun vx F' io' H' A hvx => ⟨true, by cases hvx; rfl, ?_⟩
    rw [if_pos rfl]
    exact hy r m1 _ m' h2 σ F' io' H' A.st (en.adv A) _ fun vy F2 io2 H2 A2 hvy => q vy F2 io2 H2 (A.trans A2) hvy
  · refine hx r m _ m' h1 σ F io H st en _ fun vx F' io' H' A hvx => ⟨false, by cases hvx; rfl, ?_⟩
    rw [if_neg Bool.false_ne_true]
    exact q _ F' io' H' A (.bl _)
theorem or_ok {x y : Expr} {rs : List Expr} {x' y' : Ex} {p : Pos} (hx : OkE X x (evalE (valC cx) b x')) (hy : OkE X (.BoolOp .Or (y :: rs) p) (evalE (valC cx) b y')) : OkE X (.BoolOp .Or (x :: y :: rs) p) (evalE (valC cx) b (.or x' y')) := by
  intro r m vl m' hh σ F io H st en Q q
  refine PE.de (pe_or (cE (X := X)) (cE (X := X))) ?_
  rcases or_inv hh with ⟨m1, k, h1, h2, rfl⟩ | ⟨h1, rfl⟩
  · refine hx r m _ m1 h1 σ F io H st en _ fun vx F' io' H' A hvx => ⟨false, by cases hvx; rfl, ?_⟩
    rw [if_neg Bool.false_ne_true]
    exact hy r m1 _ m' h2 σ F' io' H' A.st (en.adv A) _ fun vy F2 io2 H2 A2 hvy => q vy F2 io2 H2 (A.trans A2) hvy
  · refine hx r m _ m' h1 σ F io H st en _ fun vx F' io' H' A hvx => ⟨true, by cases hvx; rfl, ?_⟩
    rw [if_pos rfl]
    exact q _ F' io' H' A (.bl _)
theorem andW_ok {x y : Expr} {rs : List Expr} {x' y' : Ex} {p : Pos} (hx : OkT X x (evalE (valC cx) b x')) (hy : OkW X (.BoolOp .And (y :: rs) p) (evalE (valC cx) b y')) : OkW X (.BoolOp .And (x :: y :: rs) p) (evalE (valC cx) b (.and x' y')) := by
  intro r m kb m' hh σ F io H st en Q q
  refine PW.dw (pw_and (cT (X := X)) (cW (X := X))) ?_
  rcases and_inv hh with ⟨m1, k, h1, h2, hk⟩ | ⟨h1, hk⟩
  · cases hk
    refine hx r m _ m1 h1 σ F io H st en _ fun F' io' H' A => ?_
    rw [if_pos rfl]
    exact hy r m1 _ m' h2 σ F' io' H' A.st (en.adv A) _ fun F2 io2 H2 A2 => q F2 io2 H2 (A.trans A2)
  · cases hk
    refine hx r m _ m' h1 σ F io H st en _ fun F' io' H' A => ?_
    rw [if_neg Bool.false_ne_true]
    exact q F' io' H' A
theorem orW_ok {x y : Expr} {rs : List Expr} {x' y' : Ex} {p : Pos} (hx : OkT X x (evalE (valC cx) b x')) (hy : OkW X (.BoolOp .Or (y :: rs) p) (evalE (valC cx) b y')) : OkW X (.BoolOp .Or (x :: y :: rs) p) (evalE (valC cx) b (.or x' y')) := by
  intro r m kb m' hh σ F io H st en Q q
  refine PW.dw (pw_or (cT (X := X)) (cW (X := X))) ?_
  rcases or_inv hh with ⟨m1, k, h1, h2, hk⟩ | ⟨h1, hk⟩
  · cases hk
    refine hx r m _ m1 h1 σ F io H st en _ fun F' io' H' A => ?_
    rw [if_neg Bool.false_ne_true]
    exact hy r m1 _ m' h2 σ F' io' H' A.st (en.adv A) _ fun F2 io2 H2 A2 => q F2 io2 H2 (A.trans A2)
  · cases hk
    refine hx r m _ m' h1 σ F io H st en _ fun F' io' H' A => ?_
    rw [if_pos rfl]
    exact q F' io' H' A
theorem ife_ok {c x y : Expr} {c' x' y' : Ex} {p : Pos} (hc : OkT X c (evalE (valC cx) b c')) (hx : OkE X x (evalE (valC cx) b x')) (hy : OkE X y (evalE (valC cx) b y')) : OkE X (.IfExp c x y p) (evalE (valC cx) b (.ife c' x' y')) := by
  intro r m vl m' hh σ F io H st en Q q
  unfold evalE at hh
  obtain ⟨⟨v, m1⟩, h1, hh⟩ := bind_some hh
  dsimp only at hh
  refine PE.de (pe_ifExp (cT (X := X)) (cE (X := X)) (cE (X := X))) ?_
  split at hh
  · refine hc r m _ m1 h1 σ F io H st en _ fun F' io' H' A => ?_
    rw [if_pos rfl]
    exact hx r m1 _ m' hh σ F' io' H' A.st (en.adv A) _ fun vy F2 io2 H2 A2 hvy => q vy F2 io2 H2 (A.trans A2) hvy
  · refine hc r m _ m1 h1 σ F io H st en _ fun F' io' H' A => ?_
    rw [if_neg Bool.false_ne_true]
    exact hy r m1 _ m' hh σ F' io' H' A.st (en.adv A) _ fun vy F2 io2 H2 A2 hvy => q vy F2 io2 H2 (A.trans A2) hvy
  · cases hh
theorem ifeT_ok {c x y : Expr} {c' x' y' : Ex} {p : Pos} (hc : OkT X c (evalE (valC cx) b c')) (hx : OkT X x (evalE (valC cx) b x')) (hy : OkT X y (evalE (valC cx) b y')) : OkT X (.IfExp c x y p) (evalE (valC cx) b (.ife c' x' y')) := by
  intro r m kb m' hh σ F io H st en Q q pins s I
  unfold evalE at hh
  obtain ⟨⟨v, m1⟩, h1, hh⟩ := bind_some hh
  dsimp only at hh
  show wpAny _ _ (do if ← PySem.isTrue c X.env (eval c X.env) then PySem.isTrue x X.env (eval x X.env) else PySem.isTrue y X.env (eval y X.env)) _ _ s
  split at hh
  · refine wpAny_bind (thn (hc r m _ m1 h1 σ F io H st en (fun k H1 => k = true ∧ DT X x σ H1 Q) (fun F' io' H' A => ⟨rfl, hx r m1 _ m' hh σ F' io' H' A.st (en.adv A) _ fun F2 io2 H2 A2 => q F2 io2 H2 (A.trans A2)⟩) pins s I) fun d s1 ⟨H1, I1, e, g⟩ => ?_)
    subst e
    exact g pins s1 I1
  · refine wpAny_bind (thn (hc r m _ m1 h1 σ F io H st en (fun k H1 => k = false ∧ DT X y σ H1 Q) (fun F' io' H' A => ⟨rfl, hy r m1 _ m' hh σ F' io' H' A.st (en.adv A) _ fun F2 io2 H2 A2 => q F2 io2 H2 (A.trans A2)⟩) pins s I) fun d s1 ⟨H1, I1, e, g⟩ => ?_)
    subst e
    exact g pins s1 I1
  · cases hh
end
end
end TI
set_option maxHeartbeats 200000
set_option maxHeartbeats 2000000
namespace TI
open PySem PySem.Spec PyProof.Rows L2
inductive OkEs (X : Cx) (call : Nat → List Vl → Mu → Option (Vl × Mu)) (b : Nat) : List Expr → Exs → Prop
  | nil : OkEs X call b [] .nil
  | cons {e : Expr} {es : List Expr} {e' : Ex} {es' : Exs} : plainStar e es → OkE X e (evalE call b e') → OkEs X call b es es' → OkEs X call b (e :: es) (.cons e' es')
section
variable {G : Sg} {cx : Nat → List Vl → Mu → Option (XR × Mu)} {k : Nat}
section
variable {X : Cx} {b : Nat} {N : List Str} {sc : Scope}
theorem unf_fz {c : Cell} (h : Unf c) : ∀ ds b, (c = .lst ds b ∨ ∃ es, c = .dct es b) → b = false := fun ds b h' => by
  rcases h' with e | ⟨es, e⟩ <;> subst e <;> exact h
theorem OkEs.l : ∀ {es : List Expr} {es' : Exs}, OkEs X (valC cx) b es es' → OkL X es (evalL (valC cx) b es')
  | _, _, .nil => fun r m vls m' hh σ F io H st en Q q => by
    obtain ⟨rfl, rfl⟩ := l_nil hh
    exact PA.da pa_nil (q [] F io H (Adv.refl st) .nil)
  | _, _, .cons h1 h2 h3 => cons_ok h1 h2 h3.l
theorem OkEs.d : ∀ {es : List Expr} {es' : Exs}, OkEs X (valC cx) b es es' → OkD X es (evalD (valC cx) b es')
  | _, _, .nil => fun r m ds m' hh σ F io H st en Q q => by
    unfold evalD at hh
    cases hh
    exact PA.da pa_nil (q [] F io H (Adv.refl st) .nil)
  | _, _, .cons h1 h2 h3 => consD_ok h1 h2 h3.d
theorem OkEs.hpl : ∀ {es : List Expr} {es' : Exs}, OkEs X (valC cx) b es es' → ∀ env pos, (backTo pos (starEach es env)).any (·.1) = false
  | _, _, .nil, env, pos => rfl
  | _, _, .cons (e := e) (es := es) h _ d, env, pos => by
    rw [h env]
    show (false || (backTo pos (starEach es env)).any (·.1)) = false
    rw [OkEs.hpl d env pos]; rfl
theorem OkEs.star {e : Expr} {es : List Expr} {es' : Exs} (h : OkEs X (valC cx) b (e :: es) es') : plainStar e es ∧ ∀ env pos, (backTo pos (starEach es env)).any (·.1) = false := by
  cases h with
  | cons h1 h2 h3 => exact ⟨h1, h3.hpl⟩
theorem OkEs.one {e : Expr} {e' : Ex} (hs : plainStar e []) (h : OkE X e (evalE (valC cx) b e')) : OkEs X (valC cx) b [e] (.cons e' .nil) := .cons hs h .nil
theorem OkEs.two {e c : Expr} {e' c' : Ex} (hs : plainStar e [c]) (hs2 : plainStar c []) (h : OkE X e (evalE (valC cx) b e')) (h2 : OkE X c (evalE (valC cx) b c')) : OkEs X (valC cx) b [e, c] (.cons e' (.cons c' .nil)) := .cons hs h (.cons hs2 h2 .nil)
theorem var_ok (C : Cxt G cx k N sc X) {i : Nat} {x : Str} {p : Pos} (h1 : N[i]? = some x) (h2 : visB sc x = true) (h3 : okN x = true) : OkE X (.Name x p) (evalE (valC cx) b (.var i)) := by
  intro r m vl m' hh σ F io H st en Q q
  unfold evalE at hh
  split at hh
  · rename_i v hv
    cases hh
    obtain ⟨w, hw, ok⟩ := en.get i _ hv
    have o := okN_at h3
    exact PE.de (pe_var (by rw [C.hN]; exact h1) (C.vis h2) o.1 o.2.1) ⟨w, hw, q w F io H (Adv.refl st) ok⟩
  · cases hh
theorem data_ok {e : Expr} {d : D} (h : ∀ (σ : L2.St) (F : Hp) (H : Hp), Le F H → ∀ Q : VK, (∀ v, Is X.K F v d → Q v H) → DE X e σ H Q) : OkE X e (evalE (valC cx) b (.con d)) := by
  intro r m vl m' hh σ F io H st en Q q
  unfold evalE at hh
  cases hh
  exact h σ F H st.sub Q fun v hv => q v F io H (Adv.refl st) hv
theorem con_ok (C : Cxt G cx k N sc X) {i : Nat} {x : Str} {d : D} {p : Pos} (h1 : G.con[i]? = some (x, d)) (h2 : gloB sc x = true) (h3 : okN x = true) : OkE X (.Name x p) (evalE (valC cx) b (.con d)) :=
  data_ok fun σ F H l Q q => by
    obtain ⟨u, v, h4, h5, h6⟩ := C.md.con i x d h1
    exact PE.de (pe_glob (C.gl h2) h4 h5 (okN_at h3).1) (q v (h6.mono (fun a o h => by cases h)))
theorem one_ok {op : BoolOp} {a : Expr} {a' : Ex} {p : Pos} (h : OkE X a (evalE (valC cx) b a')) : OkE X (.BoolOp op [a] p) (evalE (valC cx) b a') := fun r m vl m' hh σ F io H st en Q q =>
  PE.de (pe_one (cE (X := X))) (h r m vl m' hh σ F io H st en Q q)
theorem and1_ok {a : Expr} {a' : Ex} {p : Pos} (h : OkT X a (evalE (valC cx) b a')) : OkW X (.BoolOp .And [a] p) (evalE (valC cx) b a') := fun r m vl m' hh σ F io H st en Q q =>
  PW.dw (pw_and1 (cT (X := X))) (h r m vl m' hh σ F io H st en Q q)
theorem or1_ok {a : Expr} {a' : Ex} {p : Pos} (h : OkT X a (evalE (valC cx) b a')) : OkW X (.BoolOp .Or [a] p) (evalE (valC cx) b a') := fun r m vl m' hh σ F io H st en Q q =>
  PW.dw (pw_or1 (cT (X := X))) (h r m vl m' hh σ F io H st en Q q)
theorem bool_ok {a : Expr} {a' : Ex} (h : OkW X a (evalE (valC cx) b a')) : OkT X a (evalE (valC cx) b a') := fun r m vl m' hh σ F io H st en Q q => fun pins s I => h r m vl m' hh σ F io H st en Q q (eval a X.env) pins s I
theorem new_ok {e : Expr} {w : Nw} (h : OkN X e (evalN (valC cx) b w)) : OkE X e (evalE (valC cx) b (.new w)) := by
  intro r m vl m' hh σ F io H st en Q q
  unfold evalE at hh
  obtain ⟨⟨c, m1⟩, h1, hh⟩ := bind_some hh
  cases hh
  refine (h r m c _ h1).2 σ F io H st en Q fun p o F' io' H' A hn hc => ?_
  exact Res.frz (Q := Q) A.st.sub (fun v F2 H2 g i => q v F2 io' H2 (A.trans (Adv.grow A.st g)) i) p o hn hc
theorem mk_ok {e : Expr} {w : Nw} (h : OkN X e (evalN (valC cx) b w)) : OkE X e (evalE (valC cx) b (.mk w)) := by
  intro r m vl m' hh σ F io H st en Q q
  unfold evalE at hh
  obtain ⟨⟨c, m1⟩, h1, hh⟩ := bind_some hh
  cases hh
  obtain ⟨hu, h2⟩ := h r m c _ h1
  refine h2 σ F io H st en Q fun p o F' io' H' A hn hc => ?_
  have A2 := Adv.cell A.st hn hc (unf_fz hu)
  exact q _ F' _ _ (A.trans A2) ⟨by simp, congrArg V.ref (if_pos rfl).symm⟩
theorem frz_ok {e : Expr} {e' : Ex} (h : OkE X e (evalE (valC cx) b e')) : OkE X e (evalE (valC cx) b (.frz e')) := by
  intro r m vl m' hh σ F io H st en Q q
  unfold evalE at hh
  obtain ⟨⟨v, m1⟩, h1, hh⟩ := bind_some hh
  obtain ⟨⟨d, m2⟩, h2, hh⟩ := bind_some hh
  cases hh
  refine h r m v m1 h1 σ F io H st en Q fun x F' io' H' A hx => ?_
  obtain ⟨F2, A2, ix⟩ := hx.down A.st h2
  exact q x F2 io' H' (A.trans A2) ix
theorem IsKV.look {K : PySem.W.Frag} {F : Hp} {kk : Str} : ∀ {kv : List (Key × V)} {es : List (D × D)} {d : D}, IsKV K F kv es → dLook es kk = some d → ∃ v, valV kv (.inr kk) = some v ∧ Is K F v d
  | _, _, _, .nil, z => by cases z
  | _, _, d, .cons (v := v0) h k, z => by
    unfold dLook at z
    split at z
    · rename_i he
      cases z
      exact ⟨v0, valV_pos (by rw [he]), h⟩
    · rename_i he
      obtain ⟨v, h1, h2⟩ := IsKV.look k z
      exact ⟨v, by rw [valV_neg (by simpa using he)]; exact h1, h2⟩
  | _, _, d, .consI _ _, z => by cases z
theorem IsKV.allI {K : PySem.W.Frag} {F : Hp} {i : Int} : ∀ {kv : List (Key × V)} {es : List (D × D)} {d : D}, IsKV K F kv es → dLookI es i = some d → ∃ v, valV kv (.inl i) = some v ∧ Is K F v d
  | _, _, _, .nil, z => by cases z
  | _, _, d, .cons (k := k) h t, z => by
    unfold dLookI at z
    rw [if_neg (by simp [keyI])] at z
    obtain ⟨v, h1, h2⟩ := IsKV.allI t z
    exact ⟨v, by rw [valV_neg (show ¬ ((Sum.inr k : Key) = .inl i) from fun z => nomatch z)]; exact h1, h2⟩
  | _, _, d, .consI (k := k) (v := v0) h t, z => by
    unfold dLookI at z
    by_cases hk : k = i
    · rw [if_pos (by simp [keyI, hk])] at z
      cases z
      exact ⟨v0, valV_pos (by rw [hk]), h⟩
    · rw [if_neg (by simp [keyI, hk])] at z
      obtain ⟨v, h1, h2⟩ := IsKV.allI t z
      exact ⟨v, by rw [valV_neg (show ¬ ((Sum.inl k : Key) = .inl i) from fun z => hk (Sum.inl.inj z))]; exact h1, h2⟩
theorem fIdx_dict {kvs : List (D × D)} {a d : D} (e : fIdx (.dict kvs) a = some d) : (∃ k, a = .str k ∧ dLook kvs k = some d) ∨ ∃ k, a = .int k ∧ dLookI kvs k = some d := by
  cases a <;> first | (cases e; done) | exact .inl ⟨_, rfl, e⟩ | exact .inr ⟨_, rfl, e⟩
theorem view_int {m : Mu} {v : Vl} {k : Int} (h : view m v = some (.int k)) : v = .t (.int k) := by
  cases v with
  | t d => cases h; rfl
  | loc n =>
    replace h : (m[n]?).map Cell.data = some (.int k) := h
    cases q : m[n]? with
    | none => rw [q] at h; cases h
    | some c =>
      rw [q] at h
      cases c <;> cases h
  | er c x => cases h
  | tv xs => cases h
theorem idx_ok (hu : X.A.units + 70 < cLine) {x y : Expr} {x' y' : Ex} {p : Pos} (hs : PlainIx y) (hx : OkE X x (evalE (valC cx) b x')) (hy : OkE X y (evalE (valC cx) b y')) : OkE X (.Subscript x y p) (evalE (valC cx) b (.op .idx (.cons x' (.cons y' .nil)))) := by
  intro r m vl m' hh σ F io H st en Q q
  obtain ⟨vs, ds, h1, h2, h3⟩ := op_inv hh
  obtain ⟨v, w, m1, rfl, g1, g2⟩ := l_two h1
  obtain ⟨d1, d2, rfl, e1, e2⟩ := views_two h2
  rcases h3 with ⟨d, e, rfl⟩ | ⟨c, e, _⟩
  · by_cases hd : ∃ kvs, d1 = .dict kvs
    · obtain ⟨kvs, rfl⟩ := hd
      refine PE.de (pe_dget (by omega) (cE (X := X)) (cE (X := X)) hs) (two_ok hx hy g1 g2 st en fun vx vy F' io' H' A hvx hvy => ?_)
      rcases fIdx_dict (show fIdx (.dict kvs) d2 = some d from e) with ⟨kk, rfl, e⟩ | ⟨kk, rfl, e⟩
      · obtain ⟨a, ks, rfl, hr, hk⟩ := (hvx.vw A.st e1).dict A.st.sub
        have := (hvy.vw A.st e2).str
        subst this
        obtain ⟨u, hu1, hu2⟩ := hk.look e
        exact ⟨a, u, rfl, .inl ⟨ks, .inr kk, .inl hr, rfl, hu1.symm⟩, q u F' io' H' A hu2⟩
      · obtain ⟨a, ks, rfl, hr, hk⟩ := (hvx.vw A.st e1).dict A.st.sub
        have := (hvy.vw A.st e2).int
        subst this
        obtain ⟨u, hu1, hu2⟩ := hk.allI e
        exact ⟨a, u, rfl, .inl ⟨ks, .inl kk, .inl hr, rfl, hu1.symm⟩, q u F' io' H' A hu2⟩
    · refine DE.idx hs (two_ok hx hy g1 g2 st en fun vx vy F' io' H' A hvx hvy => ?_)
      intro pins s σ' v u I rx ry hsub
      exact idx_val A.st.sub I rx ry (hvx.vw A.st e1) (hvy.vw A.st e2) e (fun kvs z => hd ⟨kvs, z⟩) (post_res A.st fun v F2 io2 H2 A2 hv => q v F2 io2 H2 (A.trans A2) hv) hsub
  · cases e
theorem chain_inv {o p : Op} {x y z : Ex} {r : En} {m m' : Mu} {vl : Vl} (hh : evalE (valC cx) b (.chain o p x y z) r m = some (vl, m')) :
    ∃ v u m1 m2 ds, evalE (valC cx) b x r m = some (v, m1) ∧ evalE (valC cx) b y r m1 = some (u, m2) ∧ views m2 [v, u] = some ds ∧ ((opF o ds = some (.bool false) ∧ vl = .t (.bool false) ∧ m' = m2) ∨
      (opF o ds = some (.bool true) ∧ ∃ w es d, evalE (valC cx) b z r m2 = some (w, m') ∧ views m' [u, w] = some es ∧ opF p es = some d ∧ vl = .t d)) := by
  unfold evalE at hh
  obtain ⟨⟨v, m1⟩, h1, hh⟩ := bind_some hh
  obtain ⟨⟨u, m2⟩, h2, hh⟩ := bind_some hh
  dsimp only at hh
  split at hh
  · rename_i ds h3
    split at hh
    · rename_i h4
      split at hh
      · rename_i w m3 h5
        split at hh
        · rename_i es h6
          split at hh
          · rename_i d h7
            cases hh
            exact ⟨v, u, m1, m2, ds, h1, h2, h3, .inr ⟨h4, w, es, d, h5, h6, h7, rfl⟩⟩
          · cases hh
        · cases hh
      · cases hh
    · rename_i h4
      cases hh
      exact ⟨v, u, m1, _, ds, h1, h2, h3, .inl ⟨h4, rfl, rfl⟩⟩
    · cases hh
  · cases hh
theorem chain_core (hu : X.A.units + 70 < cLine) {x y z : Expr} {x' y' z' : Ex} {bo bo2 : CmpOp} {o o2 : Op} (hb : cmpOf bo = some o) (hb2 : cmpOf bo2 = some o2) (hx : OkE X x (evalE (valC cx) b x')) (hy : OkE X y (evalE (valC cx) b y')) (hz : OkE X z (evalE (valC cx) b z'))
    {r : En} {m m' : Mu} {vl : Vl} (hh : evalE (valC cx) b (.chain o o2 x' y' z') r m = some (vl, m')) {σ : L2.St} {F : Hp} {io : Nat → Addr} {H : Hp} (st : Stt X.K F io m H) (en : EnOk X.K F io m.length σ r) {Q : VK}
    (q : ∀ v F' io' H', Adv X.K F io m F' io' m' H' → VlOk X.K F' io' m'.length v vl → Q v H') :
    DE X x σ H fun vx H1 => DE X y σ H1 fun vy H2 => r2c X (compareOp bo) vx vy H2 fun zz H3 => ∃ k, zz = .bl k ∧ (if k = true then DE X z σ H3 fun w H4 => r2c X (compareOp bo2) vy w H4 Q else Q (.bl false) H3) := by
  obtain ⟨v, u, m1, m2, ds, h1, h2, h3, h4⟩ := chain_inv hh
  obtain ⟨d1, d2, rfl, e1, e2⟩ := views_two h3
  refine two_ok hx hy h1 h2 st en fun vx vy F' io' H' A hvx hvy => ?_
  intro pins s σ' v' u' I rx ry
  rcases h4 with ⟨e, rfl, rfl⟩ | ⟨e, w, es, d, g1, g2, g3, rfl⟩
  · refine cmp_val hu hb A.st.sub I rx ry (hvx.vw A.st e1) (hvy.vw A.st e2) e fun zv F2 H2 g i => ⟨false, by cases i; rfl, ?_⟩
    rw [if_neg Bool.false_ne_true]
    exact q _ F2 io' H2 (A.trans (Adv.grow A.st g)) (.bl _)
  · obtain ⟨d3, d4, rfl, e3, e4⟩ := views_two g2
    refine cmp_val hu hb A.st.sub I rx ry (hvx.vw A.st e1) (hvy.vw A.st e2) e fun zv F2 H2 g i => ⟨true, by cases i; rfl, ?_⟩
    rw [if_pos rfl]
    have A2 := A.trans (Adv.grow A.st g)
    refine hz r m2 w m' g1 σ F2 io' H2 A2.st (en.adv A2) _ fun vz F3 io3 H3 A3 hvz => ?_
    intro pins s σ' v' u' I rx ry
    exact cmp_val hu hb2 A3.st.sub I rx ry (((hvy.adv (Adv.grow A.st g)).adv A3).vw A3.st e3) (hvz.vw A3.st e4) g3 fun zv F4 H4 g4 i4 => q zv F4 io3 H4 ((A2.trans A3).trans (Adv.grow A3.st g4)) i4
theorem chain_ok (hu : X.A.units + 70 < cLine) {x y z : Expr} {x' y' z' : Ex} {bo bo2 : CmpOp} {o o2 : Op} {p : Pos} (hb : cmpOf bo = some o) (hb2 : cmpOf bo2 = some o2) (hm : lastMarks [bo, bo2] [y, z] = false) (hx : OkE X x (evalE (valC cx) b x')) (hy : OkE X y (evalE (valC cx) b y')) (hz : OkE X z (evalE (valC cx) b z')) :
    OkE X (.Compare x [bo, bo2] [y, z] p) (evalE (valC cx) b (.chain o o2 x' y' z')) := fun r m vl m' hh σ F io H st en Q q => DE.chain hm (chain_core hu hb hb2 hx hy hz hh st en q)
theorem chainT_ok (hu : X.A.units + 70 < cLine) {x y z : Expr} {x' y' z' : Ex} {bo bo2 : CmpOp} {o o2 : Op} {p : Pos} (hb : cmpOf bo = some o) (hb2 : cmpOf bo2 = some o2) (hm : lastMarks [bo, bo2] [y, z] = false) (hx : OkE X x (evalE (valC cx) b x')) (hy : OkE X y (evalE (valC cx) b y')) (hz : OkE X z (evalE (valC cx) b z')) :
    OkT X (.Compare x [bo, bo2] [y, z] p) (evalE (valC cx) b (.chain o o2 x' y' z')) := fun r m kb m' hh σ F io H st en Q q => by
  refine DT.chain hm ?_
  exact chain_core hu hb hb2 hx hy hz hh st en (Q := fun z H3 => ∃ k, z = .bl k ∧ Q k H3) fun v F' io' H' A hv => ⟨kb, by cases hv; rfl, q F' io' H' A⟩
theorem bfn_val {n : Nat} {bv : Value} {o : Op} (h : bfnOf n = some (bv, o)) : (∃ id, bv = .builtin id) ∨ ∃ T, bv = .type T := by
  unfold bfnOf at h
  split at h <;> cases h <;> first | exact .inl ⟨_, rfl⟩ | exact .inr ⟨_, rfl⟩
theorem bcall_ok (C : Cxt G cx k N sc X) {n : Nat} {bv : Value} {o : Op} {x : Str} {e : Expr} {es : List Expr} {es' : Exs} {p pos : Pos} (hb : bfnOf n = some (bv, o)) (hv : bootBuiltins x = some bv) (hx : bltB G sc x = true) (h : OkEs X (valC cx) b (e :: es) es') :
    OkE X (.Call (.Name x p) (e :: es) [] pos) (evalE (valC cx) b (.op o es')) := by
  intro r m vl m' hh σ F io H st en Q q
  obtain ⟨vs, ds, h1, h2, h3⟩ := op_inv hh
  obtain ⟨g1, g2, g3, g4⟩ := C.blt hx
  refine DE.blt (bfn_val hb) g1 g2 hv g4 g3 h.star.1 (fun pos => h.star.2 _ pos) (h.l r m vs m' h1 σ F io H st en _ fun xs F' io' H' A hxs => ?_)
  intro pins s σ' us I rx
  have hu := C.units
  refine fin_op (Q := Q) A.st (fun v F2 io2 H2 A2 hv => q v F2 io2 H2 (A.trans A2) hv) h3 (fun d e rs => ?_) (fun c e rs => ?_)
  · exact bcall_val C.calm C.grd (by omega) hb A.st.sub I rx (VlsOk.vw A.st hxs h2) e rs
  · exact bcall_new C.calm hb A.st.sub I rx (VlsOk.vw A.st hxs h2) e rs
theorem bcallN_ok (C : Cxt G cx k N sc X) {n : Nat} {bv : Value} {o : Op} {x : Str} {e : Expr} {es : List Expr} {es' : Exs} {p pos : Pos} (hb : bfnOf n = some (bv, o)) (hv : bootBuiltins x = some bv) (hx : bltB G sc x = true) (h : OkEs X (valC cx) b (e :: es) es') :
    OkN X (.Call (.Name x p) (e :: es) [] pos) (evalN (valC cx) b (.op o es')) := by
  intro r m c m' hh
  obtain ⟨vs, ds, h1, h2, h3⟩ := nop_inv hh
  refine ⟨opN_unf h3, fun σ F io H st en Q q => ?_⟩
  obtain ⟨g1, g2, g3, g4⟩ := C.blt hx
  refine DE.blt (bfn_val hb) g1 g2 hv g4 g3 h.star.1 (fun pos => h.star.2 _ pos) (h.l r m vs m' h1 σ F io H st en _ fun xs F' io' H' A hxs => ?_)
  intro pins s σ' us I rx
  exact bcall_new C.calm hb A.st.sub I rx (VlsOk.vw A.st hxs h2) h3 fun p o hp hc => q p o F' io' H' A hp hc
theorem isi_ok (C : Cxt G cx k N sc X) {T : String} {x : Str} {e : Expr} {e' : Ex} {p p2 pos : Pos} (hT : T ∈ tyNames) (hv : bootBuiltins x = some (.type T)) (hx : bltB G sc x = true) (hi : bltB G sc "isinstance" = true) (hs : plainStar e [.Name x p2]) (h : OkE X e (evalE (valC cx) b e')) :
    OkE X (.Call (.Name "isinstance" p) [e, .Name x p2] [] pos) (evalE (valC cx) b (.op (.isi T) (.cons e' .nil))) := by
  intro r m vl m' hh σ F io H st en Q q
  obtain ⟨vs, ds, h1, h2, h3⟩ := op_inv hh
  obtain ⟨v, rfl, g⟩ := l_one h1
  obtain ⟨d1, rfl, e1⟩ := views_one h2
  rcases h3 with ⟨d, z, rfl⟩ | ⟨c, z, _⟩
  · cases z
    obtain ⟨g1, g2, g3, g4⟩ := C.blt hi
    obtain ⟨i1, i2, i3, i4⟩ := C.blt hx
    refine DE.blt (.inl ⟨"isinstance", rfl⟩) g1 g2 (by decide +kernel) g4 g3 hs (fun pos => rfl) ?_
    refine PA.da (pa_cons (cE (X := X)) (pa_cons (pe_bltn i1 i2 hv (v := .ty T) rfl i4 i3) pa_nil rfl) (hs _)) ?_
    refine h r m v m' g σ F io H st en _ fun vx F' io' H' A hvx => ?_
    intro pins s σ' us I rx
    exact isi_val A.st.sub I hT rfl rx (hvx.vw A.st e1) (post_res A.st fun v F2 io2 H2 A2 hv => q v F2 io2 H2 (A.trans A2) hv)
  · cases z
theorem bitlen_ok {e : Expr} {e' : Ex} {ap pos : Pos} (h1 : ∀ env, attributeBase e "bit_length" env (eval e env) = eval e env) (h2 : (ap.endLine == pos.line) = true) (h : OkE X e (evalE (valC cx) b e')) : OkE X (.Call (.Attribute e "bit_length" ap) [] [] pos) (evalE (valC cx) b (.op .bitlen (.cons e' .nil))) := by
  intro r m vl m' hh σ F io H st en Q q
  obtain ⟨vs, ds, g1, g2, h3⟩ := op_inv hh
  obtain ⟨v, rfl, g⟩ := l_one g1
  obtain ⟨d1, rfl, e1⟩ := views_one g2
  rcases h3 with ⟨d, z, rfl⟩ | ⟨c, z, _⟩
  · refine PE.de (pe_bits (cE (X := X)) (h1 _) h2) (h r m v m' g σ F io H st en _ fun vx F' io' H' A hvx => ?_)
    replace z : fI _ [d1] = some d := z
    unfold fI at z
    split at z
    · rename_i i hi
      cases hi
      cases z
      exact ⟨i, (hvx.vw A.st e1).int, q _ F' io' H' A (.int _)⟩
    · cases z
  · cases z
theorem tup_ok {es : List Expr} {es' : Exs} {kk : Nat} {p : Pos} (h : OkEs X (valC cx) b es es') : OkE X (.Tuple es kk p) (evalE (valC cx) b (.tup es')) := by
  intro r m vl m' hh σ F io H st en Q q
  unfold evalE at hh
  obtain ⟨⟨ds, m1⟩, h1, hh⟩ := bind_some hh
  dsimp only at hh
  split at hh
  · rename_i hz
    cases hh
    refine PE.de (pe_tup (cA (X := X))) (h.d r m ds _ h1 σ F io H st en _ fun xs F' io' H' A hxs => ⟨by rw [hxs.length]; exact szL hz, fun p hp => ?_⟩)
    have g := Grow.new (o := .tup xs) A.st.sub hp
    exact q _ _ io' _ (A.trans (Adv.grow A.st g)) (.tup (SqT.of upd_same) (hxs.mono g.ff))
  · cases hh
theorem lst_ok {es : List Expr} {es' : Exs} {p : Pos} (h : OkEs X (valC cx) b es es') : OkN X (.List es p) (evalN (valC cx) b (.lst es')) := by
  intro r m c m' hh
  unfold evalN at hh
  obtain ⟨⟨ds, m1⟩, h1, hh⟩ := bind_some hh
  dsimp only at hh
  split at hh
  · rename_i hz
    cases hh
    refine ⟨rfl, fun σ F io H st en Q q => ?_⟩
    refine PE.de (pe_lst (cA (X := X))) (h.d r m ds _ h1 σ F io H st en _ fun xs F' io' H' A hxs => ⟨by rw [hxs.length]; exact szL hz, fun p hp => ?_⟩)
    exact q p _ F' io' H' A hp ⟨xs, rfl, hxs⟩
  · cases hh
theorem rep_ok {es : List Expr} {es' : Exs} {y : Expr} {y' : Ex} {p p2 : Pos} (h : OkEs X (valC cx) b es es') (hy : OkE X y (evalE (valC cx) b y')) : OkN X (.BinOp (.List es p) .Mult y p2) (evalN (valC cx) b (.rep es' y')) := by
  intro r m c m' hh
  unfold evalN at hh
  obtain ⟨⟨ds, m1⟩, h1, hh⟩ := bind_some hh
  obtain ⟨⟨v, m2⟩, h2, hh⟩ := bind_some hh
  dsimp only at hh
  split at hh
  · rename_i i
    split at hh
    · rename_i hz
      cases hh
      simp only [Bool.and_eq_true, decide_eq_true_eq] at hz
      obtain ⟨⟨z1, z2⟩, z3⟩ := hz
      refine ⟨rfl, fun σ F io H st en Q q => ?_⟩
      refine PE.de (pe_op op_rep (pe_lst (cA (X := X))) (cE (X := X))) (h.d r m ds m1 h1 σ F io H st en _ fun xs F' io' H' A hxs => ⟨by rw [hxs.length]; exact szL (by omega), fun p hp => ?_⟩)
      have g := Grow.new (o := .lst xs) A.st.sub hp
      have A1 := A.trans (Adv.grow A.st g)
      refine hy r m1 _ m' h2 σ _ io' _ A1.st (en.adv A1) _ fun vy F2 io2 H2 A2 hvy => ?_
      have e : vy = .int i := by cases hvy; rfl
      subst e
      have hx : H2 p = some (.lst xs) := A2.st.sub _ _ (A2.ff _ _ upd_same)
      refine ⟨p, i, xs, rfl, rfl, hx, by omega, by omega, ?_, fun p' hp' => ?_⟩
      · rw [hxs.length]
        refine szL ?_
        have e1 : i.toNat ≤ 1000 := by omega
        exact Nat.mul_le_mul z1 e1
      · exact q p' _ F2 io2 H2 (A1.trans A2) hp' ⟨_, rfl, ((hxs.mono g.ff).mono A2.ff).flat _⟩
    · cases hh
  · cases hh
theorem binop_slice {e : Expr} {lo hi : Option Expr} {p p2 : Pos} {te : TE} {tl th : TO} {σ : L2.St} {H : Hp} {Q : VK} (he : PE X e te) (hl : PO X lo tl) (hr : PO X hi th) (h : tSl (rSlL X.K) te tl th σ H Q) : DE X (.Subscript e (.Slice lo hi none p2) p) σ H Q := PE.de (pe_slice sl_list he hl hr) h
theorem slLo_ok {e a : Expr} {e' a' : Ex} {p p2 : Pos} (he : OkE X e (evalE (valC cx) b e')) (ha : OkE X a (evalE (valC cx) b a')) : OkN X (.Subscript e (.Slice (some a) none none p2) p) (evalN (valC cx) b (.op .slLo (.cons e' (.cons a' .nil)))) := by
  intro r m c m' hh
  obtain ⟨vs, ds, h1, h2, h3⟩ := nop_inv hh
  obtain ⟨v, w, m1, rfl, g1, g2⟩ := l_two h1
  obtain ⟨d1, d2, rfl, e1, e2⟩ := views_two h2
  refine ⟨opN_unf h3, fun σ F io H st en Q q => ?_⟩
  replace h3 : nCut true false [d1, d2] = some c := h3
  unfold nCut at h3
  split at h3 <;> rename_i hz <;> first | (cases hz; done) | skip
  · cases hz
    cases h3
    refine binop_slice (cE (X := X)) (po_some (cE (X := X))) po_none (two_ok he ha g1 g2 st en fun vx vy F' io' H' A hvx hvy => ?_)
    obtain ⟨p, xs, rfl, hx, kx⟩ := (hvx.vw A.st e1).list A.st.sub
    have := (hvy.vw A.st e2).int
    subst this
    exact ⟨_, rfl, p, xs, rfl, hx, fun p' hp' => q p' _ F' io' H' A hp' ⟨_, rfl, kx.cut _ _⟩⟩
  · cases h3
theorem slHi_ok {e a : Expr} {e' a' : Ex} {p p2 : Pos} (he : OkE X e (evalE (valC cx) b e')) (ha : OkE X a (evalE (valC cx) b a')) : OkN X (.Subscript e (.Slice none (some a) none p2) p) (evalN (valC cx) b (.op .slHi (.cons e' (.cons a' .nil)))) := by
  intro r m c m' hh
  obtain ⟨vs, ds, h1, h2, h3⟩ := nop_inv hh
  obtain ⟨v, w, m1, rfl, g1, g2⟩ := l_two h1
  obtain ⟨d1, d2, rfl, e1, e2⟩ := views_two h2
  refine ⟨opN_unf h3, fun σ F io H st en Q q => ?_⟩
  replace h3 : nCut false true [d1, d2] = some c := h3
  unfold nCut at h3
  split at h3 <;> rename_i hz <;> first | (cases hz; done) | skip
  · cases hz
    cases h3
    refine binop_slice (cE (X := X)) po_none (po_some (cE (X := X))) ?_
    refine DE.mono (two_ok he ha g1 g2 st en (R := fun vx vy H' => ∃ i, vy = .int i ∧ rSlL X.K vx none (some i) H' Q) fun vx vy F' io' H' A hvx hvy => ?_) fun _ _ h => h
    obtain ⟨p, xs, rfl, hx, kx⟩ := (hvx.vw A.st e1).list A.st.sub
    have := (hvy.vw A.st e2).int
    subst this
    exact ⟨_, rfl, p, xs, rfl, hx, fun p' hp' => q p' _ F' io' H' A hp' ⟨_, rfl, kx.cut _ _⟩⟩
  · cases h3
theorem views_three {m : Mu} {u v w : Vl} {ds : List D} (h : views m [u, v, w] = some ds) : ∃ a c d, ds = [a, c, d] ∧ view m u = some a ∧ view m v = some c ∧ view m w = some d := by
  unfold views at h
  split at h
  · rename_i a es h1 h2
    cases h
    obtain ⟨c, d, rfl, h3, h4⟩ := views_two h2
    exact ⟨a, c, d, rfl, h1, h3, h4⟩
  · cases h
theorem slLH_ok {e a c : Expr} {e' a' c' : Ex} {p p2 : Pos} (he : OkE X e (evalE (valC cx) b e')) (ha : OkE X a (evalE (valC cx) b a')) (hc : OkE X c (evalE (valC cx) b c')) : OkN X (.Subscript e (.Slice (some a) (some c) none p2) p) (evalN (valC cx) b (.op .slLH (.cons e' (.cons a' (.cons c' .nil))))) := by
  intro r m cl m' hh
  obtain ⟨vs, ds, h1, h2, h3⟩ := nop_inv hh
  obtain ⟨v, w, u, m1, m2, rfl, g1, g2, g3⟩ := l_three h1
  obtain ⟨d1, d2, d3, rfl, e1, e2, e3⟩ := views_three h2
  refine ⟨opN_unf h3, fun σ F io H st en Q q => ?_⟩
  replace h3 : nCut true true [d1, d2, d3] = some cl := h3
  unfold nCut at h3
  split at h3 <;> rename_i hz <;> first | (cases hz; done) | skip
  · cases hz
    cases h3
    refine binop_slice (cE (X := X)) (po_some (cE (X := X))) (po_some (cE (X := X))) ?_
    refine he r m v m1 g1 σ F io H st en _ fun vx F1 io1 H1 A1 hvx => ?_
    refine ha r m1 w m2 g2 σ F1 io1 H1 A1.st (en.adv A1) _ fun vy F2 io2 H2 A2 hvy => ?_
    have A12 := A1.trans A2
    have ew := view_int e2
    subst ew
    refine ⟨_, by cases hvy; rfl, hc r m2 u m' g3 σ F2 io2 H2 A2.st (en.adv A12) _ fun vz F3 io3 H3 A3 hvz => ?_⟩
    have := (hvz.vw A3.st e3).int
    subst this
    obtain ⟨p, xs, rfl, hx, kx⟩ := (((hvx.adv A2).adv A3).vw A3.st e1).list A3.st.sub
    exact ⟨_, rfl, p, xs, rfl, hx, fun p' hp' => q p' _ F3 io3 H3 (A12.trans A3) hp' ⟨_, rfl, kx.cut _ _⟩⟩
  · cases h3
end
end
end TI
set_option maxHeartbeats 200000
set_option maxHeartbeats 2000000
namespace TI
open PySem PySem.Spec PyProof.Rows L2
theorem upd_del2 {H : Hp} {p : Addr} {o : HO} : upd H p o = upd (delA H p) p o := by
  funext a
  unfold upd delA
  by_cases e : a = p
  · rw [if_pos e, if_pos e]
  · rw [if_neg e, if_neg e, if_neg e]
theorem Stt.cut {K : PySem.W.Frag} {F H : Hp} {io : Nat → Addr} {m : Mu} {n : Nat} (s : Stt K F io m H) (hn : n < m.length) (nf : F (io n) = none) : Stt K F io (m.take n) (delA H (io n)) := by
  have stay : ∀ {a o}, a ≠ io n → H a = some o → delA H (io n) a = some o := fun {a o} h q => by unfold delA; rw [if_neg h]; exact q
  refine ⟨fun a o h => stay (fun z => by rw [z, nf] at h; cases h) (s.sub a o h), fun i c h => ?_, fun i j hi hj z => s.inj i j (by simp at hi; omega) (by simp at hj; omega) z⟩
  rw [List.getElem?_take] at h
  split at h
  · rename_i hi
    have ne : io i ≠ io n := fun z => absurd (s.inj i n (List.getElem?_eq_some_iff.mp h).1 hn z) (by omega)
    have q := s.cell i c h
    rcases c with ⟨ds, fz⟩ | ⟨ds, fz⟩ <;> cases fz
    · obtain ⟨k1, xs, k2, k3⟩ := q; exact ⟨k1, xs, stay ne k2, k3⟩
    · exact q
    · obtain ⟨k1, xs, k2, k3⟩ := q; exact ⟨k1, xs, stay ne k2, k3⟩
    · exact q
  · cases h
section
variable {G : Sg} {cx : Nat → List Vl → Mu → Option (XR × Mu)} {k : Nat}
section
variable {X : Cx} {b : Nat} {N : List Str} {sc : Scope}
def trsOf (X : Cx) : List Str → List Expr → List (TE × TE)
  | k :: ks, e :: es => (tC (.str k), fun σ H Q => DE X e σ H Q) :: trsOf X ks es
  | _, _ => []
theorem dkeys_facts : ∀ {keys : List (Option Expr)} {ks : List Str}, dkeys keys = some ks → keys.all (·.isSome) = true ∧ keys.length = ks.length
  | [], _, h => by cases h; exact ⟨rfl, rfl⟩
  | some (.Constant (.str k) _ _) :: r, ks, h => by
    replace h : (match dkeys r with | some l => some (k :: l) | none => none) = some ks := h
    split at h
    · rename_i l e
      cases h
      obtain ⟨a, c⟩ := dkeys_facts e
      exact ⟨by simp [a], by simp [c]⟩
    · cases h
theorem pps_of {pos : Pos} : ∀ {keys : List (Option Expr)} {ks : List Str} {values : List Expr} {es' : Exs}, dkeys keys = some ks → OkEs X (valC cx) b values es' → keys.length = values.length → PPs X pos keys values (trsOf X ks values)
  | [], _, [], _, h, _, _ => by cases h; exact pps_nil
  | some (.Constant (.str k) _ _) :: r, ks, v :: vs, _, h, .cons h1 h2 h3, hl => by
    replace h : (match dkeys r with | some l => some (k :: l) | none => none) = some ks := h
    split at h
    · rename_i l e
      cases h
      exact pps_cons pe_str (cE (X := X)) (pps_of e h3 (by simpa using hl))
    · cases h
theorem pairs_ok : ∀ {values : List Expr} {es' : Exs} {ks : List Str}, OkEs X (valC cx) b values es' → ks.length = values.length → ∀ {r m ds m'}, evalD (valC cx) b es' r m = some (ds, m') → ∀ (σ : L2.St) (F : Hp) (io : Nat → Addr) (H : Hp), Stt X.K F io m H → EnOk X.K F io m.length σ r → ∀ Q : List (V × V) → Hp → Prop,
    (∀ vs F' io' H', Adv X.K F io m F' io' m' H' → IsL X.K F' vs ds → Q ((ks.map V.str).zip vs) H') → tPairs (trsOf X ks values) σ H Q
  | _, _, [], .nil, _, r, m, ds, m', hh, σ, F, io, H, st, en, Q, q => by
    unfold evalD at hh
    cases hh
    exact q [] F io H (Adv.refl st) .nil
  | _, _, k :: ks, .cons h1 h2 h3, hl, r, m, ds, m', hh, σ, F, io, H, st, en, Q, q => by
    unfold evalD at hh
    obtain ⟨⟨v, m1⟩, g1, hh⟩ := bind_some hh
    obtain ⟨⟨d, m2⟩, g2, hh⟩ := bind_some hh
    obtain ⟨⟨es0, m3⟩, g3, hh⟩ := bind_some hh
    cases hh
    show DE X _ σ H fun y H2 => tPairs (trsOf X ks _) σ H2 _
    refine h2 r m v m1 g1 σ F io H st en _ fun x F1 io1 H1 A1 hx => ?_
    obtain ⟨F2, A2, ix⟩ := hx.down A1.st g2
    have A12 := A1.trans A2
    refine pairs_ok h3 (by simpa using hl) g3 σ F2 io1 H1 A2.st (en.adv A12) _ fun xs F3 io3 H3 A3 hxs => ?_
    exact q _ F3 io3 H3 (A12.trans A3) (.cons (ix.mono A3.ff) hxs)
theorem merge_new : ∀ {more kvs : List (Key × V)}, ((kvs ++ more).map (·.1)).Nodup → mergeK kvs more = kvs ++ more
  | [], kvs, _ => by simp [mergeK]
  | (k, v) :: r, kvs, h => by
    have hn : (kvs.any fun kv => decide (kv.1 = k)) = false := by
      rw [List.any_eq_false]
      intro p hp
      rw [List.map_append, List.nodup_append] at h
      have := h.2.2 p.1 (List.mem_map_of_mem hp) k (by simp)
      simpa using this
    have e : mergeK kvs ((k, v) :: r) = mergeK (putK kvs k v) r := rfl
    have e2 : putK kvs k v = kvs ++ [(k, v)] := by unfold putK; rw [if_neg (by rw [hn]; exact Bool.false_ne_true)]
    rw [e, e2, merge_new (by simpa using h)]
    simp
theorem isKV_zip {K : PySem.W.Frag} {F : Hp} : ∀ {ks : List Str} {vs : List V} {ds : List D}, IsL K F vs ds → ks.length = ds.length → IsKV K F ((ks.map (fun k => (.inr k : Key))).zip vs) (dpair ks ds)
  | [], _, _, .nil, _ => .nil
  | k :: ks, _, _, .cons h1 h2, hl => .cons h1 (isKV_zip h2 (by simpa using hl))
theorem zip_map_kV : ∀ (ks : List Str) (vs : List V), (ks.map V.str).zip vs = ((ks.map (fun k => (.inr k : Key))).zip vs).map fun kv => (kV kv.1, kv.2)
  | [], _ => rfl
  | k :: ks, [] => rfl
  | k :: ks, v :: vs => by
    exact congrArg (List.cons (V.str k, v)) (zip_map_kV ks vs)
theorem keys_zip : ∀ (ks : List Str) (vs : List V), ks.length = vs.length → ((ks.map (fun k => (.inr k : Key))).zip vs).map (·.1) = ks.map (fun k => (.inr k : Key))
  | [], _, _ => rfl
  | k :: ks, v :: vs, h => by
    exact congrArg (List.cons (.inr k : Key)) (keys_zip ks vs (by simpa using h))
theorem dct_ok {keys : List (Option Expr)} {ks : List Str} {values : List Expr} {es' : Exs} {p : Pos} (hk : dkeys keys = some ks) (h0 : ks ≠ []) (h : OkEs X (valC cx) b values es') (hl : keys.length = values.length) : OkN X (.Dict keys values p) (evalN (valC cx) b (.dct ks es')) := by
  intro r m c m' hh
  unfold evalN at hh
  dsimp only at hh
  obtain ⟨⟨ds, m1⟩, h1, hh⟩ := bind_some hh
  dsimp only at hh
  split at hh
  · rename_i h2
    split at hh
    · rename_i h3
      cases hh
      simp only [Bool.and_eq_true, decide_eq_true_eq] at h3
      obtain ⟨⟨⟨z1, z2⟩, z3⟩, z4⟩ := h3
      obtain ⟨f1, f2⟩ := dkeys_facts hk
      refine ⟨rfl, fun σ F io H st en Q q => ?_⟩
      refine PE.de (pe_disp (pps_of hk h hl) f1 hl (fun e => h0 (by rw [e] at f2; exact List.length_eq_zero_iff.mp f2.symm)) (by omega)) fun pp hp => ?_
      have A0 := Adv.cell (c := .dct [] false) st hp ⟨[], rfl, .nil⟩ (fun ds b h => by rcases h with h | ⟨es, h⟩ <;> cases h; rfl)
      have hlen : (m ++ [Cell.dct [] false]).length = m.length + 1 := by simp
      refine pairs_ok h (by omega) h1 σ F _ _ A0.st (en.adv A0) _ fun vs F' io' H' A hvs => ?_
      have ion : io' m.length = pp := (A.ii m.length (by rw [hlen]; exact Nat.lt_succ_self _)).trans (if_pos rfl)
      obtain ⟨nf, kv0, e0, k0⟩ := A.st.cell _ _ h2
      cases k0
      rw [ion] at e0
      have hv : vs.length = ds.length := hvs.length
      refine ⟨e0, _, zip_map_kV ks vs, ?_, ?_⟩
      · rw [List.length_zip, List.length_map]; omega
      · have nd : (List.map (fun (p : Key × V) => p.1) ([] ++ (ks.map (fun k => (.inr k : Key))).zip vs)).Nodup := by
          rw [List.nil_append, keys_zip ks vs (by omega)]
          exact List.Pairwise.map _ (fun a b (h : a ≠ b) (e : (.inr a : Key) = .inr b) => h (Sum.inr.inj e)) z4
        rw [merge_new nd, List.nil_append, upd_del2]
        have L := A.st.cut (n := m.length) (by omega) nf
        rw [ion] at L
        have AA : Adv X.K F io m F' io' (m1.take m.length) (delA H' pp) := ⟨A0.ff.trans A.ff, fun j hj => (A0.trans A).ii j hj, by rw [List.length_take]; omega, L⟩
        exact q pp _ F' io' _ AA (if_pos rfl) ⟨_, rfl, isKV_zip hvs (by omega)⟩
    · cases hh
  · cases hh
theorem valC_some {f : Nat} {vs : List Vl} {m m' : Mu} {v : Vl} (h : valC cx f vs m = some (v, m')) : cx f vs m = some (.ok v, m') := by
  unfold valC at h
  split at h
  · rename_i e
    cases h
    exact e
  · cases h
theorem call_ok (C : Cxt G cx k N sc X) {x : Str} {f : Nat} {e : Expr} {es : List Expr} {es' : Exs} {p pos : Pos} (h1 : G.fn.lookup x = some f) (h2 : gloB sc x = true) (h3 : okN x = true) (h : OkEs X (valC cx) b (e :: es) es') : OkE X (.Call (.Name x p) (e :: es) [] pos) (evalE (valC cx) b (.call f es')) := by
  intro r m vl m' hh σ F io H st en Q q
  unfold evalE at hh
  obtain ⟨⟨vs, m1⟩, g1, hh⟩ := bind_some hh
  obtain ⟨a, fd, ps, i1, i2, i3, i4, i5, _⟩ := C.md.fn x f h1
  refine DE.fcall i4 C.room C.grd (C.gl h2) i1 i2 i3 (okN_at h3).1 h.star.1 (fun pos => h.star.2 _ pos) (h.l r m vs m1 g1 σ F io H st en _ fun xs F' io' H' A hxs => ?_)
  have hh := valC_some hh
  exact ⟨hxs.length.trans (i5 _ _ _ hh), F', io', m1, vs, _, m', A.st, hxs, hh, fun v F2 io2 H2 A2 hv => q v F2 io2 H2 (A.trans A2) hv⟩
def DK (X : Cx) (kws : List Keyword) (σ : L2.St) (H : Hp) (Q : List V → Hp → Prop) : Prop := ∀ (pos : Pos) (pins : List (Addr × Obj)) (s : Shared), Inv X pins σ H s → wpAny (model X.prog X.w) X.A (evalAll ((backToKw pos (keywordEach kws X.env)).map (·.2))) (AP X pins σ Q) X.xe s
theorem cK {kws : List Keyword} : PK X kws (fun σ H Q => DK X kws σ H Q) := ⟨fun pos pins s _ _ _ I h => h pos pins s I⟩
theorem PK.dk {kws : List Keyword} {t : TA} {σ : L2.St} {H : Hp} {Q : List V → Hp → Prop} (h : PK X kws t) (q : t σ H Q) : DK X kws σ H Q := fun pos pins s I => h.run pos pins s σ H Q I q
theorem kws_ok : ∀ {kws : List Keyword} {es' : Exs}, OkEs X (valC cx) b (kws.map (·.value)) es' → ∀ r m vls m', evalL (valC cx) b es' r m = some (vls, m') → ∀ (σ : L2.St) (F : Hp) (io : Nat → Addr) (H : Hp), Stt X.K F io m H → EnOk X.K F io m.length σ r → ∀ Q : List V → Hp → Prop,
    (∀ vs F' io' H', Adv X.K F io m F' io' m' H' → VlsOk X.K F' io' m'.length vs vls → Q vs H') → DK X kws σ H Q
  | [], _, .nil, r, m, vls, m', hh, σ, F, io, H, st, en, Q, q => by
    obtain ⟨rfl, rfl⟩ := l_nil hh
    exact PK.dk pk_nil (q [] F io H (Adv.refl st) .nil)
  | ⟨nm, e, kp⟩ :: kws, _, .cons h1 h2 h3, r, m, vls, m', hh, σ, F, io, H, st, en, Q, q => by
    obtain ⟨v, ws, m1, rfl, g1, g2⟩ := l_inv hh
    refine PK.dk (pk_cons (cE (X := X)) (cK (X := X))) ?_
    refine h2 r m v m1 g1 σ F io H st en _ fun x F1 io1 H1 A1 hx => ?_
    refine kws_ok h3 r m1 ws m' g2 σ F1 io1 H1 A1.st (en.adv A1) _ fun xs F2 io2 H2 A2 hxs => ?_
    exact q _ F2 io2 H2 (A1.trans A2) (.cons (hx.adv A2) hxs)
theorem VlsOk.get {K : PySem.W.Frag} {F : Hp} {io : Nat → Addr} {n : Nat} : ∀ {vs : List V} {ls : List Vl}, VlsOk K F io n vs ls → ∀ i : Nat, (vs[i]? = none ∧ ls[i]? = none) ∨ ∃ v l, vs[i]? = some v ∧ ls[i]? = some l ∧ VlOk K F io n v l
  | _, _, .nil, i => .inl ⟨by simp, by simp⟩
  | _, _, .cons h _, 0 => .inr ⟨_, _, rfl, rfl, h⟩
  | _, _, .cons _ t, i + 1 => by simpa using VlsOk.get t i
theorem VlsOk.pick {K : PySem.W.Frag} {F : Hp} {io : Nat → Addr} {n : Nat} {vs : List V} {ls : List Vl} (h : VlsOk K F io n vs ls) : ∀ ix : List Nat, VlsOk K F io n (ix.filterMap fun i => vs[i]?) (ix.filterMap fun i => ls[i]?)
  | [] => .nil
  | i :: ix => by
    rcases h.get i with ⟨a, c⟩ | ⟨v, l, a, c, k⟩
    · rw [List.filterMap_cons_none a, List.filterMap_cons_none c]; exact h.pick ix
    · rw [List.filterMap_cons_some a, List.filterMap_cons_some c]; exact .cons k (h.pick ix)
theorem vals_get {vs : List V} {us : List Value} (h : Vals vs us) : ∀ i : Nat, (vs[i]? = none ∧ us[i]? = none) ∨ ∃ v u, vs[i]? = some v ∧ us[i]? = some u ∧ RelV v u := by
  induction h with
  | nil => intro i; exact .inl ⟨by simp, by simp⟩
  | cons h _ ih =>
    intro i
    cases i with
    | zero => exact .inr ⟨_, _, rfl, rfl, h⟩
    | succ i => simpa using ih i
theorem vals_pick {vs : List V} {us : List Value} (h : Vals vs us) : ∀ ix : List Nat, Vals (ix.filterMap fun i => vs[i]?) (ix.filterMap fun i => us[i]?)
  | [] => .nil
  | i :: ix => by
    rcases vals_get h i with ⟨a, c⟩ | ⟨v, l, a, c, k⟩
    · rw [List.filterMap_cons_none a, List.filterMap_cons_none c]; exact vals_pick h ix
    · rw [List.filterMap_cons_some a, List.filterMap_cons_some c]; exact .cons k (vals_pick h ix)
theorem kwcall_ok (C : Cxt G cx k N sc X) {x : Str} {f : Nat} {ks : List Str} {ix : List Nat} {kws : List Keyword} {es' : Exs} {p pos : Pos} (h1 : G.fn.lookup x = some f) (hm : (f, ks, ix) ∈ G.kw) (h2 : gloB sc x = true) (h3 : okN x = true)
    (hall : ∀ env pos, (backToKw pos (keywordEach kws env)).all (·.1.isSome) = true) (hks : ∀ env pos, (backToKw pos (keywordEach kws env)).filterMap (·.1) = ks) (hpl : ∀ env pos, ((backTo pos (starEach [] env)).any (·.1) || (backToKw pos (keywordEach kws env)).any (·.1.isNone)) = false)
    (hn : kws.length = ks.length) (h : OkEs X (valC cx) b (kws.map (·.value)) es') : OkE X (.Call (.Name x p) [] kws pos) (evalE (valC cx) b (.callk f ix es')) := by
  intro r m vl m' hh σ F io H st en Q q
  unfold evalE at hh
  obtain ⟨⟨vs, m1⟩, g1, hh⟩ := bind_some hh
  obtain ⟨a, fd, ps, i1, i2, i3, i4, i5, i6⟩ := C.md.fn x f h1
  obtain ⟨_, _, kb⟩ := i6 ks ix hm
  intro pins s I
  refine wpAny_Call_Name_kw (ld_glob I (C.gl h2) i1 ?_ (okN_at h3).1)
  refine PySem.W.callWith_KW0 (h₀ := X.base) I.ok.mod.kin i2 (hall _ _) ?_ (hpl _ _)
  refine thn ((kws_ok h r m vs m1 g1 σ F io H st en (fun ws H1 => spX X.K (cx f) ps.length (ix.filterMap fun i => ws[i]?) H1 Q NoE ∧ ws.length = kws.length) fun xs F' io' H' A hxs => ?_) pos pins s I) fun us s1 ⟨ws, H1, I1, rr, qq, hl⟩ => ⟨I1.kIn, ?_⟩
  · refine ⟨?_, ?_⟩
    · have hp := hxs.pick ix
      have hh := valC_some hh
      exact ⟨hp.length.trans (i5 _ _ _ hh), F', io', m1, _, _, m', A.st, hp, hh, fun v F2 io2 H2 A2 hv => q v F2 io2 H2 (A.trans A2) hv⟩
    · have key : ∀ {es : List Expr} {es' : Exs}, OkEs X (valC cx) b es es' → ∀ {r m vs m'}, evalL (valC cx) b es' r m = some (vs, m') → vs.length = es.length := by
        intro es es' h
        induction h with
        | nil => intro r m vs m' z; obtain ⟨rfl, _⟩ := l_nil z; rfl
        | cons _ _ _ ih =>
          intro r m vs m' z
          obtain ⟨v, ws, m1, rfl, _, z2⟩ := l_inv z
          simp [ih z2]
      rw [hxs.length, key h g1]; simp
  · rw [hks]
    show wpAny _ _ (PySem.call (.ref a) [] (ks.zip us)) _ _ s1
    exact call_fn i4 C.room C.grd I1 (kb s1 us I1.kIn (by rw [← rr.length, hl, hn])) (vals_pick rr ix) qq
theorem srcval_ok {tg e : Expr} {e' : Ex} (h : OkE X e (evalE (valC cx) b e')) : OkR X tg e (evalS (valC cx) b (.val e')) := by
  intro r m ds m' hh σ F io H st en R q
  unfold evalS at hh
  obtain ⟨⟨v, m1⟩, g1, hh⟩ := bind_some hh
  obtain ⟨⟨d, m2⟩, g2, hh⟩ := bind_some hh
  obtain ⟨l, g3, hh⟩ := bind_some hh
  cases hh
  have go : ∀ x F' io' H', Adv X.K F io m F' io' m1 H' → VlOk X.K F' io' m1.length x v → ∃ F2, Adv X.K F io m F2 io' m' H' ∧ Is X.K F2 x d := fun x F' io' H' A hx => by
    obtain ⟨F2, A2, ix⟩ := hx.down A.st g2
    exact ⟨F2, A.trans A2, ix⟩
  unfold srcF at g3
  split at g3 <;> cases g3
  · refine PI.di (pi_list (cE (X := X))) (h r m v m1 g1 σ F io H st en _ fun x F' io' H' A hx => ?_)
    obtain ⟨F2, A2, ix⟩ := go x F' io' H' A hx
    cases ix with
    | lst s1 s2 => exact ⟨_, rfl, ⟨_, A2.st.sub.sl s1⟩, q _ F2 io' H' A2 (good_list s1 s2)⟩
  · refine PI.di (pi_tup (cE (X := X))) (h r m v m1 g1 σ F io H st en _ fun x F' io' H' A hx => ?_)
    obtain ⟨F2, A2, ix⟩ := go x F' io' H' A hx
    cases ix with
    | tup s1 s2 => exact ⟨_, rfl, ⟨_, A2.st.sub.st s1⟩, q _ F2 io' H' A2 (good_tup s1 s2)⟩
  · refine PI.di (pi_str (cE (X := X))) (h r m v m1 g1 σ F io H st en _ fun x F' io' H' A hx => ?_)
    obtain ⟨F2, A2, ix⟩ := go x F' io' H' A hx
    cases ix
    exact ⟨_, rfl, q _ F2 io' H' A2 good_str⟩
theorem small_at {i : Int} (h : small i = true) : -(2 ^ 62) ≤ i ∧ i < 2 ^ 62 := by
  unfold small at h
  simpa only [Bool.and_eq_true, decide_eq_true_eq] using h
theorem range1_ok (C : Cxt G cx k N sc X) {tg a : Expr} {a' : Ex} {p pos : Pos} (hb : bltB G sc "range" = true) (hs : plainStar a []) (h : OkE X a (evalE (valC cx) b a')) : OkR X tg (.Call (.Name "range" p) [a] [] pos) (evalS (valC cx) b (.range (.cons a' .nil))) := by
  intro r m ds m' hh σ F io H st en R q
  unfold evalS at hh
  obtain ⟨⟨vs, m1⟩, g1, hh⟩ := bind_some hh
  obtain ⟨l, g2, hh⟩ := bind_some hh
  obtain ⟨l', g3, hh⟩ := bind_some hh
  cases hh
  obtain ⟨v, rfl, g4⟩ := l_one g1
  obtain ⟨d, rfl, e1⟩ := views_one g2
  obtain ⟨i1, i2, i3, i4⟩ := C.blt hb
  unfold rangeF at g3
  split at g3 <;> rename_i hz <;> first | (cases hz; done) | skip
  · cases hz
    split at g3
    · rename_i j hj
      cases g3
      refine PI.di (pi_range1 i1 i2 (cA (X := X)) (hs _)) ((OkEs.one hs h).l r m _ _ g1 σ F io H st en _ fun xs F' io' H' A hxs => ?_)
      cases hxs with
      | cons hx ht =>
        cases ht
        have e := (hx.vw A.st e1).int
        subst e
        obtain ⟨z1, z2⟩ := small_at hj
        exact ⟨j, rfl, z1, z2, q _ F' io' H' A good_range⟩
    · cases g3
  · cases g3
theorem range2_ok (C : Cxt G cx k N sc X) {tg a c : Expr} {a' c' : Ex} {p pos : Pos} (hb : bltB G sc "range" = true) (hs : plainStar a [c]) (hs2 : plainStar c []) (h : OkE X a (evalE (valC cx) b a')) (h2 : OkE X c (evalE (valC cx) b c')) : OkR X tg (.Call (.Name "range" p) [a, c] [] pos) (evalS (valC cx) b (.range (.cons a' (.cons c' .nil)))) := by
  intro r m ds m' hh σ F io H st en R q
  unfold evalS at hh
  obtain ⟨⟨vs, m1⟩, g1, hh⟩ := bind_some hh
  obtain ⟨l, g2, hh⟩ := bind_some hh
  obtain ⟨l', g3, hh⟩ := bind_some hh
  cases hh
  obtain ⟨v, w, m2, rfl, g4, g5⟩ := l_two g1
  obtain ⟨d, d2, rfl, e1, e2⟩ := views_two g2
  obtain ⟨i1, i2, i3, i4⟩ := C.blt hb
  unfold rangeF at g3
  split at g3 <;> rename_i hz <;> first | (cases hz; done) | skip
  · cases hz
    split at g3
    · rename_i i j hj
      cases g3
      simp only [Bool.and_eq_true] at hj
      refine PI.di (pi_range2 i1 i2 (cA (X := X)) (by rw [hs, hs2]; rfl) (hs2 _)) ((OkEs.two hs hs2 h h2).l r m _ _ g1 σ F io H st en _ fun xs F' io' H' A hxs => ?_)
      cases hxs with
      | cons hx ht =>
        cases ht with
        | cons hy ht =>
          cases ht
          have e := (hx.vw A.st e1).int
          subst e
          have e := (hy.vw A.st e2).int
          subst e
          obtain ⟨z1, z2⟩ := small_at hj.1
          obtain ⟨z3, z4⟩ := small_at hj.2
          exact ⟨i, j, rfl, ⟨z1, z2, z3, z4⟩, q _ F' io' H' A good_range⟩
    · cases g3
  · cases g3
theorem enum_ok (C : Cxt G cx k N sc X) {es : List Expr} {kk : Nat} {tp : Pos} {e : Expr} {e' : Ex} {p pos : Pos} (hb : bltB G sc "enumerate" = true) (hs : plainStar e []) (h : OkE X e (evalE (valC cx) b e')) : OkR X (.Tuple es kk tp) (.Call (.Name "enumerate" p) [e] [] pos) (evalS (valC cx) b (.enum e')) := by
  intro r m ds m' hh σ F io H st en R q
  unfold evalS at hh
  obtain ⟨⟨v, m1⟩, g1, hh⟩ := bind_some hh
  obtain ⟨⟨d, m2⟩, g2, hh⟩ := bind_some hh
  obtain ⟨l, g3, hh⟩ := bind_some hh
  cases hh
  obtain ⟨i1, i2, i3, i4⟩ := C.blt hb
  unfold lstF at g3
  split at g3 <;> cases g3
  refine PI.di (pi_enum i1 i2 (cA (X := X)) (hs _)) (PA.da (pa_cons (cE (X := X)) pa_nil (hs _)) (h r m v m1 g1 σ F io H st en _ fun x F' io' H' A hx => ?_))
  obtain ⟨F2, A2, ix⟩ := hx.down A.st g2
  cases ix with
  | lst s1 s2 => exact ⟨_, _, rfl, A2.st.sub.sl s1, q _ F2 io' H' (A.trans A2) (good_enum s1 s2)⟩
end
end
end TI
set_option maxHeartbeats 200000
set_option maxHeartbeats 4000000
namespace TI
open PySem PySem.Spec PyProof.Rows
theorem metN_le (xs : List Str) : ∀ i, metN xs i ≤ i
  | 0 => Nat.le_refl 0
  | i + 1 => by
    have := metN_le xs i
    unfold metN
    split <;> omega
section
variable {prog : Program} {w : World} {A : Around} {R : Result → Shared → Prop} {I : Addr} {fp wr : List Addr} {G : Array GenState → Array GenState → Prop} {n : Nat} {P : Nat → Value → Prop} {St : Nat → Shared → Prop}
abbrev TextsAt (prog : Program) (w : World) (h : Heap) (S : Addr) (xs : List Str) (i : Nat) : Prop := h.SetOf (strKind prog w) S (fun z => (xs.take i).any (· == z)) (metN xs i)
theorem take_next {xs : List Str} {i : Nat} (h : i < xs.length) (z : Str) : ((xs.take (i + 1)).any (· == z)) = ((xs.take i).any (· == z) || decide (z = xs.getD i Str.empty)) := by
  rw [List.take_add_one, List.getElem?_eq_getElem h, List.any_append]
  have e : xs.getD i Str.empty = xs[i] := by rw [List.getD_eq_getElem?_getD, List.getElem?_eq_getElem h]; rfl
  rw [e]
  congr 1
  show (xs[i] == z || false) = decide (z = xs[i])
  rw [Bool.or_false, Bool.eq_iff_iff, beq_iff_eq, decide_eq_true_eq]
  exact eq_comm
theorem fill_loop (W : WalksS prog w A.in1 I fp wr G n P St) (S : Addr) (out : S ∉ fp) (xs : List Str) (sz : xs.length = n) (few : n < 4000) (val : ∀ i v, P i v → ∃ t, v = .str (xs.getD i Str.empty) t) : ∀ (k i : Nat) (s : Shared), n - i = k → i ≤ n → St i s → TextsAt prog w s.heap S xs i →
    (∀ s', Moved (S :: wr) G s s' → TextsAt prog w s'.heap S xs n → R (.ok (.ret .none)) s') → codeAny (model prog w) A (.builtin "set.update.loop" ⟨[.ref S, .ref I], []⟩) R s := by
  have outW : S ∉ wr := fun h => out (W.sub _ h)
  have more : ∀ b ∈ wr, b ∈ S :: wr := fun b hb => List.mem_cons_of_mem _ hb
  have stay : ∀ {i : Nat} {s s' : Shared}, Moved wr G s s' → TextsAt prog w s.heap S xs i → TextsAt prog w s'.heap S xs i := fun m ⟨o, es, ep, t, ho, rest⟩ => ⟨o, es, ep, t, m.heap S _ outW ho, rest⟩
  intro k
  induction k with
  | zero =>
    intro i s hk hi st hS q
    obtain rfl : i = n := by omega
    refine codeAny_builtin PyProof.Rows.F.entry_set_update_loop ?_
    rw [Around.under_plainId PyProof.Rows.F.plain_set_update_loop _]; show wpAny _ A.in1 (pyNext (.ref I) >>= _) _ _ s
    refine wpAny_bind (W.done s _ _ st fun s' m => ?_)
    exact wpAny_pure (q s' (m.mono more) (stay m hS))
  | succ k ih =>
    intro i s hk hi st hS q
    have lt : i < n := by omega
    refine codeAny_builtin PyProof.Rows.F.entry_set_update_loop ?_
    rw [Around.under_plainId PyProof.Rows.F.plain_set_update_loop _]; show wpAny _ A.in1 (pyNext (.ref I) >>= _) _ _ s
    refine wpAny_bind (W.item i s _ _ lt st fun v s' hP st' m => ?_)
    obtain ⟨t, rfl⟩ := val i v hP
    have hS' := stay m hS
    have nb := metN_le xs i
    show wpAny _ A.in1 (holding [Value.str (xs.getD i Str.empty) t] (setAdd S (.str (xs.getD i Str.empty) t)) >>= _) _ _ s'
    unfold setAdd
    refine wpAny_bind (wpAny_holding (wpAny_holding (wpAny_bind ((strKind prog w).pyHash (k := xs.getD i Str.empty) (strKind_is _ _ _ _) ?_))))
    refine wpAny_setAddHashed_of (knd := strKind prog w) (s := { s' with toks := s'.toks + 1 }) (strKind_is _ _ _ _) rfl hS' (by unfold scanBound; omega) fun h' sb S2 => ?_
    have S3 : TextsAt prog w h' S xs (i + 1) := by
      refine SetOf_congr S2 (fun z => (take_next (by omega) z).symm) ?_
      show (if (xs.take i).any (· == xs.getD i Str.empty) = true then metN xs i else metN xs i + 1) = metN xs (i + 1)
      rfl
    refine wpAny_pure ⟨plainId_quiet PyProof.Rows.F.plain_set_update_loop _, ih (i + 1) _ (by omega) lt (W.frame _ s' _ _ st' (Nat.le_succ _) fun b hb o e => ?_) S3 fun s2 m2 hS2 => ?_⟩
    · exact (sb.2 b fun z : b = S => out (z ▸ hb)).trans e
    · refine q s2 (Moved.trans W.gtrans ((m.mono more).then_heap (Nat.le_succ _) fun b o hb e => ?_) m2) hS2
      exact (sb.2 b fun z : b = S => hb (z ▸ List.mem_cons_self)).trans e
end
section
variable {prog : Program} {w : World} {A : Around} {E : Value → Shared → Prop} {s : Shared}
theorem call_texts {l : Addr} {items : Array Value} {xs : List Str} {Q : Value → Shared → Prop} (hh : A.handled = none) (hl : s.heap.IsList l items) (hi : StrsAre items.toList xs) (few : xs.length < 4000)
    (h : ∀ (h' : Heap) (tk : Nat), TextsAt prog w h' s.heap.objs.size xs xs.length → (∀ b o, b < s.heap.objs.size → s.heap.get? b = some o → h'.get? b = some o) → Q (.ref s.heap.objs.size) { s with heap := h', toks := tk }) :
    wpAny (model prog w) A (call (.type "set") [.ref l]) Q E s := by
  obtain ⟨c, tl, hmro⟩ := PySem.F.called_set.mro
  obtain ⟨hmade, hsub⟩ := And.intro PySem.F.called_set.made PySem.F.called_set.sub
  refine wpAny_call (codeAny_of_tree ?_); show wpAny _ _ (callAny (.type "set") _) _ _ _
  refine wpAny_pure ⟨Code.quiet_builtin _ (by decide +kernel), codeAny_builtin PySem.F.entry_type_call ?_⟩; rw [Around.under_plain (weight_type_call_type "set" [.ref l] []) rfl]
  obtain ⟨h1, h2, hct⟩ := And.intro PySem.F.called_set.notType (And.intro PySem.F.called_set.canCreate (PySem.F.typeCall_set_1 (.ref l)))
  repeat (any_goals (first | assumption | wp_step))
  have len : xs.length = items.size := by rw [← StrsAre.len_eq hi, Array.length_toList]
  refine codeAny_mono (code_set_new_1 (.ref l) (E := E) (Q₁ := fun obj s₁ => ∃ b : Bool, obj = .ref s.heap.objs.size ∧ s₁ = { s with heap := s.heap.push { cls := .type "set", dict := none, data := .set #[] 0 (.fresh 0 0 b) } }) fun b => ⟨b, rfl, rfl⟩) fun r s₁ hr => ?_
  rcases r with e | ⟨⟩ | ⟨⟩ | ⟨⟩ | obj
  all_goals first | exact hr | exact hr.elim | skip
  all_goals
    obtain ⟨led, rfl, rfl⟩ := hr
    have new : (s.heap.push { cls := .type "set", dict := none, data := .set #[] 0 (.fresh 0 0 led) }).get? s.heap.objs.size = some { cls := .type "set", dict := none, data := .set #[] 0 (.fresh 0 0 led) } := Heap.get?_push_size _ rfl
    have hT : Shared.TypeIs { s with heap := s.heap.push { cls := .type "set", dict := none, data := .set #[] 0 (.fresh 0 0 led) } } (.ref s.heap.objs.size) "set" := ⟨_, new, rfl⟩
    obtain ⟨hli, hbi⟩ := And.intro PySem.F.called_set.init.lookup (PySem.F.called_set.init.bind (.ref s.heap.objs.size))
    repeat (any_goals (first | assumption | wp_step))
    refine codeAny_mono (codeAny_call_builtin (R := wants (fun r s₂ => r = .none ∧ ∃ h' tk, s₂ = { s with heap := h', toks := tk } ∧ TextsAt prog w h' s.heap.objs.size xs xs.length ∧
      (∀ b o, b < s.heap.objs.size → s.heap.get? b = some o → h'.get? b = some o)) E) PySem.F.called_set.init.plain PySem.F.entry_set_init (check_set_init_1 hT ?_)) fun r₂ s₂ hr₂ => ?_
    · obtain ⟨⟨ocls, odict, odata, oslots⟩, hol, hcl, nl, hdl⟩ := hl
      simp only at hcl hdl; subst hcl; subst hdl
      have hol' : (s.heap.push { cls := .type "set", dict := none, data := .set #[] 0 (.fresh 0 0 led) }).get? l = some { cls := .type "list", dict := odict, data := .seq items nl, slots := oslots } := Heap.get?_push_of_some _ hol
      obtain ⟨g1, g2⟩ := And.intro PySem.F.sub_list_set PySem.F.sub_list_frozenset
      have g3 : (Value.type "list" == Value.type "dict") = false := by decide
      have isl : (s.heap.push { cls := .type "set", dict := none, data := .set #[] 0 (.fresh 0 0 led) }).IsList l items := ⟨_, hol', rfl, nl, rfl⟩
      unfold Builtin.«set.__init__» noKeywords Builtin.Frozenset.updateFrom
      generalize hPI : pyIter = PI
      wp_walk
      subst hPI
      refine wpAny_pyIter_list isl (wpAny_bind (wpAny_runValue ?_))
      have lS : l < s.heap.objs.size := Heap.lt_size hol
      have h3 : A.in1.in1.in1.handled = none := by simp [hh]
      have apart : l ≠ (s.heap.push { cls := .type "set", dict := none, data := .set #[] 0 (.fresh 0 0 led) }).objs.size := by rw [Heap.size_push]; exact Nat.ne_of_lt (Nat.lt_succ_of_lt lS)
      have out : s.heap.objs.size ∉ [(s.heap.push { cls := .type "set", dict := none, data := .set #[] 0 (.fresh 0 0 led) }).objs.size, l] := by
        rw [Heap.size_push]
        intro z
        rcases List.mem_cons.mp z with z | z
        · exact absurd z (Nat.ne_of_lt (Nat.lt_succ_self _))
        · exact absurd (List.mem_singleton.mp z) (Nat.ne_of_gt lS)
      have val : ∀ (i : Nat) (v : Value), items[i]? = some v → ∃ t, v = .str (xs.getD i Str.empty) t := fun i v e => SS.strs_at hi i v (by rw [Array.getElem?_toList]; exact e)
      refine fill_loop ((Walks.list h3 _ l apart items).toS) s.heap.objs.size out xs len (by omega) val (items.size - 0) 0 _ (by omega) (Nat.zero_le _) ⟨⟨_, Heap.get?_push_size _ rfl, rfl, rfl⟩, (isl.push _)⟩ ?hS0 ?hR
      case hS0 =>
        have at0 : ((s.heap.push { cls := .type "set", dict := none, data := .set #[] 0 (.fresh 0 0 led) }).push { cls := .type "list_iterator", data := .fields #[.ref l, .int 0 0] }).get? s.heap.objs.size = some { cls := .type "set", dict := none, data := .set #[] 0 (.fresh 0 0 led) } := Heap.get?_push_of_some _ new
        exact SetOf_congr ((setObjOf_fresh (knd := strKind prog w) led).setOf at0 (by unfold scanBound; omega)) (fun _ => rfl) rfl
      case hR =>
        rintro ⟨h', g', d', tk', os'⟩ hm hS'
        obtain rfl : g' = s.gens := hm.gens
        obtain rfl : d' = s.drawn := hm.drawn
        obtain rfl : os' = s.os := hm.os
        show wpAny _ _ _ _ _ _
        refine wpAny_pure ?_
        show wpAny _ _ (ret Value.none) _ _ _
        refine wpAny_pure ⟨rfl, h', tk', rfl, by rw [len]; exact hS', fun b o hb e => ?_⟩
        have b2 : b ≠ (s.heap.push { cls := .type "set", dict := none, data := .set #[] 0 (.fresh 0 0 led) }).objs.size := by rw [Heap.size_push]; exact Nat.ne_of_lt (Nat.lt_succ_of_lt hb)
        refine hm.heap b o (fun z => ?_) (Heap.get?_push_of_some _ (Heap.get?_push_of_some _ e))
        rcases List.mem_cons.mp z with z | z
        · exact absurd z (Nat.ne_of_lt hb)
        · exact absurd (List.mem_singleton.mp z) b2
    · rcases r₂ with e | ⟨⟩ | ⟨⟩ | ⟨⟩ | r
      all_goals first | exact hr₂ | exact hr₂.elim | skip
      all_goals
        obtain ⟨rfl, h', tk, rfl, hS', hk'⟩ := hr₂
        repeat (any_goals (first | assumption | wp_step))
        exact h _ _ hS' hk'
end
theorem ext_any (l b : Addr) (its its2 : Array Value) (n n2 : Nat) (dd : Option Addr) (sl : Array (Option Value)) (h0 : ¬(!its.isEmpty && Builtin.List.listTooLong (its.size + its2.size)) = true) (h1 : its.size ≤ sizeLine) (h2 : its.size + its2.size ≤ sizeLine + 1) :
    Meets (Builtin.«list.extend» ⟨[.ref l, .ref b], []⟩) (fun _ R s => s.heap.get? l = some { cls := .type "list", dict := none, data := .seq its n, slots := #[] } ∧ s.heap.get? b = some { cls := .type "list", dict := dd, data := .seq its2 n2, slots := sl } ∧
      R (.ok (.ret Value.none)) { s with heap := s.heap.update l (Obj.mapSeq fun x => x ++ its2), toks := s.toks }) :=
  .of_wp fun prog w A R s h => by
    obtain ⟨hp, g, d, tk, os⟩ := s
    obtain ⟨hl, hb, h⟩ := h
    obtain ⟨f1, f2, f3, f4, f5⟩ := And.intro AutoSeq1.idx_int (And.intro AutoSeq1.sub_tuple_tuple (And.intro AutoSeq1.sub_list_list (And.intro AutoSeq1.sub_tuple_list AutoSeq1.sub_list_tuple)))
    have both : (its ++ its2).size ≤ sizeLine + 1 := by rw [Array.size_append]; exact h2
    wp_walk using (PySem.wpAny_updateSeq hl rfl (hz := h1) (_hz' := both)), AutoSeq1.wpAny_loadPart' hl, AutoSeq1.wpAny_loadPart' hb
    exact ⟨_, rfl, h⟩
section
open L2
variable {X : Cx}
theorem mt_ext : MtM X "list.extend" (fun x vs H Q => ∃ l b xs zs, x = .ref l ∧ vs = [.ref b] ∧ H l = some (.lst xs) ∧ SqL X.K H b zs ∧ xs.length + zs.length ≤ sizeLine ∧ Q .non (upd H l (.lst (xs ++ zs)))) := by
  rintro pins s σ H x xs' v us Q I rx rv ⟨l, b, xs, zs, rfl, rfl, hH, hB, hz, q⟩
  cases rx
  obtain ⟨u, rfl, ru⟩ := rv.one
  cases ru
  obtain ⟨z, its, n, r, hl, e⟩ := I.lstM hH
  obtain ⟨its2, r2, ⟨⟨cls, dd, data, sl⟩, n2, ho, hc, _, hd⟩, _⟩ := I.list hB
  simp only at hc hd; subst hc hd
  have l2 := r2.length
  have sz : its.toArray.size + its2.toArray.size ≤ sizeLine := by rw [List.size_toArray, List.size_toArray]; omega
  have short : ¬ (!its.toArray.isEmpty && Builtin.List.listTooLong (its.toArray.size + its2.toArray.size)) = true := by
    rw [notLongL sz, Bool.and_false]; exact Bool.false_ne_true
  refine call_meets F.slot_list_extend ⟨_, e, rfl⟩ F.entry_list_extend (F.args_list_extend_2 _ _) (ext_any l b its.toArray its2.toArray n n2 dd sl short (by rw [List.size_toArray]; omega) (by omega)) ⟨e, ho, ?_⟩
  exact ⟨.non, _, I.lset (its' := its ++ its2) hH e (by simp) (r.append r2) (by rw [List.length_append]; omega), rfl, q⟩
end
section
open L2
variable {G : Sg} {cx : Nat → List Vl → Mu → Option (XR × Mu)} {k : Nat} {X : Cx} {b : Nat} {N : List Str} {sc : Scope}
theorem rev_ok {e : Expr} {e' : Ex} {kk : Nat} {p1 p2 p3 p : Pos} (he : OkE X e (evalE (valC cx) b e')) : OkN X (.Subscript e (.Slice none none (some (.UnaryOp .USub (.Constant (.int 1) kk p1) p2)) p3) p) (evalN (valC cx) b (.op .slRev (.cons e' .nil))) := by
  intro r m c m' hh
  obtain ⟨vs, ds, h1, h2, h3⟩ := nop_inv hh
  obtain ⟨v, rfl, g⟩ := l_one h1
  obtain ⟨d1, rfl, e1⟩ := views_one h2
  refine ⟨opN_unf h3, fun σ F io H st en Q q => ?_⟩
  replace h3 : nRev [d1] = some c := h3
  unfold nRev at h3
  split at h3
  · rename_i ds hz
    cases hz
    cases h3
    refine PE.de (pe_revL (cE (X := X))) (he r m v m' g σ F io H st en _ fun vx F' io' H' A hvx => ?_)
    obtain ⟨p, xs, rfl, hx, kx⟩ := (hvx.vw A.st e1).list A.st.sub
    exact ⟨p, xs, rfl, hx, fun p' hp' => q p' _ F' io' H' A hp' ⟨_, rfl, kx.rev⟩⟩
  · cases h3
theorem dct0_ok {p : Pos} : OkN X (.Dict [] [] p) (evalN (valC cx) b .dct0) := by
  intro r m c m' hh
  unfold evalN at hh
  cases hh
  exact ⟨rfl, fun σ F io H st en Q q => PE.de pe_dnewK fun p hp => q p _ F io H (Adv.refl st) hp ⟨[], rfl, .nil⟩⟩
theorem lenset_ok (C : Cxt G cx k N sc X) {a : Expr} {a' : Ex} {p p2 q0 pos : Pos} (hb : bltB G sc "len" = true) (hb2 : bltB G sc "set" = true) (hs : plainStar a []) (ha : OkE X a (evalE (valC cx) b a')) :
    OkE X (.Call (.Name "len" p) [.Call (.Name "set" p2) [a] [] q0] [] pos) (evalE (valC cx) b (.op .setlen (.cons a' .nil))) := by
  intro r m vl m' hh σ F io H st en Q q
  obtain ⟨vs, ds, h1, h2, h3⟩ := op_inv hh
  obtain ⟨v, rfl, g⟩ := l_one h1
  obtain ⟨d1, rfl, e1⟩ := views_one h2
  rcases h3 with ⟨d, z, rfl⟩ | ⟨c, z, _⟩
  · replace z : fSetlen d1 = some d := z
    unfold fSetlen at z
    split at z <;> first | (cases z; done) | skip
    split at z
    rotate_left
    · split at z <;> first | (cases z; done) | skip
      split at z <;> first | (cases z; done) | skip
      rename_i ds hs0 ns hns hnd
      cases z
      simp only [Bool.and_eq_true, decide_eq_true_eq] at hnd
      obtain ⟨i1, i2, i3, i4⟩ := C.blt hb
      obtain ⟨j1, j2, j3, j4⟩ := C.blt hb2
      refine PE.de (RZ.pe_lenSetI i1 i2 j1 j2 (cE (X := X)) C.calm (hs _)) (ha r m v m' g σ F io H st en _ fun y F' io' H' A hy => ?_)
      obtain ⟨l, vs, rfl, hq, kq⟩ := (hy.vw A.st e1).list A.st.sub
      obtain rfl := kq.ints hns
      exact ⟨l, ns, rfl, hq, hnd.1, by omega, q _ F' io' H' A (.int _)⟩
    split at z <;> first | (cases z; done) | skip
    rename_i ds xs hxs hfew
    cases z
    obtain ⟨i1, i2, i3, i4⟩ := C.blt hb
    obtain ⟨j1, j2, j3, j4⟩ := C.blt hb2
    intro pins s I
    refine PyProof.Rows.Call_ (ld_blt I i1 i2 PySem.boot_len (PyProof.Rows.callWith_builtin1 (PyProof.Rows.args_cons ?_ rfl) rfl rfl))
    refine PyProof.Rows.Call_ (ld_blt I j1 j2 (by decide +kernel : bootBuiltins "set" = some (.type "set")) ?_)
    refine PyProof.Rows.callWith_type1 (PyProof.Rows.args_cons (thn (ha r m v m' g σ F io H st en (fun y H1 => ∃ F' io', Adv X.K F io m F' io' m' H1 ∧ VlOk X.K F' io' m'.length y v) (fun y F' io' H1 A hy => ⟨F', io', A, hy⟩) pins s I) fun u s1 ⟨y, H1, I1, r1, F', io', A, hy⟩ => PyProof.Rows.args_nil ?_) (hs _)) (hs _) rfl
    obtain ⟨l, vs, rfl, hq, kq⟩ := (hy.vw A.st e1).list A.st.sub
    cases r1
    obtain rfl := kq.strs hxs
    obtain ⟨its, rr, pl, _⟩ := I1.list hq
    refine call_texts (I1.ok.hd C.calm) pl.isList (by simpa using strsAre_of rr) hfew fun h' tk hS hk => PyProof.Rows.args_nil ?_
    obtain ⟨o, es, ep, t, ho, hex, hd, _, _, _, hf, hn⟩ := hS
    have I2 : Inv X pins σ H1 { s1 with heap := h', toks := tk } := I1.kept fun b o e => hk b o (Heap.lt_size e) e
    have nb := metN_le xs xs.length
    refine PySem.call_len_set ho hex hd hf (by rw [hn]; omega) ⟨.int (metN xs xs.length : Nat), H1, I2.tok _, ⟨_, by rw [hn]⟩, q _ F' io' H1 A (.int _)⟩
  · cases z
end
end TI
set_option maxHeartbeats 200000
set_option maxHeartbeats 4000000
namespace TI
open PySem PySem.Spec PyProof.Rows L2
abbrev ZS (h : Heap) (z I O : Addr) (f : Value) : Prop := h.get? z = some { cls := .type "zip", dict := none, data := .fields #[f, .bool false, .bool true, .ref I, .ref O], slots := #[] }
section
variable {prog : Program} {w : World} {A : Around} {E : Value → Shared → Prop} {s : Shared}
theorem draw_item {it l : Addr} {i : Nat} {items} {x : Value} {Q : Option Value → Shared → Prop} (hit : s.heap.IsListIter it l i) (hl : s.heap.IsList l items) (hx : items[i]? = some x)
    (hQ : ∀ h', h'.IsListIter it l (i + 1) → Heap.SameBut it s.heap h' → Q (some x) { s with heap := h' }) : wpAny (model prog w) A (Builtin.SmallTypes.nextOrEnd (.ref it)) Q E s := by
  unfold Builtin.SmallTypes.nextOrEnd
  exact wpAny_bind (wpAny_attempt (wpAny_nextOf_list_item hit hl hx fun h' h1 h2 => wpAny_pure (hQ h' h1 h2)))
theorem draw_end {it l : Addr} {i : Nat} {items} {Q : Option Value → Shared → Prop} (hh : A.handled = none) (hit : s.heap.IsListIter it l i) (hl : s.heap.IsList l items) (hx : items[i]? = none)
    (hQ : ∀ h', Heap.ExtBut it s.heap h' → Q none { s with heap := h' }) : wpAny (model prog w) A (Builtin.SmallTypes.nextOrEnd (.ref it)) Q E s := by
  unfold Builtin.SmallTypes.nextOrEnd
  refine wpAny_bind (wpAny_attempt (wpAny_nextOf_list_end hh hit hl hx fun h' e h1 he => ?_))
  obtain ⟨o, ho, hc⟩ := he
  exact wpAny_bind (wpAny_isInstance (T := "StopIteration") (b := true) ⟨o, ho, hc⟩ isSubtype_stop (wpAny_pure (hQ h' h1)))
theorem stop_now {α : Type} {Q : α → Shared → Prop} (hh : A.handled = none) (hE : ∀ h' e, (∀ b o, s.heap.get? b = some o → h'.get? b = some o) → (∃ o, h'.get? e = some o ∧ o.cls = .type "StopIteration") → E (.ref e) { s with heap := h' }) :
    wpAny (model prog w) A (Builtin.SmallTypes.stopIteration (α := α)) Q E s := by
  unfold Builtin.SmallTypes.stopIteration
  refine wpAny_bind ?_
  simp only [newExc, newTuple]
  refine wpAny_bind (wpAny_newObj_type (wpAny_bind (m := firstArgMember _ _) (wpAny_of_eq (a := Value.none) (by first | rfl | (simp only [firstArgMember]; rfl)) (wpAny_newObj_type ?_ (by size_fits)))) (by size_fits))
  simp only [raiseNew]
  refine wpAny_bind (wpAny_handled ?_); rw [hh]
  exact wpAny_bind (wpAny_pure (wpAny_throw (hE _ _ (fun b o e => Heap.get?_push_of_some _ (Heap.get?_push_of_some _ e)) ⟨_, Heap.get?_push_size _ rfl, rfl⟩)))
theorem zs_item {z I O i1 i2 l1 l2 : Addr} {k1 k2 : Nat} {xs ys : Array Value} {x y a b : Value} {Q : Value → Shared → Prop} (D : ZipApart z I O i1 i2 l1 l2) (hz : ZS s.heap z I O .none) (hI : IsPair s.heap I (.ref i1) (.ref i2)) (hO : IsPair s.heap O a b)
    (h1 : s.heap.IsListIter i1 l1 k1) (h2 : s.heap.IsListIter i2 l2 k2) (g1 : s.heap.IsList l1 xs) (g2 : s.heap.IsList l2 ys) (hx : xs[k1]? = some x) (hy : ys[k2]? = some y)
    (hQ : ∀ h', ZS h' z I O (rawInt s.heap.objs.size) → IsPair h' O x y → h'.IsListIter i1 l1 (k1 + 1) → h'.IsListIter i2 l2 (k2 + 1) → IsPair h' s.heap.objs.size x y → h'.objs.size = s.heap.objs.size + 1 →
      (∀ c o, c ≠ z → c ≠ O → c ≠ i1 → c ≠ i2 → s.heap.get? c = some o → h'.get? c = some o) → Q (.ref s.heap.objs.size) { s with heap := h' }) :
    wpAny (model prog w) A (Builtin.«zip.__next__» ⟨[.ref z], []⟩) (fun fin s' => ∃ v, fin = .done (.ret v) ∧ Q v s') E s := by
  show wpAny _ _ (field (.ref z) 2 >>= _) _ _ _
  refine wpAny_bind (wpAny_field hz rfl (x := .bool true) rfl ?_)
  show wpAny _ _ (field (.ref z) 3 >>= _) _ _ _
  refine wpAny_bind (wpAny_field hz rfl (x := .ref I) rfl (wpAny_bind (wpAny_seqItems hI rfl ?_)))
  show wpAny _ _ (Builtin.SmallTypes.ownedTupleIsFree (.ref z) >>= _) _ _ _
  unfold Builtin.SmallTypes.ownedTupleIsFree
  refine wpAny_bind (wpAny_bind (wpAny_field hz rfl (x := .none) rfl (wpAny_pure ?_)))
  simp only [if_true]
  refine wpAny_bind (wpAny_rule (wpAny_bind (wpAny_field hz rfl (x := .ref O) rfl (wpAny_bind (wpAny_setField_rec hz (by simp) fun p1 z1 s1 => ?_)))))
  replace z1 : ZS p1 z I O .ellipsis := z1
  simp only [List.zipIdx_cons, List.zipIdx_nil, List.forIn_cons, List.forIn_nil]
  refine wpAny_bind (wpAny_bind (wpAny_bind (wpAny_onRaise ?_)))
  show wpAny _ _ (Builtin.SmallTypes.nextOrEnd (.ref i1)) _ _ _
  refine draw_item (h1.extBut s1.extBut D.i1z) (g1.extBut s1.extBut D.l1z) hx fun p2 h1' s2 => ?_
  have O2 : IsPair p2 O a b := s2.extBut _ _ D.TOi1 (s1.extBut _ _ D.TOz hO)
  refine wpAny_bind (wpAny_seqItems O2 rfl (wpAny_bind (wpAny_updateSeq_pair O2 fun p3 O3 s3 => ?_)))
  replace O3 : IsPair p3 O x b := O3
  refine wpAny_bind (wpAny_letGo (wpAny_pure (wpAny_bind (wpAny_bind (wpAny_onRaise ?_)))))
  show wpAny _ _ (Builtin.SmallTypes.nextOrEnd (.ref i2)) _ _ _
  refine draw_item (((h2.extBut s1.extBut D.i2z).extBut s2.extBut D.i12.symm).extBut s3.extBut D.TOi2.symm) (((g2.extBut s1.extBut D.l2z).extBut s2.extBut D.l2i1).extBut s3.extBut D.l2TO) hy fun p4 h2' s4 => ?_
  have O4 : IsPair p4 O x b := s4.extBut _ _ D.TOi2 O3
  refine wpAny_bind (wpAny_seqItems O4 rfl (wpAny_bind (wpAny_updateSeq_pair O4 fun p5 O5 s5 => ?_)))
  replace O5 : IsPair p5 O x y := O5
  refine wpAny_bind (wpAny_letGo (wpAny_pure (wpAny_pure (wpAny_bind (wpAny_seqItems O5 rfl (wpAny_bind (wpAny_newTuple ?_)))))))
  have sz : p5.objs.size = s.heap.objs.size := by rw [s5.1, s4.1, s3.1, s2.1, s1.1]
  have z5 : ZS p5 z I O .ellipsis := s5.extBut _ _ D.TOz.symm (s4.extBut _ _ D.i2z.symm (s3.extBut _ _ D.TOz.symm (s2.extBut _ _ D.i1z.symm z1)))
  have k5 : ∀ c o, c ≠ z → c ≠ O → c ≠ i1 → c ≠ i2 → s.heap.get? c = some o → p5.get? c = some o := fun c o c1 c2 c3 c4 e => s5.extBut _ _ c2 (s4.extBut _ _ c4 (s3.extBut _ _ c2 (s2.extBut _ _ c3 (s1.extBut _ _ c1 e))))
  have w1 : p5.IsListIter i1 l1 (k1 + 1) := ((h1'.extBut s3.extBut D.TOi1.symm).extBut s4.extBut D.i12).extBut s5.extBut D.TOi1.symm
  have w2 : p5.IsListIter i2 l2 (k2 + 1) := h2'.extBut s5.extBut D.TOi2.symm
  show wpAny _ _ (Builtin.SmallTypes.ownedTupleHandOut (.ref z) (.ref p5.objs.size) >>= _) _ _ _
  unfold Builtin.SmallTypes.ownedTupleHandOut
  have z6 : ZS (p5.push { cls := .type "tuple", data := .seq #[x, y] }) z I O .ellipsis := Heap.get?_push_of_some _ z5
  refine wpAny_bind (wpAny_bind (wpAny_setField_rec z6 (by simp) fun p7 z7 s7 => ?_))
  replace z7 : ZS p7 z I O (rawInt p5.objs.size) := z7
  refine wpAny_setField_rec z7 (by simp) fun p8 z8 s8 => ?_
  replace z8 : ZS p8 z I O (rawInt p5.objs.size) := z8
  have up : ∀ c o, c ≠ z → p5.get? c = some o → p8.get? c = some o := fun c o c1 e => s8.extBut _ _ c1 (s7.extBut _ _ c1 (Heap.get?_push_of_some _ e))
  have zl : p5.objs.size ≠ z := Nat.ne_of_gt (Heap.lt_size z5)
  have T8 : IsPair p8 p5.objs.size x y := s8.extBut _ _ zl (s7.extBut _ _ zl (Heap.get?_push_size _ rfl))
  have sz8 : p8.objs.size = p5.objs.size + 1 := by rw [s8.1, s7.1, Heap.size_push]
  rw [sz] at z8 T8 sz8
  refine wpAny_pure ⟨_, rfl, ?_⟩
  show Q (.ref p5.objs.size) _
  rw [sz]
  exact hQ p8 z8 (up _ _ D.TOz O5) (w1.at fun o e => up _ o D.i1z e) (w2.at fun o e => up _ o D.i2z e) T8 sz8 fun c o c1 c2 c3 c4 e => up c o c1 (k5 c o c1 c2 c3 c4 e)
theorem zs_end {z I O i1 i2 l1 l2 : Addr} {k1 k2 : Nat} {xs ys : Array Value} {a b : Value} {Q : Fin → Shared → Prop} (hh : A.handled = none) (D : ZipApart z I O i1 i2 l1 l2) (hz : ZS s.heap z I O .none) (hI : IsPair s.heap I (.ref i1) (.ref i2)) (hO : IsPair s.heap O a b)
    (h1 : s.heap.IsListIter i1 l1 k1) (h2 : s.heap.IsListIter i2 l2 k2) (g1 : s.heap.IsList l1 xs) (g2 : s.heap.IsList l2 ys) (hx : xs[k1]? = none) (hy : ys[k2]? = none)
    (hE : ∀ h' e, (∀ c o, c ≠ z → c ≠ O → c ≠ i1 → c ≠ i2 → s.heap.get? c = some o → h'.get? c = some o) → (∃ o, h'.get? e = some o ∧ o.cls = .type "StopIteration") → E (.ref e) { s with heap := h' }) :
    wpAny (model prog w) A (Builtin.«zip.__next__» ⟨[.ref z], []⟩) Q E s := by
  show wpAny _ _ (field (.ref z) 2 >>= _) _ _ _
  refine wpAny_bind (wpAny_field hz rfl (x := .bool true) rfl ?_)
  show wpAny _ _ (field (.ref z) 3 >>= _) _ _ _
  refine wpAny_bind (wpAny_field hz rfl (x := .ref I) rfl (wpAny_bind (wpAny_seqItems hI rfl ?_)))
  show wpAny _ _ (Builtin.SmallTypes.ownedTupleIsFree (.ref z) >>= _) _ _ _
  unfold Builtin.SmallTypes.ownedTupleIsFree
  refine wpAny_bind (wpAny_bind (wpAny_field hz rfl (x := .none) rfl (wpAny_pure ?_)))
  simp only [if_true]
  refine wpAny_bind (wpAny_rule (wpAny_bind (wpAny_field hz rfl (x := .ref O) rfl (wpAny_bind (wpAny_setField_rec hz (by simp) fun p1 z1 s1 => ?_)))))
  replace z1 : ZS p1 z I O .ellipsis := z1
  simp only [List.zipIdx_cons, List.zipIdx_nil, List.forIn_cons, List.forIn_nil]
  refine wpAny_bind (wpAny_bind (wpAny_bind (wpAny_onRaise ?_)))
  show wpAny _ _ (Builtin.SmallTypes.nextOrEnd (.ref i1)) _ _ _
  refine draw_end hh (h1.extBut s1.extBut D.i1z) (g1.extBut s1.extBut D.l1z) hx fun p2 s2 => ?_
  have z2 : ZS p2 z I O .ellipsis := s2 _ _ D.i1z.symm z1
  refine wpAny_bind (wpAny_setField_rec z2 (by simp) fun p3 z3 s3 => ?_)
  refine wpAny_bind ?_
  show wpAny _ _ (forIn [(Value.ref i2, 1)] _ _ >>= _) _ _ _
  simp only [List.forIn_cons, List.forIn_nil]
  refine wpAny_bind (wpAny_bind ?_)
  have off1 : ∀ {c o}, c ≠ z → c ≠ O → c ≠ i1 → c ≠ i2 → s.heap.get? c = some o → p3.get? c = some o := fun {c o} c1 _ c3 _ e => s3.extBut _ _ c1 (s2 _ _ c3 (s1.extBut _ _ c1 e))
  have j2 : p3.IsListIter i2 l2 k2 := h2.at fun o e => s3.extBut _ _ D.i2z (s2 _ _ D.i12.symm (s1.extBut _ _ D.i2z e))
  have m2 : p3.IsList l2 ys := g2.at fun o e => s3.extBut _ _ D.l2z (s2 _ _ D.l2i1 (s1.extBut _ _ D.l2z e))
  refine wpAny_bind (draw_end hh j2 m2 hy fun p4 s4 => ?_)
  simp only [Option.isSome_none, Bool.false_eq_true, if_false]
  refine wpAny_pure (wpAny_pure (wpAny_bind (wpAny_rule (stop_now hh fun p5 e up he => ?_))))
  exact hE p5 e (fun c o c1 c2 c3 c4 q => up c o (s4 _ _ c4 (off1 c1 c2 c3 c4 q))) he
theorem next_item {z I O i1 i2 l1 l2 : Addr} {k1 k2 : Nat} {xs ys : Array Value} {x y a b : Value} {Q : Option Value → Shared → Prop} (D : ZipApart z I O i1 i2 l1 l2) (hz : ZS s.heap z I O .none) (hI : IsPair s.heap I (.ref i1) (.ref i2)) (hO : IsPair s.heap O a b)
    (h1 : s.heap.IsListIter i1 l1 k1) (h2 : s.heap.IsListIter i2 l2 k2) (g1 : s.heap.IsList l1 xs) (g2 : s.heap.IsList l2 ys) (hx : xs[k1]? = some x) (hy : ys[k2]? = some y)
    (hQ : ∀ h', ZS h' z I O (rawInt s.heap.objs.size) → IsPair h' O x y → h'.IsListIter i1 l1 (k1 + 1) → h'.IsListIter i2 l2 (k2 + 1) → IsPair h' s.heap.objs.size x y → h'.objs.size = s.heap.objs.size + 1 →
      (∀ c o, c ≠ z → c ≠ O → c ≠ i1 → c ≠ i2 → s.heap.get? c = some o → h'.get? c = some o) → Q (some (.ref s.heap.objs.size)) { s with heap := h' }) : wpAny (model prog w) A (pyNext (.ref z)) Q E s := by
  have hT : s.TypeIs (.ref z) "zip" := ⟨_, hz, rfl⟩
  unfold pyNext
  refine wpAny_bind (wpAny_attempt (wpAny_callSpecial?_slot (name := Str.ofString "__next__") hT F.slot_zip_next (wpAny_call_entry F.slot_zip_next hT F.entry_zip_next ?_ (F.args_zip_next_1 _))))
  exact zs_item D hz hI hO h1 h2 g1 g2 hx hy fun h' b1 b2 b3 b4 b5 b6 b7 => wpAny_pure (hQ h' b1 b2 b3 b4 b5 b6 b7)
theorem next_end {z I O i1 i2 l1 l2 : Addr} {k1 k2 : Nat} {xs ys : Array Value} {a b : Value} {Q : Option Value → Shared → Prop} (hh : A.handled = none) (D : ZipApart z I O i1 i2 l1 l2) (hz : ZS s.heap z I O .none) (hI : IsPair s.heap I (.ref i1) (.ref i2)) (hO : IsPair s.heap O a b)
    (h1 : s.heap.IsListIter i1 l1 k1) (h2 : s.heap.IsListIter i2 l2 k2) (g1 : s.heap.IsList l1 xs) (g2 : s.heap.IsList l2 ys) (hx : xs[k1]? = none) (hy : ys[k2]? = none)
    (hQ : ∀ h', (∀ c o, c ≠ z → c ≠ O → c ≠ i1 → c ≠ i2 → s.heap.get? c = some o → h'.get? c = some o) → Q none { s with heap := h' }) : wpAny (model prog w) A (pyNext (.ref z)) Q E s := by
  have hT : s.TypeIs (.ref z) "zip" := ⟨_, hz, rfl⟩
  unfold pyNext
  refine wpAny_bind (wpAny_attempt (wpAny_callSpecial?_slot (name := Str.ofString "__next__") hT F.slot_zip_next (wpAny_call_entry F.slot_zip_next hT F.entry_zip_next ?_ (F.args_zip_next_1 _))))
  refine zs_end hh D hz hI hO h1 h2 g1 g2 hx hy fun h' e hk he => ?_
  obtain ⟨o, ho, hc⟩ := he
  exact wpAny_bind (wpAny_isInstance (T := "StopIteration") (b := true) ⟨o, ho, hc⟩ isSubtype_stop (wpAny_pure (hQ _ hk)))
theorem let_zs {elts : List Expr} {kk : Nat} {pos : Pos} {z I O T : Addr} {Q : Unit → Shared → Prop} (hz : ZS s.heap z I O (rawInt T)) (hQ : ∀ h', ZS h' z I O .none → Heap.SameBut z s.heap h' → Q () { s with heap := h' }) :
    wpAny (model prog w) A (letOwnedTupleGo (.Tuple elts kk pos) (.ref z) (.ref T)) Q E s := by
  unfold letOwnedTupleGo
  refine wpAny_bind (wpAny_load hz ?_)
  show wpAny _ _ (if (["enumerate", "zip", "dict_itemiterator", "dict_reverseitemiterator", "odict_iterator", "itertools.zip_longest", "itertools.pairwise"].contains "zip" && (#[rawInt T, .bool false, .bool true, .ref I, .ref O] : Array Value)[0]? == some (rawInt T)) = true then _ else _) Q E s
  rw [if_pos (by simp)]
  refine wpAny_bind (wpAny_rule ?_)
  show wpAny _ _ (setField (.ref z) 0 .none) Q E s
  exact wpAny_setField_rec hz (by simp) hQ
theorem iter_zs {z I O : Addr} {f0 : Value} {Q : Value → Shared → Prop} (hz : ZS s.heap z I O f0) (h : Q (.ref z) s) : wpAny (model prog w) A (pyIter (.ref z)) Q E s := by
  have hT : s.TypeIs (.ref z) "zip" := ⟨_, hz, rfl⟩
  refine wpAny_pyIter_slot hT F.slot_zip_iter (wpAny_call_entry F.slot_zip_iter hT F.entry_zip_iter ?_ (F.args_zip_iter_1 _))
  exact wpAny_pure ⟨_, rfl, "zip", _, hT, F.slot_zip_next.lookup, h⟩
end
abbrev zn1 (h : Heap) (a : Addr) : Heap := h.push { cls := .type "list_iterator", data := .fields #[.ref a, .int 0 0] }
abbrev zn3 (h : Heap) (a c : Addr) : Heap := (zn1 (zn1 h a) c).push { cls := .type "tuple", data := .seq #[.ref h.objs.size, .ref (zn1 h a).objs.size] }
abbrev zn4 (h : Heap) (a c : Addr) : Heap := (zn3 h a c).push { cls := .type "tuple", data := .seq #[.none, .none] }
abbrev zn5 (h : Heap) (a c : Addr) : Heap := (zn4 h a c).push { cls := .type "zip", data := .fields #[.none, .bool false, .bool true, .ref (zn1 (zn1 h a) c).objs.size, .ref (zn3 h a c).objs.size] }
theorem made_zs (a c : Addr) (xs ys : Array Value) : Meets (Builtin.«zip.__new__» ⟨[.type "zip", .ref a, .ref c], [(Str.ofString "strict", .bool true)]⟩) (fun _ R s => s.heap.IsList a xs ∧ s.heap.IsList c ys ∧ R (.ok (.ret (.ref (zn4 s.heap a c).objs.size))) { s with heap := zn5 s.heap a c }) :=
  .of_wp fun prog w A R s h => by
    obtain ⟨hp, g, d, tk, os⟩ := s
    obtain ⟨h1, h2, h⟩ := h
    have hsub := sub_zip
    have q1 : Heap.IsList (Shared.heap ⟨hp, g, d, tk, os⟩) a xs := h1
    have q2 : Heap.IsList (Shared.heap ⟨hp.push { cls := .type "list_iterator", data := .fields #[.ref a, .int 0 0] }, g, d, tk, os⟩) c ys := Heap.IsList.push h2 _
    have e2 : (Str.ofString "strict" != ("strict" : Str)) = false := by decide +kernel
    wp_walk using wpAny_pyIter_list q1, wpAny_pyIter_list q2
    exact ⟨_, rfl, h⟩
theorem tc_zs (a b c : Value) : checkTypeCall "zip" ⟨[a, b], [(Str.ofString "strict", c)]⟩ = pure () := by kernel_rfl
theorem nc_zs (a b c : Value) : checkBuiltinCall "zip.__new__" ⟨[.type "zip", a, b], [(Str.ofString "strict", c)]⟩ = pure () := by kernel_rfl
theorem ai_zs (o a b c : Value) : argsOk "object.__init__" ⟨[o, a, b], [(Str.ofString "strict", c)]⟩ := by unfold argsOk; kernel_rfl
end TI
set_option maxHeartbeats 200000
set_option maxHeartbeats 4000000
namespace TI
open PySem PySem.Spec PyProof.Rows L2
section
variable {prog : Program} {w : World} {A : Around} {E : Value → Shared → Prop} {s : Shared}
theorem call_zs {a c : Addr} {xs ys : Array Value} {Q : Value → Shared → Prop} (h1 : s.heap.IsList a xs) (h2 : s.heap.IsList c ys)
    (h : ∀ h', ZS h' (s.heap.objs.size + 4) (s.heap.objs.size + 2) (s.heap.objs.size + 3) .none → IsPair h' (s.heap.objs.size + 2) (.ref s.heap.objs.size) (.ref (s.heap.objs.size + 1)) → IsPair h' (s.heap.objs.size + 3) .none .none →
      h'.IsListIter s.heap.objs.size a 0 → h'.IsListIter (s.heap.objs.size + 1) c 0 → (∀ b o, s.heap.get? b = some o → h'.get? b = some o) → Q (.ref (s.heap.objs.size + 4)) { s with heap := h' }) :
    wpAny (model prog w) A (call (.type "zip") [.ref a, .ref c] [(Str.ofString "strict", .bool true)]) Q E s := by
  refine callType_newKw F.called_zip (by decide) (tc_zs _ _ _) (nc_zs _ _ _) (fun obj => ai_zs obj _ _ _) F.entry_zip_new (made_zs a c xs ys) ⟨h1, h2, ?_⟩
  have n1 : (zn1 s.heap a).objs.size = s.heap.objs.size + 1 := Heap.size_push ..
  have n2 : (zn1 (zn1 s.heap a) c).objs.size = s.heap.objs.size + 2 := (Heap.size_push ..).trans (by rw [n1])
  have n3 : (zn3 s.heap a c).objs.size = s.heap.objs.size + 3 := (Heap.size_push ..).trans (by rw [n2])
  have n4 : (zn4 s.heap a c).objs.size = s.heap.objs.size + 4 := (Heap.size_push ..).trans (by rw [n3])
  have at5 : (zn5 s.heap a c).get? (zn4 s.heap a c).objs.size = some _ := Heap.get?_push_size _ rfl
  have at4 : (zn5 s.heap a c).get? (zn3 s.heap a c).objs.size = some _ := Heap.get?_push_of_some _ (Heap.get?_push_size _ rfl)
  have at3 : (zn5 s.heap a c).get? (zn1 (zn1 s.heap a) c).objs.size = some _ := Heap.get?_push_of_some _ (Heap.get?_push_of_some _ (Heap.get?_push_size _ rfl))
  have at2 : (zn5 s.heap a c).get? (zn1 s.heap a).objs.size = some _ := Heap.get?_push_of_some _ (Heap.get?_push_of_some _ (Heap.get?_push_of_some _ (Heap.get?_push_size _ rfl)))
  have at1 : (zn5 s.heap a c).get? s.heap.objs.size = some _ := Heap.get?_push_of_some _ (Heap.get?_push_of_some _ (Heap.get?_push_of_some _ (Heap.get?_push_of_some _ (Heap.get?_push_size _ rfl))))
  have old : ∀ b o, s.heap.get? b = some o → (zn5 s.heap a c).get? b = some o := fun b o e => Heap.get?_push_of_some _ (Heap.get?_push_of_some _ (Heap.get?_push_of_some _ (Heap.get?_push_of_some _ (Heap.get?_push_of_some _ e))))
  show _ ∧ _
  rw [n2, n3, n4] at at5
  rw [n1, n2] at at3
  rw [n3] at at4; rw [n1] at at2; rw [n4]
  exact ⟨⟨_, at5, rfl⟩, h _ at5 at3 at4 ⟨_, at1, rfl, rfl⟩ ⟨_, at2, rfl, rfl⟩ old⟩
end
def Ize (K : PySem.W.Frag) (a c : Addr) : It := ⟨(Itz K a c).go, (Itz K a c).yld, fun i H => ∃ xs ys : List V, SqL K H a xs ∧ SqL K H c ys ∧ xs.length ≤ i ∧ ys.length ≤ i⟩
def ZT (a c z I O i1 i2 : Addr) (i : Nat) (h : Heap) : Prop := ZS h z I O .none ∧ IsPair h I (.ref i1) (.ref i2) ∧ (∃ x y, IsPair h O x y) ∧ h.IsListIter i1 a i ∧ h.IsListIter i2 c i
theorem turn_zs {P : Program} {w : World} {K : PySem.W.Frag} {elts : List Expr} {kk : Nat} {tpos : Pos} {a c z I O i1 i2 : Addr} (D : ZipApart z I O i1 i2 a c) : Turn P w K (.Tuple elts kk tpos) (Ize K a c) [z, I, O, i1, i2] z (ZT a c z I O i1 i2) := by
  have five : ∀ {b : Addr}, b ∈ [z, I, O, i1, i2] → b = z ∨ b = I ∨ b = O ∨ b = i1 ∨ b = i2 := fun {b} h => by simpa using h
  refine ⟨by simp, fun i h st b hb => ?_, fun i h h' st kp => ?_, ?_, ?_, fun A i s Q E st h => iter_zs st.1 h⟩
  · obtain ⟨t1, t2, ⟨x, y, t3⟩, ⟨o1, e1, _, d1⟩, ⟨o2, e2, _, d2⟩⟩ := st
    rcases five hb with rfl | rfl | rfl | rfl | rfl
    · exact ⟨_, t1, fun v => nofun⟩
    · exact ⟨_, t2, fun v => nofun⟩
    · exact ⟨_, t3, fun v => nofun⟩
    · exact ⟨o1, e1, fun v q => by rw [d1] at q; cases q⟩
    · exact ⟨o2, e2, fun v q => by rw [d2] at q; cases q⟩
  · obtain ⟨t1, t2, ⟨x, y, t3⟩, t4, t5⟩ := st
    exact ⟨kp z (by simp) _ t1, kp I (by simp) _ t2, ⟨x, y, kp O (by simp) _ t3⟩, t4.at fun o => kp i1 (by simp) o, t5.at fun o => kp i2 (by simp) o⟩
  · rintro X rfl rfl rfl hc i pins s σ H E J ff ⟨t1, t2, ⟨x0, y0, t3⟩, t4, t5⟩ ⟨xs, ys, x, y, ha, hcq, hx, hy⟩
    obtain ⟨us, ru, p1, _⟩ := J.list ha
    obtain ⟨vs, rv, p2, _⟩ := J.list hcq
    obtain ⟨u, hu, rx⟩ := ru.get hx
    obtain ⟨v, hv, ry⟩ := rv.get hy
    refine next_item D t1 t2 t3 t4 t5 p1.isList p2.isList (x := u) (y := v) (by simpa using hu) (by simpa using hv) fun h' z1 O1 w1 w2 T1 sz1 k1 => ⟨_, rfl, let_zs (s := { s with heap := h' }) z1 fun h2 z2 sb => ?_⟩
    have zl := Heap.lt_size t1
    have new : ObjOk X.prog X.w (upd H s.heap.objs.size (.tup [x, y])) h2 s.heap.objs.size (.tup [x, y]) := ⟨by show 2 ≤ sizeLine; decide, [u, v], .cons rx (.cons ry .nil), ⟨_, (sb.2 _ (Nat.ne_of_gt zl)).trans T1, rfl, _, rfl⟩⟩
    have J1 : Inv X pins σ (upd H s.heap.objs.size (.tup [x, y])) { s with heap := h2 } := by
      refine Inv.turnedNew (t' := s.toks) (ch := [z, I, O, i1, i2]) J (fun b o hb q => ?_) ff (Nat.le_refl _) new
      have nb : b ≠ z ∧ b ≠ I ∧ b ≠ O ∧ b ≠ i1 ∧ b ≠ i2 := by simpa using hb
      exact (sb.2 b nb.1).trans (k1 b o nb.1 nb.2.2.1 nb.2.2.2.1 nb.2.2.2.2 q)
    refine ⟨.ref s.heap.objs.size, _, J1, rfl, ⟨_, x, y, rfl, J.hok.fresh (Nat.le_refl _), rfl, fun l hl => by rw [J.list_inj hl ha]; exact hx, fun l hl => by rw [J.list_inj hl hcq]; exact hy⟩,
      ⟨z2, (sb.2 _ D.TIz).trans (k1 _ _ D.TIz D.TITO D.TIi1 D.TIi2 t2), ⟨u, v, (sb.2 _ D.TOz).trans O1⟩, w1.at fun o q => (sb.2 _ D.i1z).trans q, w2.at fun o q => (sb.2 _ D.i2z).trans q⟩, fun b hb => ?_⟩
    have hlt : b < s.heap.objs.size := by
      obtain ⟨_, e1, _⟩ := t4
      obtain ⟨_, e2, _⟩ := t5
      rcases five hb with rfl | rfl | rfl | rfl | rfl
      · exact zl
      · exact Heap.lt_size t2
      · exact Heap.lt_size t3
      · exact Heap.lt_size e1
      · exact Heap.lt_size e2
    rw [upd_ne (Nat.ne_of_lt hlt)]
    exact (ff b hb).1
  · rintro X rfl rfl rfl hc i pins s σ H E J ff ⟨t1, t2, ⟨x0, y0, t3⟩, t4, t5⟩ ⟨xs, ys, ha, hcq, l1, l2⟩
    obtain ⟨us, ru, p1, _⟩ := J.list ha
    obtain ⟨vs, rv, p2, _⟩ := J.list hcq
    have n1 := ru.length
    have n2 := rv.length
    refine next_end (J.ok.hd hc) D t1 t2 t3 t4 t5 p1.isList p2.isList (by simp; omega) (by simp; omega) fun h' k1 => ⟨rfl, J.turnedL (t' := s.toks) (ch := [z, I, O, i1, i2]) (fun b o hb q => ?_) ff⟩
    have nb : b ≠ z ∧ b ≠ I ∧ b ≠ O ∧ b ≠ i1 ∧ b ≠ i2 := by simpa using hb
    exact k1 b o nb.1 nb.2.2.1 nb.2.2.2.1 nb.2.2.2.2 q
theorem good_ze {K : PySem.W.Frag} {F : Hp} {a c : Addr} {xs ys : List V} {ds es : List D} (h : SqL K F a xs) (k : IsL K F xs ds) (h' : SqL K F c ys) (k' : IsL K F ys es) (e0 : ds.length = es.length) : Good K F (Ize K a c) (zipD ds es) := fun F2 H2 l1 l2 => by
  obtain ⟨g, _⟩ := good_zip h k h' k' e0 F2 H2 l1 l2
  have hl : (zipD ds es).length = ds.length := by simp [zipD, e0]
  exact ⟨g, xs, ys, (l1.trans l2).sl h, (l1.trans l2).sl h', by rw [k.length, hl]; exact Nat.le_refl _, by rw [k'.length, hl, e0]; exact Nat.le_refl _⟩
section
variable {G : Sg} {cx : Nat → List Vl → Mu → Option (XR × Mu)} {k : Nat} {X : Cx} {b : Nat} {N : List Str} {sc : Scope}
theorem zipS_ok (C : Cxt G cx k N sc X) {es : List Expr} {kk : Nat} {tp : Pos} {e1 e2 : Expr} {x1 x2 : Ex} {p pos kp cp : Pos} {j : Nat} (hb : bltB G sc "zip" = true) (hs : plainStar e1 [e2]) (hs2 : plainStar e2 []) (h1 : OkE X e1 (evalE (valC cx) b x1)) (h2 : OkE X e2 (evalE (valC cx) b x2)) :
    OkR X (.Tuple es kk tp) (.Call (.Name "zip" p) [e1, e2] [⟨some "strict", .Constant (.bool true) j cp, kp⟩] pos) (evalS (valC cx) b (.zipS x1 x2)) := by
  intro r m ds m' hh σ F io H st en R q
  unfold evalS at hh
  obtain ⟨⟨v, m1⟩, g1, hh⟩ := bind_some hh
  obtain ⟨⟨d, m2⟩, g2, hh⟩ := bind_some hh
  obtain ⟨⟨u, m3⟩, g3, hh⟩ := bind_some hh
  obtain ⟨⟨d2, m4⟩, g4, hh⟩ := bind_some hh
  obtain ⟨l1, g5, hh⟩ := bind_some hh
  obtain ⟨l2, g6, hh⟩ := bind_some hh
  split at hh
  · rename_i hl
    cases hh
    unfold lstF at g5 g6
    split at g5 <;> cases g5
    split at g6 <;> cases g6
    obtain ⟨i1, i2, i3, i4⟩ := C.blt hb
    intro pins s I
    refine wpAny_Call_Name_kw (ld_blt I i1 i2 PyProof.Rows.boot_zip ?_ ?_ ?_)
    rotate_left
    · exact i4
    · exact i3
    refine PySem.W.callWith_of (P := fun _ => True) (by rw [hs, hs2]; rfl) (fun h _ => ⟨.machine, .inr (.inl rfl), PySem.W.Looks.of_pure rfl⟩) (PyProof.Rows.evalArgs_kw2 rfl ?_ (hs _))
    have two : DA X [e1, e2] σ H fun vs H1 => ∃ y1 y2, vs = [y1, y2] ∧ ∃ F' io', Adv X.K F io m F' io' m' H1 ∧ Is X.K F' y1 (.list l1) ∧ Is X.K F' y2 (.list l2) := by
      refine PA.da (pa_cons (cE (X := X)) (pa_cons (cE (X := X)) pa_nil (hs2 _)) (hs _)) ?_
      refine h1 r m v m1 g1 σ F io H st en _ fun y1 F1 io1 H1 A1 hy1 => ?_
      obtain ⟨F2, A2, j1⟩ := hy1.down A1.st g2
      have A12 := A1.trans A2
      refine h2 r m2 u m3 g3 σ F2 io1 H1 A2.st (en.adv A12) _ fun y2 F3 io3 H3 A3 hy2 => ?_
      obtain ⟨F4, A4, j2⟩ := hy2.down A3.st g4
      exact ⟨y1, y2, rfl, F4, io3, (A12.trans A3).trans A4, (j1.mono A3.ff).mono A4.ff, j2⟩
    refine thn (two pos pins s I) fun us s1 ⟨vs, H1, I1, rr, y1, y2, ev, F', io', A, j1, j2⟩ => ?_
    subst ev
    obtain ⟨u1, u2, rfl, r1, r2⟩ := vals2 rr
    cases j1 with
    | @lst a xs _ a1 a2 =>
      cases j2 with
      | @lst c ys _ c1 c2 =>
        cases r1
        cases r2
        refine thn ((pk_cons (X := X) (nm := some "strict") (kpos := kp) (pe_bl (X := X) (b := true) (j := j) (pos := cp)) pk_nil).run pos pins s1 σ H1 (fun zs H2 => zs = [.bl true] ∧ H2 = H1) I1 ⟨rfl, rfl⟩) fun ws s2 ⟨zs, H2, I2, rz, ez, eh⟩ => ⟨trivial, ?_⟩
        subst ez
        subst eh
        obtain ⟨w1, rfl, e1'⟩ := vals1 rz
        obtain rfl : w1 = Value.bool true := e1'
        obtain ⟨us', _, p1, _⟩ := I2.list (A.st.sub.sl a1)
        obtain ⟨vs', _, p2, _⟩ := I2.list (A.st.sub.sl c1)
        have la := p1.lt
        have lc := p2.lt
        refine call_zs p1.isList p2.isList fun h' z1 z2 z3 z4 z5 kp2 => iter_zs z1 ?_
        have I3 : Inv X pins σ H2 { s2 with heap := h' } := I2.kept (t' := s2.toks) kp2
        refine ⟨s2.heap.objs.size + 4, [s2.heap.objs.size + 4, s2.heap.objs.size + 2, s2.heap.objs.size + 3, s2.heap.objs.size, s2.heap.objs.size + 1], _, _, H2, rfl, I3, turn_zs (PySem.W.ktu_apart s2.heap.objs.size a c la lc), ⟨z1, z2, ⟨_, _, z3⟩, z4, z5⟩, fun b hb => ?_, q _ F' io' H2 A (good_ze a1 a2 c1 c2 hl)⟩
        have hle : s2.heap.objs.size ≤ b := by
          have five : b = s2.heap.objs.size + 4 ∨ b = s2.heap.objs.size + 2 ∨ b = s2.heap.objs.size + 3 ∨ b = s2.heap.objs.size ∨ b = s2.heap.objs.size + 1 := by simpa using hb
          rcases five with e | e | e | e | e
          all_goals
            rw [e]
            first | exact Nat.le_add_right _ _ | exact Nat.le_refl _
        exact I2.fpOk hle (I2.hok.fresh hle)
  · cases hh
end
end TI
set_option maxHeartbeats 200000
set_option maxHeartbeats 1000000
namespace PySem
open PyProof.Rows
open Sem (wp)
section
variable {prog : Program} {w : World} {A : Around} {E : Value → Shared → Prop} {s : Shared}
theorem add_raw {l b : Addr} {vs ws : List Value} {Q : Value → Shared → Prop} (hl : s.heap.IsList l vs.toArray) (hb : s.heap.IsList b ws.toArray)
    (h : Q (.ref s.heap.objs.size) { s with heap := s.heap.push { cls := .type "list", data := .seq (vs ++ ws).toArray } }) (hsz : vs.length + ws.length ≤ sizeLine) :
    wpAny (model prog w) A (binaryOp .Add (.ref l) (.ref b)) Q E s := by
  obtain ⟨⟨cls, dd, data, sl⟩, ho, hc, n, hd⟩ := id hl
  obtain ⟨⟨cls2, dd2, data2, sl2⟩, ho2, hc2, n2, hd2⟩ := id hb
  simp only at hc hd hc2 hd2
  subst hc hd hc2 hd2
  have e : vs.toArray ++ ws.toArray = (vs ++ ws).toArray := by simp
  refine concat_meets ⟨_, ho, rfl⟩ ⟨_, ho2, rfl⟩ noFill_list_add seq_list_add PySem.F.slot_list_add PySem.F.entry_list_add (PySem.F.args_list_add_2 _ _) (list_addW l b vs.toArray ws.toArray n n2 dd dd2 sl sl2 (by simpa using hsz)) ⟨ho, ho2, ?_⟩
  rw [e]
  exact h
end
def Lx (h : Heap) (a : Addr) (xs : Array Value) : Prop := ∃ c, h.get? a = some { cls := .type "list", dict := none, data := .seq xs c }
theorem Lx.isList {h : Heap} {a : Addr} {xs : Array Value} (x : Lx h a xs) : h.IsList a xs := by
  obtain ⟨c, e⟩ := x
  exact ⟨_, e, rfl, c, rfl⟩
theorem Lx.at {h h' : Heap} {a : Addr} {xs : Array Value} (x : Lx h a xs) (k : ∀ o, h.get? a = some o → h'.get? a = some o) : Lx h' a xs := by
  obtain ⟨c, e⟩ := x
  exact ⟨c, k _ e⟩
def preL (val : Nat → List Value) : Nat → List Value
  | 0 => []
  | i + 1 => preL val i ++ val i
section
variable {prog : Program} {w : World} {A : Around} {R : Result → Shared → Prop} {I : Addr} {fp wr : List Addr} {n : Nat} {P : Nat → Value → Prop} {St : Nat → Heap → Prop}
theorem codeAny_sum_lists (W : Walks prog w A.in1 I fp wr n P St) (bs : Nat → Addr) (val : Nat → List Value) (hval : ∀ i v, P i v → v = .ref (bs i)) (S : Addr) (hSf : S ∉ fp) (hb : ∀ i, i < n → bs i ∉ wr ∧ bs i ≠ S) (hz : ∀ i, i ≤ n → (preL val i).length ≤ sizeLine) (hwr : ∀ b ∈ wr, ∀ i h, St i h → ∃ o, h.get? b = some o) (base0 : Heap) (h0 : ∀ b o, base0.get? b = some o → b ∉ wr ∧ b ≠ S) :
    ∀ (k i : Nat) (s : Shared) (a : Addr) (c : Nat), n - i = k → i ≤ n → St i s.heap → s.heap.get? S = some { cls := .type "list", dict := none, data := .seq #[.ref a] c } → Lx s.heap a (preL val i).toArray → a ∉ wr → a ≠ S → (∀ j, j < n → s.heap.IsList (bs j) (val j).toArray) → (∀ b o, base0.get? b = some o → s.heap.get? b = some o) → base0.get? a = none →
    (∀ h' a' tk, (∀ b o, b ∉ wr → b ≠ S → s.heap.get? b = some o → h'.get? b = some o) → Lx h' a' (preL val n).toArray → base0.get? a' = none → R (.ok (.ret (.ref a'))) { s with heap := h', toks := tk }) →
    codeAny (model prog w) A (.builtin "sum.loop" ⟨[.ref I, .ref S, rawInt 2, rawInt 0], []⟩) R s := by
  have hSw : S ∉ wr := fun h => hSf (W.sub _ h)
  intro k
  induction k with
  | zero =>
    intro i s a c hk hi hst hS ha haw haS hbs hB hA hR
    have hin : i = n := by omega
    subst hin
    refine codeAny_builtin F.entry_sum_loop ?_
    rw [Around.under_plainId F.plain_sum_loop _]
    show wpAny _ A.in1 (seqItems? (.ref S) >>= _) _ _ s
    refine wpAny_bind (wpAny_seqItems hS rfl ?_)
    show wpAny _ A.in1 (tryCatch (pyNext (.ref I)) _ >>= _) _ _ s
    refine wpAny_bind (wpAny_tryCatch (W.done s _ _ hst fun h' tk hk' => ?_))
    exact wpAny_pure (hR h' a tk (fun b o hbw _ e => hk' b o hbw e) (ha.at fun o e => hk' a o haw e) hA)
  | succ k ih =>
    intro i s a c hk hi hst hS ha haw haS hbs hB hA hR
    have hlt : i < n := by omega
    refine codeAny_builtin F.entry_sum_loop ?_
    rw [Around.under_plainId F.plain_sum_loop _]
    show wpAny _ A.in1 (seqItems? (.ref S) >>= _) _ _ s
    refine wpAny_bind (wpAny_seqItems hS rfl ?_)
    show wpAny _ A.in1 (tryCatch (pyNext (.ref I)) _ >>= _) _ _ s
    refine wpAny_bind (wpAny_tryCatch (W.item i s _ _ hlt hst fun v h' tk hP hst' hk' => ?_))
    obtain rfl := hval i v hP
    have hS' := hk' S _ hSw hS
    have ha' : Lx h' a (preL val i).toArray := ha.at fun o e => hk' a o haw e
    have hbi : ∀ j, j < n → h'.IsList (bs j) (val j).toArray := fun j hj => (hbs j hj).at fun o e => hk' (bs j) o (hb j hj).1 e
    have z : (preL val i).length + (val i).length ≤ sizeLine := by
      have := hz (i + 1) hlt
      simpa [preL] using this
    show wpAny _ A.in1 ((holding [Value.ref (bs i)] (binaryOp .Add (.ref a) (.ref (bs i)))).attempt >>= _) _ _ _
    refine wpAny_bind (wpAny_attempt (wpAny_holding (add_raw (s := { s with heap := h', toks := tk }) ha'.isList (hbi i hlt) ?_ z)))
    show wpAny _ A.in1 (updateSeq S (fun _ => #[.ref h'.objs.size]) >>= _) _ _ _
    have hS1 : (h'.push { cls := .type "list", data := .seq (preL val i ++ val i).toArray }).get? S = some { cls := .type "list", dict := none, data := .seq #[.ref a] c } := Heap.get?_push_of_some _ hS'
    refine wpAny_bind ?_
    refine wpAny_updateSeq hS1 rfl ?_
    have hS2 := Heap.get?_update_self (Obj.mapSeq fun _ => #[Value.ref h'.objs.size]) hS1 rfl
    refine wpAny_bind (wpAny_letGo ?_)
    refine wpAny_bind ?_
    have new : h'.get? h'.objs.size = none := by
      cases e : h'.get? h'.objs.size with
      | none => rfl
      | some o => exact absurd (Heap.lt_size e) (Nat.lt_irrefl _)
    have neS : h'.objs.size ≠ S := fun e => absurd (Heap.lt_size hS') (by rw [← e]; exact Nat.lt_irrefl _)
    have up : ∀ b o, b ≠ S → h'.get? b = some o → (((h'.push { cls := .type "list", data := .seq (preL val i ++ val i).toArray }).update S (Obj.mapSeq fun _ => #[Value.ref h'.objs.size])).update S (Obj.mapSeq fun _ => #[Value.ref h'.objs.size])).get? b = some o := fun b o hbS e =>
      (Heap.get?_update_other _ _ (Ne.symm hbS)).trans ((Heap.get?_update_other _ _ (Ne.symm hbS)).trans (Heap.get?_push_of_some _ e))
    refine wpAny_updateSeq hS2 rfl (wpAny_pure ⟨plainId_quiet F.plain_sum_loop _, ih (i + 1) _ h'.objs.size _ (by omega) hlt (W.frame _ _ _ hst' fun b hb o e => ?_) (Heap.get?_update_self _ hS2 rfl) ?_ ?_ neS ?_ ?_ ?_ fun h'' a' tk'' hk'' hl'' ha1 => ?_⟩)
    · exact up b o (fun h => hSf (by rw [← h]; exact hb)) e
    · refine ⟨0, ?_⟩
      exact (Heap.get?_update_other _ _ (Ne.symm neS)).trans ((Heap.get?_update_other _ _ (Ne.symm neS)).trans (Heap.get?_push_size _ rfl))
    · intro h
      obtain ⟨o, e⟩ := hwr _ h _ _ hst'
      rw [new] at e
      cases e
    · exact fun j hj => (hbi j hj).at fun o e => up _ o (hb j hj).2 e
    · exact fun b o e => up b o (h0 b o e).2 (hk' b o (h0 b o e).1 (hB b o e))
    · cases e : base0.get? h'.objs.size with
      | none => rfl
      | some o =>
        have e2 := hk' _ o (h0 _ o e).1 (hB _ o e)
        rw [new] at e2
        cases e2
    · exact hR h'' a' tk'' (fun b o hbw hbS e => hk'' b o hbw hbS (up b o hbS (hk' b o hbw e))) hl'' ha1
end
theorem args_sum2 (a b : Value) : argsOk "sum" ⟨[a, b], []⟩ := by unfold argsOk; kernel_rfl
theorem sub_l_str : isSubtype (.type "list") (.type "str") = pure false := by first | rfl | kernel_rfl
theorem sub_l_bytes : isSubtype (.type "list") (.type "bytes") = pure false := by first | rfl | kernel_rfl
theorem sub_l_bytearray : isSubtype (.type "list") (.type "bytearray") = pure false := by first | rfl | kernel_rfl
section
variable {prog : Program} {w : World} {A : Around} {E : Value → Shared → Prop} {s : Shared}
theorem sum_lists {l e0 : Addr} {bs : List Addr} {vals : List (List Value)} {Q : Value → Shared → Prop} (hh : A.handled = none) (hl : s.heap.IsList l (bs.map Value.ref).toArray) (he : Lx s.heap e0 #[]) (hb : ∀ (i : Nat) (b : Addr) (v : List Value), bs[i]? = some b → vals[i]? = some v → s.heap.IsList b v.toArray) (hlen : bs.length = vals.length)
    (hz : vals.flatten.length ≤ sizeLine) (base0 : Heap) (hB : ∀ b o, base0.get? b = some o → s.heap.get? b = some o) (hA : base0.get? e0 = none)
    (hQ : ∀ h' a' tk, (∀ b o, s.heap.get? b = some o → h'.get? b = some o) → Lx h' a' vals.flatten.toArray → base0.get? a' = none → Q (.ref a') { s with heap := h', toks := tk }) : wpAny (model prog w) A (call (.builtin "sum") [.ref l, .ref e0]) Q E s := by
  refine call_function_tree F.kind_sum F.plain_sum F.entry_sum (args_sum2 _ _) ?_
  unfold Builtin.«sum»
  simp only [List.length_cons, List.length_nil]
  rw [if_neg (by decide)]
  refine wpAny_bind (wpAny_of_eq (show Builtin.Builtins.bindParams "sum" ["start"] 0 ⟨[.ref e0], []⟩ = pure [some (.ref e0)] from rfl) ?_)
  have hlt : l < s.heap.objs.size := by obtain ⟨_, e, _⟩ := hl; exact Heap.lt_size e
  have het : e0 < s.heap.objs.size := by obtain ⟨_, e⟩ := he; exact Heap.lt_size e
  refine wpAny_bind (wpAny_pyIter_list hl ?_)
  refine wpAny_bind (wpAny_pure ?_)
  have tl : ∀ h' : Heap, (∀ b o, s.heap.get? b = some o → h'.get? b = some o) → ({ s with heap := h' } : Shared).TypeIs (.ref e0) "list" := fun h' k => by
    obtain ⟨c, e⟩ := he
    exact ⟨_, k _ _ e, rfl⟩
  have k1 : ∀ b o, s.heap.get? b = some o → (s.heap.push { cls := .type "list_iterator", data := .fields #[.ref l, .int 0 0] }).get? b = some o := fun b o e => Heap.get?_push_of_some _ e
  simp only [List.forIn_cons, List.forIn_nil]
  refine wpAny_bind (wpAny_bind (wpAny_bind (wpAny_isInstance (T := "list") (b := false) (tl _ k1) sub_l_str ?_)))
  simp only [Bool.false_eq_true, if_false]
  refine wpAny_pure (wpAny_bind (wpAny_bind (wpAny_isInstance (T := "list") (b := false) (tl _ k1) sub_l_bytes ?_)))
  simp only [Bool.false_eq_true, if_false]
  refine wpAny_pure (wpAny_bind (wpAny_bind (wpAny_isInstance (T := "list") (b := false) (tl _ k1) sub_l_bytearray ?_)))
  simp only [Bool.false_eq_true, if_false]
  refine wpAny_pure (wpAny_pure ?_)
  refine wpAny_bind (wpAny_newObj_type ?_)
  have I : Walks prog w A.in1 s.heap.objs.size [s.heap.objs.size, l] [s.heap.objs.size] (bs.map Value.ref).toArray.size (fun i v => (bs.map Value.ref).toArray[i]? = some v) (fun i h => h.IsListIter s.heap.objs.size l i ∧ h.IsList l (bs.map Value.ref).toArray) := Walks.list (A := A.in1) hh _ l (Nat.ne_of_lt hlt) _
  have pl : ∀ i, i ≤ vals.length → preL (fun i => vals.getD i []) i = (vals.take i).flatten := by
    intro i
    induction i with
    | zero => intro _; rfl
    | succ i ih =>
      intro hi
      unfold preL
      have hlt : i < vals.length := by omega
      rw [ih (by omega), List.take_succ, List.flatten_append, List.getD_eq_getElem?_getD, List.getElem?_eq_getElem hlt]
      simp
  have sz : (bs.map Value.ref).toArray.size = vals.length := by simp [hlen]
  have nS : (s.heap.push { cls := .type "list_iterator", data := .fields #[.ref l, .int 0 0] }).objs.size = s.heap.objs.size + 1 := Heap.size_push _ _
  have k2 : ∀ b o, s.heap.get? b = some o → ((s.heap.push { cls := .type "list_iterator", data := .fields #[.ref l, .int 0 0] }).push { cls := .type "list", data := .seq #[.ref e0] }).get? b = some o := fun b o e => Heap.get?_push_of_some _ (k1 b o e)
  have pre : ∀ i, i ≤ vals.length → (preL (fun i => vals.getD i []) i).length ≤ sizeLine := fun i hi => by
    rw [pl i hi]
    refine Nat.le_trans ?_ hz
    have e : vals.flatten = (vals.take i).flatten ++ (vals.drop i).flatten := by rw [← List.flatten_append, List.take_append_drop]
    rw [e, List.length_append]
    exact Nat.le_add_right _ _
  have old : ∀ b o, s.heap.get? b = some o → b ∉ [s.heap.objs.size] ∧ b ≠ s.heap.objs.size + 1 := fun b o e => by
    have := Heap.lt_size e
    exact ⟨fun h => absurd (List.mem_singleton.mp h) (Nat.ne_of_lt this), Nat.ne_of_lt (Nat.lt_succ_of_lt this)⟩
  have bo : ∀ i, i < vals.length → ∃ b, bs[i]? = some b ∧ s.heap.IsList b (vals.getD i []).toArray := fun i hi => by
    have h1 : bs[i]? = some (bs[i]'(by omega)) := List.getElem?_eq_getElem (by omega)
    have h2 : vals[i]? = some vals[i] := List.getElem?_eq_getElem hi
    exact ⟨_, h1, by rw [List.getD_eq_getElem?_getD, h2]; exact hb i _ _ h1 h2⟩
  refine wpAny_pure ⟨plainId_quiet F.plain_sum_loop _, ?_⟩
  refine codeAny_sum_lists I (fun i => bs.getD i 0) (fun i => vals.getD i []) (fun i v h => ?_) _ ?_ (fun i hi => ?_) (fun i hi => pre i (by rw [← sz]; exact hi)) (fun b hb i h st => ?_) base0 (fun b o e => ?_) _ 0 _ e0 0 rfl (Nat.zero_le _) ⟨⟨_, Heap.get?_push_of_some _ (Heap.get?_push_size _ rfl), rfl, rfl⟩, (hl.at fun o e => k2 l o e)⟩ (Heap.get?_push_size _ rfl) (he.at fun o e => k2 e0 o e) ?_ ?_ (fun j hj => ?_) (fun b o e => k2 b o (hB b o e)) hA fun h' a' tk hk' hl' hA' => ?_
  · simp only [List.getElem?_toArray, List.getElem?_map, Option.map_eq_some_iff] at h
    obtain ⟨b, e, rfl⟩ := h
    rw [List.getD_eq_getElem?_getD, e]
    rfl
  · show (s.heap.push _).objs.size ∉ _
    rw [nS]
    intro h
    rcases List.mem_cons.mp h with h | h
    · exact absurd h (Nat.succ_ne_self _)
    · have e := List.mem_singleton.mp h
      exact absurd hlt (by rw [← e]; exact Nat.not_lt.mpr (Nat.le_succ _))
  · obtain ⟨b, e1, _, e2, _⟩ := bo i (by rw [← sz]; exact hi)
    have e3 : bs.getD i 0 = b := by rw [List.getD_eq_getElem?_getD, e1]; rfl
    rw [e3]
    show _ ∧ b ≠ (s.heap.push _).objs.size
    rw [nS]
    exact old b _ e2
  · rw [List.mem_singleton.mp hb]
    obtain ⟨⟨o, e, _⟩, _⟩ := st
    exact ⟨o, e⟩
  · show _ ∧ b ≠ (s.heap.push _).objs.size
    rw [nS]
    exact old b o (hB b o e)
  · exact fun h => absurd (List.mem_singleton.mp h) (Nat.ne_of_lt het)
  · show e0 ≠ (s.heap.push _).objs.size
    rw [nS]
    exact Nat.ne_of_lt (Nat.lt_succ_of_lt het)
  · obtain ⟨b, e1, e2⟩ := bo j (by rw [← sz]; exact hj)
    have e3 : bs.getD j 0 = b := by rw [List.getD_eq_getElem?_getD, e1]; rfl
    rw [e3]
    exact e2.at fun o e => k2 b o e
  · refine hQ h' a' tk (fun b o e => ?_) ?_ hA'
    · obtain ⟨h1, h2⟩ := old b o e
      exact hk' b o h1 (by show b ≠ (s.heap.push _).objs.size; rw [nS]; exact h2) (k2 b o e)
    · rw [sz, pl _ (Nat.le_refl _), List.take_length] at hl'
      exact hl'
end
end PySem
set_option maxHeartbeats 200000
set_option maxHeartbeats 3200000
namespace L2
open PySem PySem.Spec PyProof.Rows
abbrev newS (w : World) : Obj := { cls := .type "set", dict := none, data := .set #[] 0 (.fresh 0 0 (!w.params.followText "set-order")) }
section
variable {P : Program} {w : World} {A : Around} {E : Value → Shared → Prop} {s : Shared} {l : Addr} {xs : Array Value}
theorem fill_ints (ns : List Int) {R : Result → Shared → Prop} (hh : A.handled = none) (hl : s.heap.IsList l xs) (hi : IntsAre xs.toList ns) (hb : ns.length + 1 < scanBound)
    (hR : ∀ h' tk c, SetR w h' s.heap.objs.size (fun j => decide (j ∈ ns)) c → c ≤ ns.length → (∀ b o, s.heap.get? b = some o → h'.get? b = some o) → R (.ok (.ret .none)) { s with heap := h', toks := tk }) :
    codeAny (model P w) A (.builtin "set.update.loop" ⟨[.ref s.heap.objs.size, .ref (s.heap.objs.size + 1)], []⟩) R { s with heap := (s.heap.push (newS w)).push { cls := .type "list_iterator", data := .fields #[.ref l, .int 0 0] } } := by
  have lt : l < s.heap.objs.size := by obtain ⟨_, e, _⟩ := hl; exact Heap.lt_size e
  have z1 : (s.heap.push (newS w)).objs.size = s.heap.objs.size + 1 := Heap.size_push ..
  have keep : ∀ b o, s.heap.get? b = some o → ((s.heap.push (newS w)).push { cls := .type "list_iterator", data := .fields #[.ref l, .int 0 0] }).get? b = some o := fun b o e => Heap.get?_push_of_some _ (Heap.get?_push_of_some _ e)
  have len : xs.size = ns.length := by rw [← Array.length_toList]; exact hi.length
  have it : ((s.heap.push (newS w)).push { cls := .type "list_iterator", data := .fields #[.ref l, .int 0 0] }).get? (s.heap.objs.size + 1) = some { cls := .type "list_iterator", data := .fields #[.ref l, .int 0 0] } := by
    rw [← z1]; exact Heap.get?_push_size _ rfl
  have Wk := (Walks.list (prog := P) (w := w) (A := A.in1) (by simpa using hh) (s.heap.objs.size + 1) l (Nat.ne_of_lt (Nat.lt_succ_of_lt lt)) xs).toS
  refine set_update_ints Wk s.heap.objs.size ?_ ns len hb (fun i v hv => ?_) (xs.size - 0) 0 _ rfl (Nat.zero_le _) ⟨⟨_, it, rfl, rfl⟩, hl.at fun o e => keep l o e⟩ ⟨0, Nat.le_refl 0, ?_⟩ fun s' c mv hc hS => ?_
  · intro h
    rcases List.mem_cons.mp h with h | h
    · exact absurd h (Nat.ne_of_lt (Nat.lt_succ_self _))
    · exact absurd (List.mem_singleton.mp h) (Nat.ne_of_gt lt)
  · have hi' : i < ns.length := by rw [← len]; exact (Array.getElem?_eq_some_iff.mp hv).1
    obtain ⟨t, e⟩ := IntsAre.int_at hi i v (by rw [Array.getElem?_toList]; exact hv)
    exact ⟨ns[i], t, List.getElem?_eq_getElem hi', by rw [e, List.getD_eq_getElem?_getD, List.getElem?_eq_getElem hi']; rfl⟩
  · exact setR_new_at (Heap.get?_push_of_some _ (Heap.get?_push_size _ rfl))
  · obtain ⟨h', g', d', tk', os'⟩ := s'
    obtain rfl : g' = s.gens := mv.gens
    obtain rfl : d' = s.drawn := mv.drawn
    obtain rfl : os' = s.os := mv.os
    refine hR h' tk' c hS (by rw [← len]; exact hc) fun b o e => mv.heap b o (fun h => ?_) (keep b o e)
    have hlt := Heap.lt_size e
    rcases List.mem_cons.mp h with h | h
    · exact absurd hlt (by rw [h]; exact Nat.lt_irrefl _)
    · exact absurd hlt (by rw [List.mem_singleton.mp h]; exact Nat.not_lt.mpr (Nat.le_succ _))
theorem set_ints (ns : List Int) {Q : Value → Shared → Prop} (hh : A.handled = none) (hl : s.heap.IsList l xs) (hi : IntsAre xs.toList ns) (hb : ns.length + 1 < scanBound)
    (q : ∀ h' tk c, SetR w h' s.heap.objs.size (fun j => decide (j ∈ ns)) c → c ≤ ns.length → (∀ b o, s.heap.get? b = some o → h'.get? b = some o) → Q (.ref s.heap.objs.size) { s with heap := h', toks := tk }) :
    wpAny (model P w) A (call (.type "set") [.ref l]) Q E s := by
  have ⟨f1, f2, f3, f4⟩ := And.intro PySem.F.called_set.made (And.intro PySem.F.called_set.sub (And.intro PySem.F.called_set.notType PySem.F.called_set.canCreate))
  obtain ⟨mc, mt, mm⟩ := PySem.F.called_set.mro
  have f5 := PySem.F.typeCall_set_1 (.ref l)
  refine wpAny_call (codeAny_of_tree (show wpAny _ _ (callAny (.type "set") _) _ _ _ from wpAny_pure ⟨Code.quiet_builtin _ (by decide +kernel), codeAny_builtin PySem.F.entry_type_call ?_⟩))
  rw [Around.under_plain (weight_type_call_type "set" [.ref l] []) rfl]
  repeat (any_goals (first | assumption | wp_step))
  refine codeAny_mono (code_set_led1 (.ref l) (E := E) (Q₁ := fun v t => v = .ref s.heap.objs.size ∧ t = { s with heap := s.heap.push (newS w) }) ⟨rfl, rfl⟩) fun r t hr => ?_
  cases r with
  | error e => exact hr
  | ok fl =>
    cases fl with
    | next => exact hr
    | brk => exact hr
    | cont => exact hr
    | ret v =>
      obtain ⟨rfl, rfl⟩ := hr
      have here : (s.heap.push (newS w)).get? s.heap.objs.size = some (newS w) := Heap.get?_push_size _ rfl
      have ty : Shared.TypeIs { s with heap := s.heap.push (newS w) } (.ref s.heap.objs.size) "set" := ⟨_, here, rfl⟩
      have g1 := PySem.F.called_set.init.lookup
      have g2 := PySem.F.called_set.init.bind (.ref s.heap.objs.size)
      repeat (any_goals (first | assumption | wp_step))
      refine codeAny_mono (codeAny_call_builtin (R := fun r t => r = .ok (.ret .none) ∧ ∃ h' tk c, t = { s with heap := h', toks := tk } ∧ SetR w h' s.heap.objs.size (fun j => decide (j ∈ ns)) c ∧ c ≤ ns.length ∧ ∀ b o, s.heap.get? b = some o → h'.get? b = some o) PySem.F.called_set.init.plain PySem.F.entry_set_init (check_set_init_1 ty ?_)) fun r t hr => ?_
      · have hl2 : (s.heap.push (newS w)).IsList l xs := hl.at fun o e => Heap.get?_push_of_some _ e
        obtain ⟨⟨oc, od, odt, osl⟩, e0, e1, n0, e2⟩ := id hl2
        simp only at e1 e2
        subst e1 e2
        have s1 := PySem.F.sub_list_set
        have s2 := PySem.F.sub_list_frozenset
        have s3 : (Value.type "list" == Value.type "dict") = false := by decide
        unfold Builtin.«set.__init__» noKeywords Builtin.Frozenset.updateFrom
        generalize hp : pyIter = PI
        wp_walk
        subst hp
        refine wpAny_pyIter_list hl2 (wpAny_bind (wpAny_runValue ?_))
        have z1 : (s.heap.push (newS w)).objs.size = s.heap.objs.size + 1 := Heap.size_push ..
        rw [z1]
        refine fill_ints (P := P) (w := w) (A := A.in1.in1) ns (by simp [hh]) hl hi hb fun h' tk c hS hc k => ?_
        show wpAny _ _ _ _ _ _
        refine wpAny_pure ?_
        show wpAny _ _ (ret Value.none) _ _ _
        exact wpAny_pure ⟨rfl, h', tk, c, rfl, hS, hc, k⟩
      · obtain ⟨rfl, h', tk, c, rfl, hS, hc, k⟩ := hr
        repeat (any_goals (first | assumption | wp_step))
        exact q _ _ _ hS hc k
end
end L2
set_option maxHeartbeats 200000
set_option maxHeartbeats 2000000
namespace TI
open PySem PySem.Spec PyProof.Rows L2
section
variable {X : Cx}
def rSumL (K : PySem.W.Frag) : List V → Hp → VK → Prop := fun vs H Q => ∃ (a e0 : Addr) (bs : List Addr) (vals : List (List V)), vs = [.ref a, .ref e0] ∧ SqL K H a (bs.map V.ref) ∧ H e0 = some (.lst []) ∧ Paired (fun b v => SqL K H b v) bs vals ∧ vals.flatten.length ≤ sizeLine ∧
  (∀ p, H p = none → Q (.ref p) (upd H p (.lst vals.flatten))) ∧ (vals.flatten = [] → Q (.ref e0) H)
theorem refs_eq : ∀ {bs : List Addr} {us : List Value}, Vals (bs.map V.ref) us → us = bs.map Value.ref
  | [], us, r => by cases r; rfl
  | b :: bs, us, r => by
    rw [List.map_cons] at r
    cases r with
    | cons h t =>
      cases h
      rw [List.map_cons, ← refs_eq t]
theorem lists_of {pins : List (Addr × Obj)} {s : Shared} {σ : L2.St} {H : Hp} (I : Inv X pins σ H s) : ∀ {bs : List Addr} {vals : List (List V)}, Paired (fun b v => SqL X.K H b v) bs vals → ∃ us : List (List Value), bs.length = us.length ∧ Vals vals.flatten us.flatten ∧ ∀ (i : Nat) (b : Addr) (u : List Value), bs[i]? = some b → us[i]? = some u → s.heap.IsList b u.toArray
  | _, _, .nil => ⟨[], rfl, .nil, fun i b u e => by simp at e⟩
  | _, _, .cons h t => by
    obtain ⟨us, l, v, f⟩ := lists_of I t
    obtain ⟨its, rv, pl, _⟩ := I.list h
    refine ⟨its :: us, by simp [l], rv.append v, fun i b u e1 e2 => ?_⟩
    cases i with
    | zero =>
      simp at e1 e2
      subst e1 e2
      exact pl.isList
    | succ i => exact f i b u (by simpa using e1) (by simpa using e2)
theorem cr_sumL (hc : X.calm = true) : CallR X (.builtin "sum") (rSumL X.K) := by
  intro pins s σ H vs us Q I r h
  obtain ⟨a, e0, bs, vals, rfl, hq, he, hp, hz, q1, q2⟩ := h
  obtain ⟨u1, u2, rfl, r1, r2⟩ := vals2 r
  cases r1
  cases r2
  obtain ⟨its, rv, pl, _⟩ := I.list hq
  have ei := refs_eq rv
  subst ei
  obtain ⟨ws, l1, l2, l3⟩ := lists_of I hp
  obtain ⟨_, vs0, n0, hv0, hl0⟩ := (show ObjOk X.prog X.w H s.heap e0 (.lst []) from I.hok e0 _ he)
  cases hv0
  obtain ⟨G', g1, g2⟩ := restrict s.heap fun b => decide (b ≠ e0)
  have ge : G'.get? e0 = none := g2 e0 (by simp)
  have gk : ∀ b o, G'.get? b = some o → s.heap.get? b = some o := fun b o e => by
    by_cases hb : b = e0
    · rw [hb, ge] at e; cases e
    · rw [← g1 b (decide_eq_true hb)]; exact e
  refine sum_lists (bs := bs) (vals := ws) (I.ok.hd hc) pl.isList ⟨n0, hl0⟩ l3 l1 (by rw [← l2.length]; exact hz) G' gk ge fun h' a' tk k hx hn => ?_
  obtain ⟨c, hx⟩ := hx
  by_cases ha : a' = e0
  · subst ha
    have h1 := k _ _ hl0
    rw [hx] at h1
    have e1 : ws.flatten = [] := by
      have := congrArg Obj.data (Option.some.inj h1)
      simp only [Data.seq.injEq] at this
      have := this.1
      simpa using congrArg Array.toList this
    have e2 : vals.flatten = [] := by
      have := l2.length
      rw [e1] at this
      exact List.length_eq_zero_iff.mp this
    exact ⟨.ref a', H, I.kept (t' := tk) k, rfl, q2 e2⟩
  · have n1 : s.heap.get? a' = none := by rw [← g1 a' (decide_eq_true ha)]; exact hn
    have n2 : H a' = none := I.hok.gone n1
    exact ⟨.ref a', upd H a' (.lst vals.flatten), I.laidN (t' := tk) k n1 n2 ⟨hz, ws.flatten, c, l2, hx⟩, rfl, q1 a' n2⟩
def rSetI (K : PySem.W.Frag) (w : World) : List V → Hp → VK → Prop := fun vs H Q => ∃ (a : Addr) (ns : List Int), vs = [.ref a] ∧ SqL K H a (ns.map V.int) ∧ ns.length ≤ 4000 ∧ ∀ p c, H p = none → c ≤ ns.length → Q (.ref p) (upd H p (SetO w p (fun j => decide (j ∈ ns)) c))
theorem cr_setI (hc : X.calm = true) : CallR X (.type "set") (rSetI X.K X.w) := by
  intro pins s σ H vs us Q I r h
  obtain ⟨a, ns, rfl, hq, hz, q⟩ := h
  obtain ⟨u, rfl, r1⟩ := vals1 r
  cases r1
  obtain ⟨its, rv, pl, _⟩ := I.list hq
  refine set_ints ns (I.ok.hd hc) pl.isList (by simpa using RZ.intsAre_vals rv) (by unfold scanBound; omega) fun h' tk c hS hcl k => ?_
  have n1 : s.heap.get? s.heap.objs.size = none := by
    cases e : s.heap.get? s.heap.objs.size with
    | none => rfl
    | some o => exact absurd (Heap.lt_size e) (Nat.lt_irrefl _)
  have n2 : H s.heap.objs.size = none := I.hok.gone n1
  exact ⟨.ref _, upd H s.heap.objs.size (SetO X.w s.heap.objs.size (fun j => decide (j ∈ ns)) c), I.laidN (t' := tk) k n1 n2 (setO_new hS), rfl, q _ c n2 hcl⟩
end
end TI
set_option maxHeartbeats 200000
set_option maxHeartbeats 2000000
namespace TI
open PySem PySem.Spec PyProof.Rows L2
theorem insI_mem {x k : Int} : ∀ {l : List Int}, k ∈ insI x l ↔ k = x ∨ k ∈ l
  | [] => by simp [insI]
  | y :: r => by
    unfold insI
    split
    · simp
    · split
      · rename_i h; subst h; simp
      · simp only [List.mem_cons, insI_mem]
        constructor
        · rintro (h | h | h) <;> simp [h]
        · rintro (h | h | h) <;> simp [h]
theorem insI_pw {x : Int} : ∀ {l : List Int}, l.Pairwise (· < ·) → (insI x l).Pairwise (· < ·)
  | [], _ => by simp [insI]
  | y :: r, h => by
    rw [List.pairwise_cons] at h
    unfold insI
    split
    · rename_i hx
      refine List.pairwise_cons.mpr ⟨fun z hz => ?_, List.pairwise_cons.mpr h⟩
      rcases List.mem_cons.mp hz with rfl | hz
      · exact hx
      · exact Int.lt_trans hx (h.1 z hz)
    · split
      · exact List.pairwise_cons.mpr h
      · refine List.pairwise_cons.mpr ⟨fun z hz => ?_, insI_pw h.2⟩
        rcases insI_mem.mp hz with rfl | hz
        · omega
        · exact h.1 z hz
theorem sortI_mem {k : Int} : ∀ {l : List Int}, k ∈ sortI l ↔ k ∈ l
  | [] => by simp [sortI]
  | y :: r => by
    show k ∈ insI y (sortI r) ↔ _
    rw [insI_mem, sortI_mem, List.mem_cons]
theorem sortI_pw : ∀ {l : List Int}, (sortI l).Pairwise (· < ·)
  | [] => by simp [sortI]
  | y :: r => insI_pw sortI_pw
theorem pw_eq : ∀ {l k : List Int}, l.Pairwise (· < ·) → k.Pairwise (· < ·) → (∀ x, x ∈ l ↔ x ∈ k) → l = k
  | [], [], _, _, _ => rfl
  | [], y :: _, _, _, h => by have := (h y).mpr (by simp); simp at this
  | y :: _, [], _, _, h => by have := (h y).mp (by simp); simp at this
  | a :: l, b :: k, h1, h2, h => by
    rw [List.pairwise_cons] at h1 h2
    have e : a = b := by
      have ha := (h a).mp (by simp)
      have hb := (h b).mpr (by simp)
      rcases List.mem_cons.mp ha with e | ha
      · exact e
      · rcases List.mem_cons.mp hb with e | hb
        · exact e.symm
        · have := h1.1 b hb
          have := h2.1 a ha
          omega
    subst e
    rw [pw_eq h1.2 h2.2 fun x => ?_]
    constructor
    · intro hx
      have := h1.1 x hx
      rcases List.mem_cons.mp ((h x).mp (by simp [hx])) with e | e
      · omega
      · exact e
    · intro hx
      have := h2.1 x hx
      rcases List.mem_cons.mp ((h x).mpr (by simp [hx])) with e | e
      · omega
      · exact e
section
variable {K : PySem.W.Frag} {F H : Hp}
theorem sru_ints : ∀ ns : List Int, IsL K F (ns.map V.int) (ns.map PyData.int)
  | [] => .nil
  | n :: ns => .cons (.int n) (sru_ints ns)
theorem cat_lists (l : Le F H) : ∀ {xs : List V} {ds : List D} {ns : List Int}, IsL K F xs ds → catI ds = some ns → ∃ (bs : List Addr) (vals : List (List V)), xs = bs.map V.ref ∧ Paired (fun b v => SqL K H b v) bs vals ∧ vals.flatten = ns.map V.int
  | _, _, _, .nil, e => by cases e; exact ⟨[], [], rfl, .nil, rfl⟩
  | _, _, ns, .cons (d := d) h t, e => by
    cases h with
    | lst h1 h2 =>
      rename_i a xs ds
      unfold catI at e
      split at e
      · rename_i p q e1 e2
        cases e
        obtain ⟨bs, vals, rfl, p2, p3⟩ := cat_lists l t e2
        have e3 := h2.ints e1
        subst e3
        exact ⟨a :: bs, (p.map V.int) :: vals, rfl, .cons (l.sl h1) p2, by simp [p3]⟩
      · cases e
    | _ => cases e
end
section
variable {G : Sg} {cx : Nat → List Vl → Mu → Option (XR × Mu)} {k : Nat} {b : Nat} {N : List Str} {sc : Scope} {X : Cx}
theorem srtU_ok (C : Cxt G cx k N sc X) {e : Expr} {e' : Ex} {lp p p1 p2 q0 q1 q2 : Pos} (hb1 : bltB G sc "sorted" = true) (hb2 : bltB G sc "set" = true) (hb3 : bltB G sc "sum" = true) (hs : plainStar e [.List [] lp]) (h : OkE X e (evalE (valC cx) b e')) :
    OkN X (.Call (.Name "sorted" p) [.Call (.Name "set" p1) [.Call (.Name "sum" p2) [e, .List [] lp] [] q2] [] q1] [] q0) (evalN (valC cx) b (.srtU e')) := by
  intro r m c m' hh
  unfold evalN at hh
  obtain ⟨⟨v, m1⟩, g1, hh⟩ := bind_some hh
  obtain ⟨⟨d, m2⟩, g2, hh⟩ := bind_some hh
  obtain ⟨c', g3, hh⟩ := bind_some hh
  cases hh
  unfold srtF at g3
  split at g3 <;> first | (cases g3; done) | skip
  rename_i ls
  split at g3 <;> first | (cases g3; done) | skip
  rename_i ns hns
  split at g3 <;> first | (cases g3; done) | skip
  rename_i hz
  cases g3
  refine ⟨rfl, fun σ F io H st en Q q => ?_⟩
  obtain ⟨i1, i2, i3, i4⟩ := C.blt hb1
  obtain ⟨j1, j2, j3, j4⟩ := C.blt hb2
  obtain ⟨k1, k2, k3, k4⟩ := C.blt hb3
  refine DE.blt (.inl ⟨"sorted", rfl⟩) i1 i2 (by decide +kernel) i4 i3 (fun _ => rfl) (fun pos => rfl) (PA.da (pa_cons (cE (X := X)) pa_nil rfl) ?_)
  refine DE.blt (.inr ⟨"set", rfl⟩) j1 j2 (by decide +kernel) j4 j3 (fun _ => rfl) (fun pos => rfl) (PA.da (pa_cons (cE (X := X)) pa_nil rfl) ?_)
  refine DE.blt (.inl ⟨"sum", rfl⟩) k1 k2 (by decide +kernel) k4 k3 hs (fun pos => rfl) (PA.da (pa_cons (cE (X := X)) (pa_cons (pe_lst pa_nil) pa_nil rfl) (hs _)) ?_)
  refine h r m v m1 g1 σ F io H st en _ fun vx F1 io1 H1 A1 hvx => ?_
  obtain ⟨F2, A2, ix⟩ := hvx.down A1.st g2
  have A12 := A1.trans A2
  cases ix with
  | lst s1 s2 =>
    rename_i a xs
    refine ⟨Nat.zero_le _, fun e0 he0 => ?_⟩
    have le0 : Le H1 (upd H1 e0 (.lst [])) := Le.new he0
    obtain ⟨bs, vals, rfl, p2, p3⟩ := cat_lists (A2.st.sub.trans le0) s2 hns
    have hlen : vals.flatten.length ≤ sizeLine := by rw [p3, List.length_map]; exact szL (by omega)
    -- behind the sum
    have after : ∀ (pr : Addr) (H2 : Hp), Le H1 H2 → SqL X.K H2 pr (ns.map V.int) → rcc X (.type "set") [.ref pr] H2 fun w H3 => rcc X (.builtin "sorted") [w] H3 Q := fun pr H2 l2 hpr => by
      intro pins s σ' us I rx
      refine cr_setI C.calm pins s σ' H2 _ us _ I rx ⟨pr, ns, rfl, hpr, by omega, fun ps c hps hc => ?_⟩
      intro pins s σ' us I rx
      have l3 : Le H2 (upd H2 ps (SetO X.w ps (fun j => decide (j ∈ ns)) c)) := Le.new hps
      refine cr_sortedSet C.calm pins s σ' _ _ us _ I rx ⟨ps, _, c, rfl, upd_same, ?_, fun ns' po hpw hm hl hpo => ?_⟩
      · omega
      · have e1 : ns' = sortI ns := pw_eq hpw sortI_pw fun x => by rw [hm, sortI_mem]; simp
        rw [e1]
        have lq := l2.trans l3
        have g : Grow F2 H1 F2 (upd H2 ps (SetO X.w ps (fun j => decide (j ∈ ns)) c)) := ⟨Le.refl F2, lq, A2.st.sub.trans lq, fun _ h => .inl h⟩
        exact q po _ F2 io1 _ (A12.trans (Adv.grow A2.st g)) hpo ⟨_, rfl, sru_ints _⟩
    intro pins s σ' us I rx
    refine cr_sumL C.calm pins s σ' _ _ us _ I rx ⟨a, e0, bs, vals, rfl, (A2.st.sub.trans le0).sl s1, upd_same, p2, hlen, fun ps hps => ?_, fun hnil => ?_⟩
    · rw [p3]
      exact after ps _ (le0.trans (Le.new hps)) (SqL.of upd_same)
    · refine after e0 _ le0 ?_
      rw [← p3, hnil]
      exact SqL.of upd_same
end
end TI
set_option maxHeartbeats 200000
set_option maxHeartbeats 4000000
namespace TI
open PySem PySem.Spec PyProof.Rows L2
section
variable {K : PySem.W.Frag} {F H H' : Hp}
theorem Vw.dp0 (l : Le F H) {v : V} {d : D} (h : Vw K F H v d) (c0 : d.canLay0 = true) : Dp K H v d := by
  cases h with
  | of h => exact h.dp l c0
  | lst h k => exact .lst (SqL.of h) (k.dp l (by simpa only [PyData.canLay0] using c0))
  | dct h k => simp [PyData.canLay0] at c0
theorem VwL.dp (l : Le F H) : ∀ {vs : List V} {ds : List D}, VwL K F H vs ds → PyData.canLayAll0 ds = true → DpAll K H vs ds
  | _, _, .nil, _ => .nil
  | _, _, .cons h k, c => by
    simp only [PyData.canLayAll0, Bool.and_eq_true] at c
    exact .cons (h.dp0 l c.1) (VwL.dp l k c.2)
theorem Vw.on (l : Le H H') {v : V} {d : D} (h : Vw K F H v d) : Vw K F H' v d := by
  cases h with
  | of h => exact .of h
  | lst h k => exact .lst (l _ _ h) k
  | dct h k => exact .dct (l _ _ h) k
theorem VwL.on (l : Le H H') : ∀ {vs : List V} {ds : List D}, VwL K F H vs ds → VwL K F H' vs ds
  | _, _, .nil => .nil
  | _, _, .cons h k => .cons (h.on l) (VwL.on l k)
theorem VwL.length : ∀ {vs : List V} {ds : List D}, VwL K F H vs ds → vs.length = ds.length
  | _, _, .nil => rfl
  | _, _, .cons _ k => by rw [List.length_cons, List.length_cons, VwL.length k]
end
section
variable {G : Sg} {cx : Nat → List Vl → Mu → Option (XR × Mu)} {k : Nat} {b : Nat} {N : List Str} {sc : Scope} {X : Cx}
theorem SsOk.isL {K : PySem.W.Frag} {F : Hp} {io : Nat → Addr} {n : Nat} {us : List V} {xs : List (D ⊕ Nat)} (h : SsOk K F io n us xs) : ∀ {ds : List D}, dataX xs = some ds → IsL K F us ds := by
  induction h with
  | nil => intro ds e; cases e; exact .nil
  | cons h _ ih =>
    rename_i l ls k
    intro ds e
    cases l with
    | inr n => cases e
    | inl d =>
      unfold dataX at e
      split at e
      · rename_i es he
        cases e
        exact .cons h (ih he)
      · cases e
theorem nobN {bo : CmpOp} {neg : Bool} (hb : noneOp bo = some neg) (e : Expr) : behindInMarks bo e = false := by
  refine nobehind e ?_ ?_ <;> (intro h; subst h; cases hb)
theorem isNe_val {bo : CmpOp} {neg : Bool} (hb : noneOp bo = some neg) {vx : V} {H : Hp} {Q : VK} (q : Q (.bl (if neg then !decide (vx = V.non) else decide (vx = V.non))) H) : r2c X (compareOp bo) vx .non H Q := by
  cases bo <;> first | (cases hb; done) | skip
  · cases hb
    exact fun pins s σ v u I rx ry => op_isN pins s σ _ _ _ v u _ I rx ry ⟨rfl, q⟩
  · cases hb
    exact fun pins s σ v u I rx ry => op_notN pins s σ _ _ _ v u _ I rx ry ⟨rfl, q⟩
theorem isNe_core {a' : Ex} {neg : Bool} {r : En} {m m' : Mu} {vl : Vl} (hh : evalE (valC cx) b (.isNe neg a') r m = some (vl, m')) : ∃ v kk, evalE (valC cx) b a' r m = some (v, m') ∧ vl = .t (.bool kk) ∧
    ∀ {K : PySem.W.Frag} {F : Hp} {io : Nat → Addr} {n : Nat} {vx : V}, VlOk K F io n vx v → (if neg then !decide (vx = V.non) else decide (vx = V.non)) = kk := by
  unfold evalE at hh
  obtain ⟨⟨v, m1⟩, g1, hh⟩ := bind_some hh
  dsimp only at hh
  split at hh
  · cases hh
    refine ⟨_, neg, g1, rfl, fun h => ?_⟩
    obtain ⟨a, C, rfl, _⟩ := h
    cases neg <;> simp
  · rename_i d
    cases hh
    refine ⟨_, _, g1, rfl, fun {K F io n vx} h => ?_⟩
    have h : Is K F vx d := h
    have e : decide (vx = V.non) = isNone d := by cases h <;> simp [isNone]
    rw [e]
  · cases hh
theorem isNe_ok {bo : CmpOp} {neg : Bool} {j : Nat} {q p : Pos} (hb : noneOp bo = some neg) {x : Expr} {x' : Ex} (hx : OkE X x (evalE (valC cx) b x')) : OkE X (.Compare x [bo] [.Constant .none j q] p) (evalE (valC cx) b (.isNe neg x')) := by
  intro r m vl m' hh σ F io H st en Q k
  obtain ⟨v, kk, g1, rfl, f⟩ := isNe_core hh
  refine DE.cmp (nobN hb _) ?_
  refine hx r m v m' g1 σ F io H st en _ fun vx F' io' H' A hvx => ?_
  exact PE.de pe_non (isNe_val hb (by rw [f hvx]; exact k _ F' io' H' A (.bl _)))
theorem isNeT_ok {bo : CmpOp} {neg : Bool} {j : Nat} {q p : Pos} (hb : noneOp bo = some neg) {x : Expr} {x' : Ex} (hx : OkE X x (evalE (valC cx) b x')) : OkT X (.Compare x [bo] [.Constant .none j q] p) (evalE (valC cx) b (.isNe neg x')) := by
  intro r m kb m' hh σ F io H st en Q k
  obtain ⟨v, kk, g1, hk, f⟩ := isNe_core hh
  cases hk
  refine DT.cmp (nobN hb _) ?_
  refine hx r m v m' g1 σ F io H st en _ fun vx F' io' H' A hvx => ?_
  exact PE.de pe_non (isNe_val (Q := fun z H3 => ∃ k, z = .bl k ∧ Q k H3) hb ⟨kb, by rw [f hvx], k F' io' H' A⟩)
theorem Md.cls {P : Program} {w : World} {K : PySem.W.Frag} {mg : Str → Option Value} {base : Heap} {c : Str} {Ca : Addr} (M : Md G cx k P w K mg base) (h : G.er.contains c = true ∨ G.eb.contains c = true) (n1 : PySem.W.nsIn K mainGlobals c = some (some (.ref Ca))) : PySem.ErX.ClTxt K Ca := by
  rcases h with h | h
  · obtain ⟨C2, fI, n2, T⟩ := M.er c h
    rw [n1] at n2
    cases n2
    exact T.cl
  · obtain ⟨C2, n2, T⟩ := M.eb c h
    rw [n1] at n2
    cases n2
    exact T.toClTxt
theorem tyIn (d : D) : tyOf d ∈ ["NoneType", "bool", "int", "str", "list", "tuple", "dict"] := by cases d <;> simp [tyOf]
theorem isx_ok (C : Cxt G cx k N sc X) {x : Str} {cs : List (Str × Bool)} {e : Expr} {e' : Ex} {p p2 pos : Pos} (h1 : (x, cs) ∈ G.cl) (h2 : gloB sc x = true) (h3 : okN x = true) (hi : bltB G sc "isinstance" = true) (hs : plainStar e [.Name x p2]) (h : OkE X e (evalE (valC cx) b e')) :
    OkE X (.Call (.Name "isinstance" p) [e, .Name x p2] [] pos) (evalE (valC cx) b (.isx x cs e')) := by
  intro r m vl m' hh σ F io H st en Q q
  unfold evalE at hh
  obtain ⟨⟨v, m1⟩, g1, hh⟩ := bind_some hh
  dsimp only at hh
  obtain ⟨C1, hm, herr, hty⟩ := C.md.cl x cs h1
  obtain ⟨i1, i2, i3, i4⟩ := C.blt hi
  refine DE.blt (.inl ⟨"isinstance", rfl⟩) i1 i2 (by decide +kernel) i4 i3 hs (fun pos => rfl) ?_
  refine PA.da (pa_cons (cE (X := X)) (pa_cons (pe_glob (v := .ref C1) (C.gl h2) hm rfl (okN_at h3).1) pa_nil rfl) (hs _)) ?_
  split at hh
  · rename_i c xx
    split at hh
    · rename_i kk hk
      cases hh
      refine h r m _ _ g1 σ F io H st en _ fun vx F' io' H' A hvx => ?_
      obtain ⟨a, Ca, rfl, n1, hob⟩ := hvx
      obtain ⟨he, hkit⟩ := herr c kk hk
      have T := C.md.cls he n1
      intro pins s σ' us I rx
      obtain ⟨oe, od, J⟩ := held_at I A.st.sub hob
      exact isx_cl (cv := .ref C1) T I J (hkit Ca n1) (fun _ z => z) rx (q _ F' io' H' A (.bl _))
    · cases hh
  · rename_i d
    cases hh
    refine h r m _ _ g1 σ F io H st en _ fun vx F' io' H' A hvx => ?_
    intro pins s σ' us I rx
    exact call_isi pins s σ' H' _ us _ I rx ⟨vx, .ref C1, .type (tyOf d), .ref C1, false, rfl, .own C1, tyX_of A.st.sub (.of hvx), hty _ (tyIn d), q _ F' io' H' A (.bl _)⟩
  · cases hh
theorem fld_ok (C : Cxt G cx k N sc X) {cs : List Str} {e : Expr} {e' : Ex} {p : Pos} (hcs : ∀ nm, cs.contains nm = true → G.er.contains nm = true) (hb : ∀ env, attributeBase e "value" env (eval e env) = eval e env) (h : OkE X e (evalE (valC cx) b e')) : OkE X (.Attribute e "value" p) (evalE (valC cx) b (.fld cs e')) := by
  intro r m vl m' hh σ F io H st en Q q
  unfold evalE at hh
  obtain ⟨⟨v, m1⟩, g1, hh⟩ := bind_some hh
  dsimp only at hh
  split at hh
  · rename_i c x
    split at hh
    · rename_i hc
      cases hh
      intro pins s I
      refine attr_of (hb _) (thn ((h r m _ _ g1 σ F io H st en (fun vx H1 => ∃ a Ca dx u, vx = .ref a ∧ PySem.W.nsIn X.K mainGlobals c = some (some (.ref Ca)) ∧ H1 a = some (ErO Ca dx a) ∧ H1 dx = some (.xd [(("value" : Str), u)]) ∧ Q u H1) fun vx F' io' H' A hvx => ?_) pins s I) fun u s1 ⟨vx, H1, I1, rx, a, Ca, dx, w, ex, n1, ha, hd, q1⟩ => ?_)
      · obtain ⟨a, Ca, rfl, n1, hob⟩ := hvx
        rcases hob with ⟨dx, u, ha, hd, so⟩ | ⟨hb0, _, _⟩
        · exact ⟨a, Ca, dx, u, rfl, n1, A.st.sub _ _ ha, A.st.sub _ _ hd, q u F' io' H' A so.toVl⟩
        · obtain ⟨C2, fI, n2, T⟩ := C.md.er c (hcs c hc)
          rw [n1] at n2
          cases n2
          have := T.iC.symm.trans hb0
          cases this
      · subst ex
        cases rx
        obtain ⟨C2, fI, n2, T⟩ := C.md.er c (hcs c hc)
        rw [n1] at n2
        cases n2
        exact fld_er T I1 ha hd q1 true
    · cases hh
  · cases hh
theorem tupv_ok {es : List Expr} {es' : Exs} {kk : Nat} {p : Pos} (h : OkEs X (valC cx) b es es') : OkE X (.Tuple es kk p) (evalE (valC cx) b (.tupv es')) := by
  intro r m vl m' hh σ F io H st en Q q
  unfold evalE at hh
  obtain ⟨⟨vs, m1⟩, h1, hh⟩ := bind_some hh
  obtain ⟨xs, h2, hh⟩ := bind_some hh
  split at hh
  · rename_i hz
    cases hh
    refine PE.de (pe_tup (cA (X := X))) (h.l r m vs _ h1 σ F io H st en _ fun us F' io' H' A hxs => ?_)
    have so := hxs.so h2
    refine ⟨by rw [so.length]; exact szL hz, fun p hp => ?_⟩
    have g := Grow.new (o := .tup us) A.st.sub hp
    refine q _ _ io' _ (A.trans (Adv.grow A.st g)) ?_
    have so2 := so.adv (Adv.grow A.st g)
    unfold tupX
    split
    · rename_i ds hd
      exact Is.tup (SqT.of upd_same) (so2.isL hd)
    · exact ⟨p, us, rfl, SqT.of upd_same, so2⟩
  · cases hh
theorem atI_toNat {α : Type} {xs : List α} {i : Int} {x : α} (h0 : 0 ≤ i) (h : xs[i.toNat]? = some x) : atI xs i = some x := by
  obtain ⟨n, rfl⟩ := Int.eq_ofNat_of_zero_le h0
  have h : xs[n]? = some x := by simpa using h
  have hl := (List.getElem?_eq_some_iff.mp h).1
  have h1 : ixN xs.length (n : Int) = some n := by
    unfold ixN
    rw [if_pos (by omega), if_pos (by omega)]
    rfl
  unfold atI
  rw [h1]
  exact h
theorem idxv_ok {x : Expr} {x' : Ex} {i : Int} {j : Nat} {qq p : Pos} (hs : PlainIx (.Constant (.int i) j qq)) (h0 : 0 ≤ i) (hx : OkE X x (evalE (valC cx) b x')) : OkE X (.Subscript x (.Constant (.int i) j qq) p) (evalE (valC cx) b (.idxv i.toNat x')) := by
  intro r m vl m' hh σ F io H st en Q q
  unfold evalE at hh
  obtain ⟨⟨v, m1⟩, g1, hh⟩ := bind_some hh
  dsimp only at hh
  split at hh
  · rename_i xs
    split at hh
    · rename_i y hy
      cases hh
      refine DE.idx hs (hx r m _ _ g1 σ F io H st en _ fun vx F' io' H' A hvx => PE.de pe_int ?_)
      obtain ⟨a, us, rfl, ht, so⟩ := hvx
      obtain ⟨u, hu, su⟩ := so.get _ _ hy
      intro pins s σ' v u' I rx ry hsub
      exact ix_tup x _ pins s σ' H' _ _ v u' Q I rx ry ⟨a, us, i, u, rfl, rfl, A.st.sub.st ht, atI_toNat h0 hu, q u F' io' H' A su.toVl⟩ hsub
    · cases hh
  · rename_i d
    split at hh
    · rename_i d' hd
      cases hh
      rw [Int.toNat_of_nonneg h0] at hd
      refine DE.idx hs (hx r m _ _ g1 σ F io H st en _ fun vx F' io' H' A hvx => PE.de pe_int ?_)
      intro pins s σ' v u I rx ry hsub
      have hd2 : fIdx d (.int i) = some d' := by cases d <;> first | exact hd | cases hd
      exact idx_val A.st.sub I rx ry (.of hvx) (.of (.int i)) (d := d') hd2 (fun kvs z => by rw [z] at hd; cases hd) (post_res A.st fun v F2 io2 H2 A2 hv => q v F2 io2 H2 (A.trans A2) hv) hsub
    · cases hh
  · cases hh
theorem pe_lstB {es : List Expr} {t : TA} {pos : Pos} (h : PA X es t) : PE X (.List es pos) (fun σ H Q => t σ H fun xs H1 => xs.length ≤ sizeLine ∧ ∀ p, p ≠ sysModules → H1 p = none → Q (.ref p) (upd H1 p (.lst xs))) := by
  refine ⟨fun pins s σ H Q I hq => ?_⟩
  refine wpAny_List_spliced (thn (h.run pos pins s σ H _ I hq) fun us s1 ⟨xs, H1, I1, r, z, q⟩ => ⟨by rw [← r.length]; exact z, ?_⟩)
  have hf : H1 s1.heap.objs.size = none := I1.hok.fresh (Nat.le_refl _)
  refine ⟨.ref s1.heap.objs.size, upd H1 s1.heap.objs.size (.lst xs), I1.laid (t' := s1.toks) (fun b u e => Heap.get?_push_of_some _ e) (Nat.le_refl _) ?_, rfl, q _ (Nat.ne_of_gt I1.big) hf⟩
  exact ⟨z, us, 0, r, Heap.get?_push_size _ rfl⟩
theorem atom_reads {pins : List (Addr × Obj)} {s : Shared} {σ : L2.St} {F H : Hp} (I : Inv X pins σ H s) (l : Le F H) : ∀ {vs : List V} {us : List Value} {ds : List D}, VwL X.K F H vs ds → Vals vs us → ds.all atomD = true → ∃ as, ReadsAll s.heap us ds as ∧ sysModules ∉ as
  | _, _, _, .nil, .nil, _ => ⟨_, .nil, by simp⟩
  | _, _, _, .cons (v := v) (d := d) h k, .cons r rs, e => by
    simp only [List.all_cons, Bool.and_eq_true] at e
    obtain ⟨bs, q2, n2⟩ := atom_reads I l k rs e.2
    have done : ∀ {u as}, Reads s.heap u d as → sysModules ∉ as → ∃ cs, ReadsAll s.heap (u :: _) (d :: _) cs ∧ sysModules ∉ cs := fun {u as} q1 n1 => ⟨as ++ bs, .cons q1 q2, by simp [n1, n2]⟩
    have e1 := e.1
    cases d with
    | none => have := h.none; subst this; cases r; exact done .none (by simp)
    | bool b => have := h.bool; subst this; cases r; exact done (.bool b) (by simp)
    | int i => have := h.int; subst this; obtain ⟨t, rfl⟩ := r; exact done (.int i t) (by simp)
    | str x => have := h.str; subst this; obtain ⟨t, rfl⟩ := r; exact done (.str x t) (by simp)
    | list xs => cases e1
    | tuple xs => cases e1
    | dict kvs =>
      cases kvs with
      | cons _ _ => cases e1
      | nil =>
        obtain ⟨p, kvs, rfl, hr, hk⟩ := h.dict l
        cases hk
        cases r
        obtain ⟨_, ns, ws, kv, o, es, ep, ho, hx, hd, _, hes, _⟩ := (show ObjOk X.prog X.w H s.heap p (.dK []) from I.hok _ _ hr)
        cases kv
        have he : es.toList = [] := by
          generalize es.toList = q at hes
          cases hes
          rfl
        have rd : Reads s.heap (.ref p) (.dict []) (p :: [] ++ []) := Reads.dict ho hx.1 hd (by rw [he]; exact .nil) (by rw [he]; exact .nil)
        have np : p ≠ sysModules := by simpa using ns
        exact done rd (by simpa using fun z => np z.symm)
theorem repr_dp {pins : List (Addr × Obj)} {s : Shared} {σ : L2.St} {F H : Hp} {Q : VK} (I : Inv X pins σ H s) (hg : X.A.guards = some []) (hu : X.A.units + 100 < cLine) (l : Le F H) {p : Addr} {xs : List V} {ds : List D} (hp : p ≠ sysModules) (h : SqL X.K H p xs) (k : VwL X.K F H xs ds) (ok : reprOkL ds = true)
    (q : Q (.str (PyData.shown (.list ds))) H) : wpAny (model X.prog X.w) X.A (call (.builtin "repr") [.ref p]) (EP X pins σ Q) X.xe s := by
  unfold reprOkL at ok
  simp only [Bool.and_eq_true, decide_eq_true_eq, Bool.or_eq_true] at ok
  obtain ⟨⟨⟨h1, h2⟩, h3⟩, hs⟩ := ok
  have sz : (PyData.list ds).shown.length ≤ sizeLine := szL h3
  have fin : ∀ as, Reads s.heap (.ref p) (.list ds) as → ((PyData.list ds).hasDict = true → sysModules ∉ as) → wpAny (model X.prog X.w) X.A (call (.builtin "repr") [.ref p]) (EP X pins σ Q) X.xe s := fun as rd hd =>
    repr_of_reads' rd h1 hd hg (by omega) (fun _ _ e => e) (fun h' t tk k => ⟨.str _, H, I.kept (t' := tk) k, ⟨_, rfl⟩, q⟩) sz
  rcases hs with hs | hs
  · have c0 : PyData.canLayAll0 ds = true := by simpa only [PyData.canLay0] using SeqAt.canLay_of_shaped hs
    obtain ⟨as, rd⟩ := Dp.reads I (.list ds) (.ref p) (.ref p) (.lst h (k.dp l c0)) rfl
    have nd := PyData.hasDict_of_canLay (.list ds) (SeqAt.canLay_of_shaped hs)
    exact fin as rd (fun z => by rw [nd] at z; cases z)
  · obtain ⟨its, rv, ⟨o, n, ho, hc, _, hd⟩, _⟩ := I.list h
    obtain ⟨as, hr, na⟩ := atom_reads I l k rv hs
    exact fin _ (Reads.list ho hc hd hr) fun _ z => by
      rcases List.mem_cons.mp z with e | e
      · exact hp e.symm
      · exact na e
theorem reprL_ok (C : Cxt G cx k N sc X) {es : List Expr} {es' : Exs} {lp p pos : Pos} (hb : bltB G sc "repr" = true) (hs : plainStar (.List es lp) []) (h : OkEs X (valC cx) b es es') : OkE X (.Call (.Name "repr" p) [.List es lp] [] pos) (evalE (valC cx) b (.reprL es')) := by
  intro r m vl m' hh σ F io H st en Q q
  unfold evalE at hh
  obtain ⟨⟨vs, m1⟩, g1, hh⟩ := bind_some hh
  obtain ⟨ds, g2, hh⟩ := bind_some hh
  split at hh
  · rename_i hz
    cases hh
    simp only [Bool.and_eq_true, decide_eq_true_eq] at hz
    obtain ⟨z1, z2⟩ := hz
    obtain ⟨i1, i2, i3, i4⟩ := C.blt hb
    refine DE.blt (.inl ⟨"repr", rfl⟩) i1 i2 (by decide +kernel) i4 i3 hs (fun pos => rfl) ?_
    refine PA.da (pa_cons (pe_lstB (cA (X := X))) pa_nil (hs _)) (h.l r m vs _ g1 σ F io H st en _ fun xs F' io' H' A hxs => ?_)
    have vw := hxs.vw A.st g2
    refine ⟨by rw [vw.length]; exact szL (by omega), fun p np hp => ?_⟩
    intro pins s σ' us I rx
    obtain ⟨u, rfl, ru⟩ := vals1 rx
    cases ru
    have le : Le H' (upd H' p (.lst xs)) := Le.new hp
    have g : Grow F' H' F' (upd H' p (.lst xs)) := ⟨Le.refl F', le, A.st.sub.trans le, fun _ h => .inl h⟩
    refine repr_dp I C.grd (by have := C.units; omega) (A.st.sub.trans le) np (SqL.of upd_same) (vw.on le) z2 ?_
    exact q _ F' io' _ (A.trans (Adv.grow A.st g)) (.str _)
  · cases hh
end
end TI
set_option maxHeartbeats 200000
set_option maxHeartbeats 4000000
namespace TI
open PySem PySem.Spec PyProof.Rows L2
section
variable {X : Cx} {C fI : Addr} {nm : Str}
theorem made_laid {pins : List (Addr × Obj)} {σ : L2.St} {H1 : Hp} {hp h' : Heap} {g : Array GenState} {dr : Drawn} {tk tk' : Nat} {os : OsState} {e d : Addr} {v : V} {v' : Value} (I1 : Inv X pins σ H1 ⟨hp, g, dr, tk, os⟩) (rv : RelV v v') (M : PySem.ErX.OwnMade hp h' e C d v') :
    H1 d = none ∧ upd H1 d (.xd [(("value" : Str), v)]) e = none ∧ Inv X pins σ (upd (upd H1 d (.xd [(("value" : Str), v)])) e (ErO C d e)) ⟨h', g, dr, tk', os⟩ := by
  obtain ⟨oe, fv, hoe, hc, hd, hdat, h1⟩ := M.obj
  have hns := M.ns
  obtain ⟨G', g1, g2⟩ := restrict h' fun b => decide (b ≠ e)
  have gk : ∀ b, b ≠ e → G'.get? b = h'.get? b := fun b hb => g1 b (decide_eq_true hb)
  have ge : G'.get? e = none := g2 e (by simp)
  have old : ∀ b o, hp.get? b = some o → G'.get? b = some o := fun b o q => (gk b (Nat.ne_of_lt (Nat.lt_of_lt_of_le (Heap.lt_size q) M.new))).trans (M.keep b o q)
  have ob : ObjOk X.prog X.w (upd H1 d (.xd [(("value" : Str), v)])) G' d (.xd [(("value" : Str), v)]) :=
    ⟨_, hns.at (fun o q => (gk d M.dne).trans q), fun f => relO_er rv f⟩
  have J : Inv X pins σ (upd H1 d (.xd [(("value" : Str), v)])) ⟨G', g, dr, tk', os⟩ := I1.laid (t' := tk') old M.dbig ob
  have nd : H1 d = none := I1.hok.fresh M.dbig
  have ne : upd H1 d (.xd [(("value" : Str), v)]) e = none := by
    rw [upd_ne (Ne.symm M.dne)]
    exact I1.hok.fresh M.new
  have kk : ∀ b u, G'.get? b = some u → h'.get? b = some u := fun b u q => by
    by_cases hb : b = e
    · rw [hb, ge] at q; cases q
    · exact (gk b hb).symm.trans q
  exact ⟨nd, ne, J.laidN (t' := tk') kk ge ne ⟨⟨oe, fv, hoe, ⟨hc, hd⟩, hdat⟩, ⟨oe, hoe⟩, fun _ _ ⟨o, w, q, r⟩ k => ⟨o, w, k o q, r⟩⟩⟩
def tMkO (C : Addr) (v : V) (H1 : Hp) (Q : VK) : Prop := ∀ d e, H1 d = none → upd H1 d (.xd [(("value" : Str), v)]) e = none → Q (.ref e) (upd (upd H1 d (.xd [(("value" : Str), v)])) e (ErO C d e))
variable {k : Nat} {p pos : Pos} {σ : L2.St} {H : Hp} {Q : VK}
theorem de_mke {a : Expr} (T : PySem.ErX.ErTxt X.prog X.K X.mg nm C fI) (hr : Room k X.A) (hg : Gl X nm) (hd : (nm == ("__debug__" : Str)) = false)
    (he : starEach (a :: []) X.env = (false, eval a X.env) :: starEach [] X.env) (hpl : (backTo pos (starEach [] X.env)).any (·.1) = false) (h : DE X a σ H fun v H1 => tMkO C v H1 Q) : DE X (.Call (.Name nm p) [a] [] pos) σ H Q := by
  intro pins s I
  refine wpAny_Call_Name_kw (ld_glob I hg T.gC ?_ hd)
  refine PySem.W.callWith_K (h₀ := X.base) I.ok.mod.kin T.kC (thn ((pa_cons (cE (X := X)) pa_nil he).run pos pins s σ H (fun vs H1 => ∃ v, vs = [v] ∧ tMkO C v H1 Q) I (fun pins s I => thn (h pins s I) fun u s1 ⟨v, H1, I1, r1, q1⟩ => ⟨v, H1, I1, r1, v, rfl, q1⟩)) fun us s1 hh => ?_) he hpl
  obtain ⟨vs, H1, I1, r1, v, ev, q1⟩ := hh
  subst ev
  refine ⟨I1.kIn, ?_⟩
  cases r1 with
  | cons rv rn =>
    rename_i v' us'
    cases rn
    show wpAny _ _ (call (.ref C) [v']) _ _ _
    have hlim := I1.nolimit
    have hgl := I1.ok.mod.glob.keeps I1.bk
    obtain ⟨mb, hb1, hb2⟩ := I1.ok.mod.blt
    have hbl := hb1.keeps I1.bk
    obtain ⟨hp, g, dr, tk, os⟩ := s1
    refine wpAny_call (PySem.ErX.er_made T I1.kIn hgl hbl ((hb2 "super" (by decide)).trans (by rfl)) hlim (by have := hr.dp; omega) fun h' tk' e d M => ?_)
    obtain ⟨n1, n2, J⟩ := made_laid (tk' := tk') I1 rv M
    exact ⟨.ref e, _, J, rfl, q1 d e n1 n2⟩
theorem de_mke0 (T : PySem.ErX.ErTxt X.prog X.K X.mg nm C fI) (hr : Room k X.A) (hg : Gl X nm) (hd : (nm == ("__debug__" : Str)) = false) (h : tMkO C .non H Q) : DE X (.Call (.Name nm p) [] [] pos) σ H Q := by
  intro pins s I1
  refine wpAny_Call_Name_kw (ld_glob I1 hg T.gC ?_ hd)
  refine PySem.W.callWith_K0 I1.kIn T.kC ?_
  show wpAny _ _ (call (.ref C) []) _ _ _
  have hlim := I1.nolimit
  have hgl := I1.ok.mod.glob.keeps I1.bk
  obtain ⟨mb, hb1, hb2⟩ := I1.ok.mod.blt
  have hbl := hb1.keeps I1.bk
  obtain ⟨hp, g, dr, tk, os⟩ := s
  refine wpAny_call (PySem.ErX.er_made0 T I1.kIn hgl hbl ((hb2 "super" (by decide)).trans (by rfl)) hlim (by have := hr.dp; omega) fun h' tk' e d M => ?_)
  obtain ⟨n1, n2, J⟩ := made_laid (tk' := tk') (v := .non) I1 rfl M
  exact ⟨.ref e, _, J, rfl, h d e n1 n2⟩
theorem de_mkeK {a : Expr} {kp : Pos} (T : PySem.ErX.ErTxt X.prog X.K X.mg nm C fI) (hr : Room k X.A) (hg : Gl X nm) (hd : (nm == ("__debug__" : Str)) = false)
    (h : DE X a σ H fun v H1 => tMkO C v H1 Q) : DE X (.Call (.Name nm p) [] [⟨some "value", a, kp⟩] pos) σ H Q := by
  intro pins s I
  refine wpAny_Call_Name_kw (ld_glob I hg T.gC ?_ hd)
  have hk : DK X [⟨some "value", a, kp⟩] σ H (fun vs H1 => ∃ v, vs = [v] ∧ tMkO C v H1 Q) := PK.dk (pk_cons (cE (X := X)) pk_nil) (fun pins s I => thn (h pins s I) fun u s1 ⟨v, H1, I1, r1, q1⟩ => ⟨v, H1, I1, r1, v, rfl, q1⟩)
  refine PySem.W.callWith_KW0 (h₀ := X.base) I.ok.mod.kin T.kC (by rfl) (thn (hk pos pins s I) fun us s1 hh => ?_) (by rfl)
  obtain ⟨vs, H1, I1, r1, v, ev, q1⟩ := hh
  subst ev
  refine ⟨I1.kIn, ?_⟩
  cases r1 with
  | cons rv rn =>
    rename_i v' us'
    cases rn
    show wpAny _ _ (call (.ref C) [] [("value", v')]) _ _ _
    have hlim := I1.nolimit
    have hgl := I1.ok.mod.glob.keeps I1.bk
    obtain ⟨mb, hb1, hb2⟩ := I1.ok.mod.blt
    have hbl := hb1.keeps I1.bk
    obtain ⟨hp, g, dr, tk, os⟩ := s1
    refine wpAny_call (PySem.ErX.er_madeK T I1.kIn hgl hbl ((hb2 "super" (by decide)).trans (by rfl)) hlim (by have := hr.dp; omega) fun h' tk' e d M => ?_)
    obtain ⟨n1, n2, J⟩ := made_laid (tk' := tk') I1 rv M
    exact ⟨.ref e, _, J, rfl, q1 d e n1 n2⟩
theorem de_mkb (T : PySem.ErX.BtTxt X.K X.mg nm C) (hg : Gl X nm) (hd : (nm == ("__debug__" : Str)) = false) (h : ∀ e, H e = none → Q (.ref e) (upd H e (Er0O C e))) : DE X (.Call (.Name nm p) [] [] pos) σ H Q := by
  intro pins s I1
  refine wpAny_Call_Name_kw (ld_glob I1 hg T.gC ?_ hd)
  refine PySem.W.callWith_K0 I1.kIn T.kC ?_
  show wpAny _ _ (call (.ref C) []) _ _ _
  obtain ⟨bm, N, nm', qn, bs, hdct, sn, sub, ab, col, dd, k0, k1, k2, k3, k5, mN, hC, hN, hni, TT⟩ := exc_obj I1.kIn T.q
  refine wpAny_call_exc_subT F.excBase_ValueError TT hC hN hni (fun h' a hm => ?_) (Nat.zero_le _)
  have hn : H a = none := I1.hok.gone hm.new
  obtain ⟨t, ht, _, _⟩ := hm.there
  exact ⟨.ref a, upd H a (Er0O C a), I1.laidN hm.keeps hm.new hn ⟨⟨_, _, ht, ⟨rfl, rfl⟩, rfl⟩, ⟨_, ht⟩, fun _ _ ⟨o, w, q, r⟩ k => ⟨o, w, k o q, r⟩⟩, rfl, h a hn⟩
end
section
variable {G : Sg} {cx : Nat → List Vl → Mu → Option (XR × Mu)} {k : Nat} {b : Nat} {N : List Str} {sc : Scope} {X : Cx}
theorem mke_fin {F F' H' : Hp} {io io' : Nat → Addr} {m m' : Mu} {nm : Str} {Ca : Addr} {vx : V} {x : D ⊕ Nat} {Q : VK} (n1 : PySem.W.nsIn X.K mainGlobals nm = some (some (.ref Ca))) (A : Adv X.K F io m F' io' m' H') (so : SOk X.K F' io' m'.length vx x)
    (q : ∀ v F2 io2 H2, Adv X.K F io m F2 io2 m' H2 → VlOk X.K F2 io2 m'.length v (.er nm x) → Q v H2) : tMkO Ca vx H' Q := by
  intro d e hd he
  have A2 := Adv.grow A.st (Grow.new (o := .xd [(("value" : Str), vx)]) A.st.sub hd)
  have A3 := Adv.grow A2.st (Grow.new (o := ErO Ca d e) A2.st.sub he)
  have hne : d ≠ e := fun z => by
    rw [← z, upd_same] at he
    cases he
  exact q _ _ io' _ (A.trans (A2.trans A3)) ⟨e, Ca, rfl, n1, .inl ⟨d, vx, upd_same, by rw [upd_ne hne]; exact upd_same, (so.adv A2).adv A3⟩⟩
theorem mke_inv {c : Str} {e' : Ex} {r : En} {m m' : Mu} {vl : Vl} (hh : evalE (valC cx) b (.mkE c e') r m = some (vl, m')) : ∃ v x, evalE (valC cx) b e' r m = some (v, m') ∧ v.sim = some x ∧ vl = .er c x := by
  unfold evalE at hh
  obtain ⟨⟨v, m1⟩, g1, hh⟩ := bind_some hh
  dsimp only at hh
  split at hh
  · rename_i x hx
    cases hh
    exact ⟨v, x, g1, hx, rfl⟩
  · cases hh
theorem mke_ok (C : Cxt G cx k N sc X) {nm : Str} {e : Expr} {e' : Ex} {p pos : Pos} (h1 : G.er.contains nm = true) (h2 : gloB sc nm = true) (h3 : okN nm = true) (hs : plainStar e []) (h : OkE X e (evalE (valC cx) b e')) :
    OkE X (.Call (.Name nm p) [e] [] pos) (evalE (valC cx) b (.mkE nm e')) := by
  intro r m vl m' hh σ F io H st en Q q
  obtain ⟨v, x, g1, hx, rfl⟩ := mke_inv hh
  obtain ⟨Ca, fI, n1, T⟩ := C.md.er nm h1
  exact de_mke T C.room (C.gl h2) (okN_at h3).1 (hs _) rfl (h r m v _ g1 σ F io H st en _ fun vx F' io' H' A hvx => mke_fin n1 A (hvx.so hx) q)
theorem mke0_ok (C : Cxt G cx k N sc X) {nm : Str} {p pos : Pos} (h1 : G.er.contains nm = true) (h2 : gloB sc nm = true) (h3 : okN nm = true) : OkE X (.Call (.Name nm p) [] [] pos) (evalE (valC cx) b (.mkE nm (.con .none))) := by
  intro r m vl m' hh σ F io H st en Q q
  obtain ⟨v, x, g1, hx, rfl⟩ := mke_inv hh
  obtain ⟨Ca, fI, n1, T⟩ := C.md.er nm h1
  unfold evalE at g1
  cases g1
  have hx : x = .inl .none := (Option.some.inj hx).symm
  subst hx
  exact de_mke0 T C.room (C.gl h2) (okN_at h3).1 (mke_fin (x := .inl .none) n1 (Adv.refl st) (show Is X.K F V.non .none from .non) q)
theorem mkeK_ok (C : Cxt G cx k N sc X) {nm : Str} {e : Expr} {e' : Ex} {kp p pos : Pos} (h1 : G.er.contains nm = true) (h2 : gloB sc nm = true) (h3 : okN nm = true) (h : OkE X e (evalE (valC cx) b e')) :
    OkE X (.Call (.Name nm p) [] [⟨some "value", e, kp⟩] pos) (evalE (valC cx) b (.mkE nm e')) := by
  intro r m vl m' hh σ F io H st en Q q
  obtain ⟨v, x, g1, hx, rfl⟩ := mke_inv hh
  obtain ⟨Ca, fI, n1, T⟩ := C.md.er nm h1
  exact de_mkeK T C.room (C.gl h2) (okN_at h3).1 (h r m v _ g1 σ F io H st en _ fun vx F' io' H' A hvx => mke_fin n1 A (hvx.so hx) q)
theorem mkb_ok (C : Cxt G cx k N sc X) {nm : Str} {p pos : Pos} (h1 : G.eb.contains nm = true) (h2 : gloB sc nm = true) (h3 : okN nm = true) : OkE X (.Call (.Name nm p) [] [] pos) (evalE (valC cx) b (.mkB nm)) := by
  intro r m vl m' hh σ F io H st en Q q
  unfold evalE at hh
  cases hh
  obtain ⟨Ca, n1, T⟩ := C.md.eb nm h1
  refine de_mkb T (C.gl h2) (okN_at h3).1 fun e he => ?_
  have A2 := Adv.grow st (Grow.new (o := Er0O Ca e) st.sub he)
  exact q _ _ io _ A2 ⟨e, Ca, rfl, n1, .inr ⟨T.ini, rfl, upd_same⟩⟩
theorem SsOk.getI {K : PySem.W.Frag} {F : Hp} {io : Nat → Addr} {n : Nat} {us : List V} {xs : List (D ⊕ Nat)} (h : SsOk K F io n us xs) {z : Int} {x : D ⊕ Nat} (e : atI xs z = some x) : ∃ u, atI us z = some u ∧ SOk K F io n u x := by
  unfold atI at e ⊢
  rw [h.length]
  cases hj : ixN xs.length z with
  | none => rw [hj] at e; cases e
  | some j =>
    rw [hj] at e
    exact h.get _ _ e
theorem pick_ok (C : Cxt G cx k N sc X) {es : List Expr} {es' : Exs} {i : Expr} {i' : Ex} {lp p : Pos} (hs : PlainIx i) (h : OkEs X (valC cx) b es es') (hi : OkE X i (evalE (valC cx) b i')) : OkE X (.Subscript (.List es lp) i p) (evalE (valC cx) b (.pick es' i')) := by
  intro r m vl m' hh σ F io H st en Q q
  unfold evalE at hh
  obtain ⟨⟨vs, m1⟩, h1, hh⟩ := bind_some hh
  obtain ⟨xs, h2, hh⟩ := bind_some hh
  dsimp only at hh
  split at hh
  · rename_i hz
    obtain ⟨⟨v, m2⟩, g2, hh⟩ := bind_some hh
    dsimp only at hh
    split at hh
    · rename_i z
      split at hh
      · rename_i x hx
        cases hh
        refine DE.idx hs (PE.de (pe_lstB (cA (X := X))) (h.l r m vs _ h1 σ F io H st en _ fun us F1 io1 H1 A1 hxs => ?_)) 
        have so := hxs.so h2
        refine ⟨by rw [so.length]; exact szL hz, fun p np hp => ?_⟩
        have g := Grow.new (o := .lst us) A1.st.sub hp
        have A2 := Adv.grow A1.st g
        have so2 := so.adv A2
        refine hi r m1 _ _ g2 σ _ io1 _ A2.st (en.adv (A1.trans A2)) _ fun vz F3 io3 H3 A3 hvz => ?_
        have hvz : Is X.K F3 vz (.int z) := hvz
        cases hvz
        obtain ⟨u, hu, su⟩ := (so2.adv A3).getI hx
        intro pins s σ' v' u' I rx ry hsub
        exact ix_list (.List es lp) i pins s σ' H3 _ _ v' u' Q I rx ry ⟨p, us, z, u, rfl, rfl, SqL.of (A3.st.sub _ _ (A3.ff _ _ upd_same)), hu, q u F3 io3 H3 (A1.trans (A2.trans A3)) su.toVl⟩ hsub
      · cases hh
    · cases hh
  · cases hh
theorem kit_VE {K : PySem.W.Frag} {Ca : Addr} (h : PySem.W.subIn K (.ref Ca) (.type "ValueError") = some true) : PySem.W.kitOne K (.ref Ca) (.type "ValueError") = some true := by
  unfold PySem.W.kitOne
  rw [if_neg (by simp)]
  show (if PySem.W.kitMeta "ValueError" = true then PySem.W.subIn K (.ref Ca) (.type "ValueError") else none) = _
  rw [if_pos (by decide +kernel), h]
theorem isv_ok (C : Cxt G cx k N sc X) {cs : List Str} {e : Expr} {e' : Ex} {p p2 pos : Pos} (hcs : ∀ nm, cs.contains nm = true → G.er.contains nm = true ∨ G.eb.contains nm = true) (hv : bltB G sc "ValueError" = true) (hi : bltB G sc "isinstance" = true) (hs : plainStar e [.Name "ValueError" p2]) (h : OkE X e (evalE (valC cx) b e')) :
    OkE X (.Call (.Name "isinstance" p) [e, .Name "ValueError" p2] [] pos) (evalE (valC cx) b (.isv cs e')) := by
  intro r m vl m' hh σ F io H st en Q q
  unfold evalE at hh
  obtain ⟨⟨v, m1⟩, g1, hh⟩ := bind_some hh
  dsimp only at hh
  obtain ⟨i1, i2, i3, i4⟩ := C.blt hi
  obtain ⟨j1, j2, j3, j4⟩ := C.blt hv
  refine DE.blt (.inl ⟨"isinstance", rfl⟩) i1 i2 (by decide +kernel) i4 i3 hs (fun pos => rfl) ?_
  refine PA.da (pa_cons (cE (X := X)) (pa_cons (pe_bltn j1 j2 boot_ValueError (v := .ty "ValueError") rfl j4 j3) pa_nil rfl) (hs _)) ?_
  split at hh
  · rename_i c xx
    split at hh
    · rename_i hc
      cases hh
      refine h r m _ _ g1 σ F io H st en _ fun vx F' io' H' A hvx => ?_
      obtain ⟨a, Ca, rfl, n1, hob⟩ := hvx
      have T := C.md.cls (hcs c hc) n1
      intro pins s σ' us I rx
      obtain ⟨oe, od, J⟩ := held_at I A.st.sub hob
      exact isx_cl (cv := .ty "ValueError") T I J (kit_VE T.subVE) (fun _ z => z) rx (q _ F' io' H' A (.bl _))
    · cases hh
  · cases hh
end
end TI
set_option maxHeartbeats 200000
set_option maxHeartbeats 4000000
namespace TI
open PySem PySem.Spec PyProof.Rows L2
theorem IsL.erase {K : PySem.W.Frag} {F : Hp} : ∀ (j : Nat) {xs : List V} {ds : List D}, IsL K F xs ds → IsL K F (xs.eraseIdx j) (ds.eraseIdx j)
  | _, _, _, .nil => .nil
  | 0, _, _, .cons _ k => k
  | j + 1, _, _, .cons r k => .cons r (IsL.erase j k)
section
variable {G : Sg} {cx : Nat → List Vl → Mu → Option (XR × Mu)} {k : Nat} {b : Nat} {N : List Str} {sc : Scope} {X : Cx}
theorem dctV_some {m : Mu} {v : Vl} {u : Unit} (h : dctV m v = some u) : ∃ kvs, view m v = some (.dict kvs) := by
  unfold dctV at h
  split at h
  · rename_i kvs e; exact ⟨kvs, e⟩
  · cases h
theorem get2_ok (C : Cxt G cx k N sc X) {o k0 x : Expr} {o' k' x' : Ex} {ap pos : Pos} (hb : ∀ env, attributeBase o "get" env (eval o env) = eval o env) (hf : ∀ env, ((backTo pos (starEach [k0, x] env)).all (fun y => !y.1) && (backToKw pos (keywordEach [] env)).all (fun y => y.1.isSome) && decide (([k0, x] : List Expr).length + ([] : List Keyword).length + (if ([] : List Keyword).isEmpty then 0 else 1) < 30)) = true)
    (hl : (ap.endLine == pos.line) = true) (ht : ∀ env, backTo pos (starEach [k0, x] env) = [(false, eval k0 env), (false, eval x env)]) (ho : OkE X o (evalE (valC cx) b o')) (hk : OkE X k0 (evalE (valC cx) b k')) (hx : OkE X x (evalE (valC cx) b x')) :
    OkE X (.Call (.Attribute o "get" ap) [k0, x] [] pos) (evalE (valC cx) b (.get2 o' k' x')) := by
  intro r m vl m' hh σ F io H st en Q q
  unfold evalE at hh
  obtain ⟨⟨v, m1⟩, g1, hh1⟩ := bind_some hh
  clear hh
  obtain ⟨_, g2, hh2⟩ := bind_some hh1
  clear hh1
  obtain ⟨⟨u, m2⟩, g3, hh3⟩ := bind_some hh2
  clear hh2
  obtain ⟨⟨w, m3⟩, g4, hh⟩ := bind_some hh3
  clear hh3
  obtain ⟨kvs0, g2⟩ := dctV_some g2
  dsimp only at hh
  unfold get2F at hh
  split at hh
  · rename_i kvs kk d e1
    split at hh
    · rename_i hall
      cases hh
      refine PE.de (pe_dget2 (by have := C.units; omega) (cE (X := X)) (cE (X := X)) (cE (X := X)) ⟨hb _, hf _, hl, ht _⟩) ?_
      refine ho r m v m1 g1 σ F io H st en _ fun vx F1 io1 H1 A1 hvx => ?_
      obtain ⟨a, ks0, rfl, hr0, _⟩ := (hvx.vw A1.st g2).dict A1.st.sub
      refine ⟨a, rfl, .inl ⟨ks0, .inl hr0⟩, ?_⟩
      refine hk r m1 _ m2 g3 σ F1 io1 H1 A1.st (en.adv A1) _ fun vk F2 io2 H2 A2 hvk => ?_
      have A12 := A1.trans A2
      refine hx r m2 _ _ g4 σ F2 io2 H2 A2.st (en.adv A12) _ fun vd F3 io3 H3 A3 hvd => ?_
      have A13 := A12.trans A3
      have hv3 := (hvx.adv A2).adv A3
      obtain ⟨a2, ks, ea, hr, hkv⟩ := (hv3.vw A3.st e1).dict A3.st.sub
      cases ea
      have ek : vk = .int kk := by cases hvk; rfl
      subst ek
      obtain ⟨l1, l2⟩ := hkv.lookI (i := kk) hall
      have hd : Is X.K F3 vd d := hvd
      cases hq : dLookI kvs kk with
      | none =>
        refine ⟨none, .inl ⟨ks, .inl kk, .inl hr, rfl, (l2 hq).symm⟩, ?_⟩
        rw [hq] at q
        exact q _ F3 io3 H3 A13 hd
      | some d' =>
        obtain ⟨y, hy, iy⟩ := l1 d' hq
        refine ⟨some y, .inl ⟨ks, .inl kk, .inl hr, rfl, hy.symm⟩, ?_⟩
        rw [hq] at q
        exact q _ F3 io3 H3 A13 iy
    · cases hh
  · cases hh
theorem popAt_ok (C : Cxt G cx k N sc X) {i : Nat} {x : Str} {e : Expr} {e' : Ex} {q0 ap cp : Pos} (h1 : N[i]? = some x) (h2 : visB sc x = true) (h3 : okN x = true) (hs : plainStar e []) (hb : ∀ env, attributeBase (.Name x q0) "pop" env (eval (.Name x q0) env) = eval (.Name x q0) env)
    (hf : ∀ env, ((backTo cp (starEach [e] env)).all (fun y => !y.1) && (backToKw cp (keywordEach [] env)).all (fun y => y.1.isSome) && decide (([e] : List Expr).length + ([] : List Keyword).length + (if ([] : List Keyword).isEmpty then 0 else 1) < 30)) = true)
    (hl : (ap.endLine == cp.line) = true) (h : OkE X e (evalE (valC cx) b e')) : OkE X (.Call (.Attribute (.Name x q0) "pop" ap) [e] [] cp) (evalE (valC cx) b (.popAt i e')) := by
  intro r m vl m' hh σ F io H st en Q q
  unfold evalE at hh
  obtain ⟨_, g0, hh⟩ := bind_some hh
  obtain ⟨⟨v, m1⟩, g1, hh⟩ := bind_some hh
  dsimp only at hh
  unfold lstV at g0
  unfold popF at hh
  split at hh
  · rename_i n z hn
    rw [hn] at g0
    dsimp only at g0
    split at g0
    · rename_i xs0 fz0 h0
      split at hh
      · rename_i xs hm
        split at hh
        · rename_i hz
          split at hh
          · rename_i j hj
            split at hh
            · rename_i d hd
              cases hh
              have o := okN_at h3
              obtain ⟨w, hw, ok⟩ := en.get i _ hn
              obtain ⟨hlt, rfl⟩ := ok
              refine PE.de (pe_bm PySem.F.plainAttrs_list PySem.F.slot_list_pop PySem.F.type_list_pop mt_popAt (pe_var (by rw [C.hN]; exact h1) (C.vis h2) o.1 o.2.1) (pa_cons (cE (X := X)) pa_nil (hs _)) (hb _) (hf _) hl (hs _) rfl) ?_
              have hty : tyV X.K "list" (.ref (io n)) H := by
                refine .inl ⟨rfl, ?_⟩
                have cc := st.cell n _ h0
                cases fz0 with
                | false => obtain ⟨_, xs, hx, _⟩ := cc; exact ⟨xs, SqL.of hx⟩
                | true => obtain ⟨xs, hx, _⟩ := cc; exact ⟨xs, SqL.of (st.sub _ _ hx)⟩
              refine ⟨_, hw, hty, ?_⟩
              refine h r m _ m1 g1 σ F io H st en _ fun vx F' io' H' A hvx => ?_
              have ev : vx = .int z := by cases hvx; rfl
              subst ev
              obtain ⟨_, ys, hy, ky⟩ := A.st.cell n _ hm
              have hio : io' n = io n := A.ii n hlt
              rw [hio] at hy
              obtain ⟨y, hy1, iy⟩ := ky.get hd
              obtain ⟨s1, s2⟩ := small_at hz
              have hsq : seqIndex? z ys.length = some j := by rw [ky.length]; exact (ixN_seq hj).1
              refine ⟨io n, ys, z, j, y, rfl, rfl, hy, by omega, by omega, hsq, hy1, ?_⟩
              have M := Adv.mut A.st hm (ky.erase j)
              rw [hio] at M
              exact q y F' io' _ (A.trans M) iy
            · cases hh
          · cases hh
        · cases hh
      · cases hh
    · cases g0
  · cases hh
end
end TI
set_option maxHeartbeats 200000
set_option maxHeartbeats 4000000
namespace TI
open PySem PySem.Spec PyProof.Rows L2
section
variable {G : Sg} {cx : Nat → List Vl → Mu → Option (XR × Mu)} {k : Nat} {b : Nat}
theorem compN_inv1 {elt' : Ex} {tg' : Tg} {it' : Src} {vs : List Nat} {r : En} {m : Mu} {c : Cell} {m' : Mu} (e : evalN (valC cx) b (.comp elt' tg' it' none vs) r m = some (c, m')) :
    ∃ ds m1 m2 xs, evalS (valC cx) b it' r m = some (ds, m1) ∧ compLoop b m1.length (fun r m => evalE (valC cx) b elt' r m) (fun _ m => some (.t (.bool true), m)) tg' (wipeE r vs) ds (m1 ++ [.lst [] false]) = some m2 ∧ m2[m1.length]? = some (.lst xs false) ∧ m2.length = m1.length + 1 ∧ c = .lst xs false ∧ m' = m2.take m1.length := by
  unfold evalN at e
  obtain ⟨⟨ds, m1⟩, h1, e⟩ := bind_some e
  dsimp only at e
  obtain ⟨m2, h2, e⟩ := bind_some e
  split at e
  · rename_i xs hx
    split at e
    · rename_i hl
      cases e
      exact ⟨ds, m1, m2, xs, h1, h2, hx, hl, rfl, rfl⟩
    · cases e
  · cases e
theorem compN_inv2 {elt' cnd' : Ex} {tg' : Tg} {it' : Src} {vs : List Nat} {r : En} {m : Mu} {c : Cell} {m' : Mu} (e : evalN (valC cx) b (.comp elt' tg' it' (some cnd') vs) r m = some (c, m')) :
    ∃ ds m1 m2 xs, evalS (valC cx) b it' r m = some (ds, m1) ∧ compLoop b m1.length (fun r m => evalE (valC cx) b elt' r m) (fun r m => evalE (valC cx) b cnd' r m) tg' (wipeE r vs) ds (m1 ++ [.lst [] false]) = some m2 ∧ m2[m1.length]? = some (.lst xs false) ∧ m2.length = m1.length + 1 ∧ c = .lst xs false ∧ m' = m2.take m1.length := by
  unfold evalN at e
  obtain ⟨⟨ds, m1⟩, h1, e⟩ := bind_some e
  dsimp only at e
  obtain ⟨m2, h2, e⟩ := bind_some e
  split at e
  · rename_i xs hx
    split at e
    · rename_i hl
      cases e
      exact ⟨ds, m1, m2, xs, h1, h2, hx, hl, rfl, rfl⟩
    · cases e
  · cases e
theorem comp1_ok {N : List Str} {sc : Scope} {X : Cx} (C : Cxt G cx k N sc X) {scope : Scope} {own : List (Str × Nat)} {tg it elt : Expr} {tg' : Tg} {it' : Src} {elt' : Ex} {pos : Pos} (hb : blkC N sc scope own = true) (ht : tgIn tg' (own.map (·.2)) = true)
    (hs : ∀ env x, foldedSetIterable it env x = pure x) (hR : OkR X tg it (evalS (valC cx) b it')) (dg : TrG N scope tg tg') (hE : ∀ (s : Shared) (H : Hp) (A : Addr) (cl : List (Str × Addr)) (fp : List Addr), OkE (X.blk s H scope (compEnvC scope cl A X.env) fp) elt (evalE (valC cx) b elt')) :
    OkN X (.ListComp elt [⟨tg, it, [], 0⟩] scope pos) (evalN (valC cx) b (.comp elt' tg' it' none (own.map (·.2)))) := by
  refine comp_ok C (b := b) (fe := fun r m => evalE (valC cx) b elt' r m) (fc := fun _ m => some (.t (.bool true), m)) (tt := tYes) hb ht (hs _) hR dg (fun _ _ _ _ _ => pts_nil) (fun r m c m' e σ F io H st en Q q => ?_) hE (fun r m c m' e => ?_)
  · cases e
    exact q F io H (Adv.refl st)
  · exact compN_inv1 e
theorem comp2_ok {N : List Str} {sc : Scope} {X : Cx} (C : Cxt G cx k N sc X) {scope : Scope} {own : List (Str × Nat)} {tg it elt cnd : Expr} {tg' : Tg} {it' : Src} {elt' cnd' : Ex} {pos : Pos} (hb : blkC N sc scope own = true) (ht : tgIn tg' (own.map (·.2)) = true)
    (hs : ∀ env x, foldedSetIterable it env x = pure x) (hR : OkR X tg it (evalS (valC cx) b it')) (dg : TrG N scope tg tg') (hT : ∀ (s : Shared) (H : Hp) (A : Addr) (cl : List (Str × Addr)) (fp : List Addr), OkT (X.blk s H scope (compEnvC scope cl A X.env) fp) cnd (evalE (valC cx) b cnd'))
    (hE : ∀ (s : Shared) (H : Hp) (A : Addr) (cl : List (Str × Addr)) (fp : List Addr), OkE (X.blk s H scope (compEnvC scope cl A X.env) fp) elt (evalE (valC cx) b elt')) :
    OkN X (.ListComp elt [⟨tg, it, [cnd], 0⟩] scope pos) (evalN (valC cx) b (.comp elt' tg' it' (some cnd') (own.map (·.2)))) := by
  refine comp_ok C (b := b) (fe := fun r m => evalE (valC cx) b elt' r m) (fc := fun r m => evalE (valC cx) b cnd' r m)
    (tt := fun σ H Q => ∀ (s : Shared) (H0 : Hp) (A : Addr) (cl : List (Str × Addr)) (fp : List Addr), DT (X.blk s H0 scope (compEnvC scope cl A X.env) fp) cnd σ H Q) hb ht (hs _) hR dg
    (fun s H A cl fp => pts_one ⟨fun pins s' _ _ _ I h => h s H A cl fp pins s' I⟩) (fun r m c m' e σ F io H st en Q q => ?_) hE (fun r m c m' e => ?_)
  · exact fun s H0 A cl fp => hT s H0 A cl fp r m c m' e σ F io H st en Q q
  · exact compN_inv2 e
theorem compW_ok {N : List Str} {sc : Scope} {X : Cx} (C : Cxt G cx k N sc X) {scope : Scope} {own : List (Str × Nat)} {vs1 : List Nat} {tg it elt tg1 it1 : Expr} {tg' tg1' : Tg} {it' it1' : Src} {elt' : Ex} {pos : Pos} (hb : blkC N sc scope own = true) (ht : tgIn tg' (own.map (·.2)) = true) (ht1 : tgIn tg1' vs1 = true)
    (hv : vs1.all (fun i => (own.map (·.2)).contains i) = true) (hs : ∀ env x, foldedSetIterable it env x = pure x) (hs1 : ∀ env x, foldedSetIterable it1 env x = pure x) (hR : OkR X tg it (evalS (valC cx) b it')) (dg : TrG N scope tg tg')
    (hR1 : ∀ (s : Shared) (H : Hp) (A : Addr) (cl : List (Str × Addr)) (fp : List Addr), OkR (X.blk s H scope (compEnvC scope cl A X.env) fp) tg1 it1 (evalS (valC cx) b it1')) (dg1 : TrG N scope tg1 tg1')
    (hE : ∀ (s : Shared) (H : Hp) (A : Addr) (cl : List (Str × Addr)) (fp : List Addr), OkE (X.blk s H scope (compEnvC scope cl A X.env) fp) elt (evalE (valC cx) b elt')) :
    OkN X (.ListComp elt [⟨tg, it, [], 0⟩, ⟨tg1, it1, [], 0⟩] scope pos) (evalN (valC cx) b (.comp2 elt' tg' it' tg1' it1' (own.map (·.2)) vs1)) := by
  intro r m c m' hh
  obtain ⟨u, co⟩ := comp2_core (X := X) (scope := scope) (own := own) (vs1 := vs1) (tg := tg) (it := it) (elt := elt) (tg1 := tg1) (it1 := it1) (b := b) (fe := fun r m => evalE (valC cx) b elt' r m) (fs := fun r m => evalS (valC cx) b it' r m) (fs1 := fun r m => evalS (valC cx) b it1' r m) ht ht1 hR hR1 hE (fun r m c m' e => by
    unfold evalN at e
    obtain ⟨⟨ds, m1⟩, h1, e⟩ := bind_some e
    dsimp only at e
    obtain ⟨m2, h2, e⟩ := bind_some e
    split at e
    · rename_i xs hx
      split at e
      · rename_i hl
        cases e
        exact ⟨ds, m1, m2, xs, h1, h2, hx, hl, rfl, rfl⟩
      · cases e
    · cases e) r m c m' hh
  refine ⟨u, fun σ F io H st en Q q => ?_⟩
  refine PE.de (pe_lc2 (wi := fun σ H R => DI X tg it σ H R) (g := gOf X.K tg') (tt := tYes) (wi1 := fun σ H R => ∀ (s : Shared) (H0 : Hp) (A : Addr) (cl : List (Str × Addr)) (fp : List Addr), DI (X.blk s H0 scope (compEnvC scope cl A X.env) fp) tg1 it1 σ H R) (g1 := gOf X.K tg1') (tt1 := tYes)
    (te := fun σ H Q => ∀ (s : Shared) (H0 : Hp) (A : Addr) (cl : List (Str × Addr)) (fp : List Addr), DE (X.blk s H0 scope (compEnvC scope cl A X.env) fp) elt σ H Q) C.calm (by rw [C.hN]; exact C.nd) cI (by rw [C.hN, C.hsc]; exact blkOk_by hb) (fun i hi => by
      have := (List.all_eq_true.mp hv) i hi
      simpa using this)
    (fun s H A cl fp => pg_of (C.blk s H A cl fp).hN C.nd C.calm (Sto.blk s H A cl fp) dg) (fun _ _ _ _ _ => pts_nil) (fun s H A cl fp => ⟨fun pins s' _ _ _ I h => h s H A cl fp pins s' I⟩)
    (fun s H A cl fp => pg_of (C.blk s H A cl fp).hN C.nd C.calm (Sto.blk s H A cl fp) dg1) (fun _ _ _ _ _ => pts_nil) (fun s H A cl fp => ⟨fun pins s' _ _ _ I h => h s H A cl fp pins s' I⟩) (hs _) hs1) ?_
  exact co σ F io H st en Q q
theorem Cxt.u70 {N : List Str} {sc : Scope} {X : Cx} (C : Cxt G cx k N sc X) : X.A.units + 70 < cLine := by have := C.units; omega
section
variable {N : List Str}
mutual
theorem sndE : ∀ {sc : Scope} {e : Expr} {e' : Ex}, TrE G N sc e e' → ∀ {X : Cx}, Cxt G cx k N sc X → OkE X e (evalE (valC cx) b e')
  | _, _, _, .var h1 h2 h3, _, C => var_ok C h1 h2 h3
  | _, _, _, .con h1 h2 h3, _, C => con_ok C h1 h2 h3
  | _, _, _, .int, _, _ => data_ok fun _ _ _ _ _ q => PE.de pe_int (q _ (.int _))
  | _, _, _, .bl, _, _ => data_ok fun _ _ _ _ _ q => PE.de pe_bl (q _ (.bl _))
  | _, _, _, .non, _, _ => data_ok fun _ _ _ _ _ q => PE.de pe_non (q _ .non)
  | _, _, _, .str, _, _ => data_ok fun _ _ _ _ _ q => PE.de pe_str (q _ (.str _))
  | _, _, _, .bin h a c, _, C => bin_ok h (sndE a C) (sndE c C)
  | _, _, _, .neg a, _, C => neg_ok (sndE a C)
  | _, _, _, .not a, _, C => not_ok (sndE a C)
  | _, _, _, .cmp h hm a c, _, C => cmp_ok C.u70 h hm (sndE a C) (sndE c C)
  | _, _, _, .isc h a, _, C => isc_ok h (sndE a C)
  | _, _, _, .chain h1 h2 hm a c d, _, C => chain_ok C.u70 h1 h2 hm (sndE a C) (sndE c C) (sndE d C)
  | _, _, _, .one a, _, C => one_ok (sndE a C)
  | _, _, _, .and a c, _, C => and_ok (sndE a C) (sndE c C)
  | _, _, _, .or a c, _, C => or_ok (sndE a C) (sndE c C)
  | _, _, _, .ife t a c, _, C => ife_ok (sndT t C) (sndE a C) (sndE c C)
  | _, _, _, .idx h a c, _, C => idx_ok C.u70 h (sndE a C) (sndE c C)
  | _, _, _, .tup l, _, C => tup_ok (sndL l C)
  | _, _, _, .new w, _, C => new_ok (sndN w C)
  | _, _, _, .mk w, _, C => mk_ok (sndN w C)
  | _, _, _, .frz a, _, C => frz_ok (sndE a C)
  | _, _, _, .call h1 h2 h3 l, _, C => call_ok C h1 h2 h3 (sndL l C)
  | _, _, _, .kwcall h1 hm h2 h3 h4 h5 h6 h7 l, _, C => kwcall_ok C h1 hm h2 h3 h4 h5 h6 h7 (sndL l C)
  | _, _, _, .bcall h1 h2 h3 l, _, C => bcall_ok C h1 h2 h3 (sndL l C)
  | _, _, _, .isi h1 h2 h3 h4 h5 a, _, C => isi_ok C h1 h2 h3 h4 h5 (sndE a C)
  | _, _, _, .lenset h1 h2 h3 a, _, C => lenset_ok C h1 h2 h3 (sndE a C)
  | _, _, _, .bitlen h1 h2 a, _, C => bitlen_ok h1 h2 (sndE a C)
  | _, _, _, .isx h1 h2 h3 h4 h5 a, _, C => isx_ok C h1 h2 h3 h4 h5 (sndE a C)
  | _, _, _, .fld h1 h2 a, _, C => fld_ok C h1 h2 (sndE a C)
  | _, _, _, .mke h1 h2 h3 hs a, _, C => mke_ok C h1 h2 h3 hs (sndE a C)
  | _, _, _, .mke0 h1 h2 h3, _, C => mke0_ok C h1 h2 h3
  | _, _, _, .mkeK h1 h2 h3 a, _, C => mkeK_ok C h1 h2 h3 (sndE a C)
  | _, _, _, .mkb h1 h2 h3, _, C => mkb_ok C h1 h2 h3
  | _, _, _, .isv h1 h2 h3 hs a, _, C => isv_ok C h1 h2 h3 hs (sndE a C)
  | _, _, _, .pick hs l i, _, C => pick_ok C hs (sndL l C) (sndE i C)
  | _, _, _, .isNe h a, _, C => isNe_ok h (sndE a C)
  | _, _, _, .tupv l, _, C => tupv_ok (sndL l C)
  | _, _, _, .idxv h h0 a, _, C => idxv_ok h h0 (sndE a C)
  | _, _, _, .reprL h1 h2 l, _, C => reprL_ok C h1 h2 (sndL l C)
  | _, _, _, .get2 h1 h2 h3 h4 o y x, _, C => get2_ok C h1 h2 h3 h4 (sndE o C) (sndE y C) (sndE x C)
  | _, _, _, .popAt h1 h2 h3 hs hb hf hl a, _, C => popAt_ok C h1 h2 h3 hs hb hf hl (sndE a C)
theorem sndT : ∀ {sc : Scope} {e : Expr} {e' : Ex}, TrT G N sc e e' → ∀ {X : Cx}, Cxt G cx k N sc X → OkT X e (evalE (valC cx) b e')
  | _, _, _, .val h a, _, C => val_ok h (sndE a C)
  | _, _, _, .cmp h hm a c, _, C => cmpT_ok C.u70 h hm (sndE a C) (sndE c C)
  | _, _, _, .isc h a, _, C => iscT_ok h (sndE a C)
  | _, _, _, .isNe h a, _, C => isNeT_ok h (sndE a C)
  | _, _, _, .chain h1 h2 hm a c d, _, C => chainT_ok C.u70 h1 h2 hm (sndE a C) (sndE c C) (sndE d C)
  | _, _, _, .not a, _, C => notT_ok (sndT a C)
  | _, _, _, .ife t a c, _, C => ifeT_ok (sndT t C) (sndT a C) (sndT c C)
  | _, _, _, .bool a, _, C => bool_ok (sndW a C)
theorem sndW : ∀ {sc : Scope} {e : Expr} {e' : Ex}, TrW G N sc e e' → ∀ {X : Cx}, Cxt G cx k N sc X → OkW X e (evalE (valC cx) b e')
  | _, _, _, .and1 a, _, C => and1_ok (sndT a C)
  | _, _, _, .or1 a, _, C => or1_ok (sndT a C)
  | _, _, _, .and a c, _, C => andW_ok (sndT a C) (sndW c C)
  | _, _, _, .or a c, _, C => orW_ok (sndT a C) (sndW c C)
theorem sndL : ∀ {sc : Scope} {es : List Expr} {es' : Exs}, TrL G N sc es es' → ∀ {X : Cx}, Cxt G cx k N sc X → OkEs X (valC cx) b es es'
  | _, _, _, .nil, _, _ => .nil
  | _, _, _, .cons h a l, _, C => .cons h (sndE a C) (sndL l C)
theorem sndN : ∀ {sc : Scope} {e : Expr} {w : Nw}, TrN G N sc e w → ∀ {X : Cx}, Cxt G cx k N sc X → OkN X e (evalN (valC cx) b w)
  | _, _, _, .lst l, _, C => lst_ok (sndL l C)
  | _, _, _, .bin h a c, _, C => binN_ok h (sndE a C) (sndE c C)
  | _, _, _, .bcall h1 h2 h3 l, _, C => bcallN_ok C h1 h2 h3 (sndL l C)
  | _, _, _, .rep l a, _, C => rep_ok (sndL l C) (sndE a C)
  | _, _, _, .dct h h0 hl l, _, C => dct_ok h h0 (sndL l C) hl
  | _, _, _, .dct0, _, _ => dct0_ok
  | _, _, _, .rev a, _, C => rev_ok (sndE a C)
  | _, _, _, .slLo a c, _, C => slLo_ok (sndE a C) (sndE c C)
  | _, _, _, .slHi a c, _, C => slHi_ok (sndE a C) (sndE c C)
  | _, _, _, .slLH a c d, _, C => slLH_ok (sndE a C) (sndE c C) (sndE d C)
  | _, _, _, .comp h1 h2 h3 s g a, _, C => comp1_ok C h1 h2 h3 (sndR s C) g fun s H A cl fp => sndE a (C.blk s H A cl fp)
  | _, _, _, .compIf h1 h2 h3 s g t a, _, C => comp2_ok C h1 h2 h3 (sndR s C) g (fun s H A cl fp => sndT t (C.blk s H A cl fp)) fun s H A cl fp => sndE a (C.blk s H A cl fp)
  | _, _, _, .srtU h1 h2 h3 hs a, _, C => srtU_ok C h1 h2 h3 hs (sndE a C)
  | _, _, _, .comp2 h1 h2 h3 h4 h5 h6 s g s1 g1 a, _, C => compW_ok C h1 h2 h3 h4 h5 h6 (sndR s C) g (fun s H A cl fp => sndR s1 (C.blk s H A cl fp)) g1 fun s H A cl fp => sndE a (C.blk s H A cl fp)
theorem sndR : ∀ {sc : Scope} {tg it : Expr} {s : Src}, TrR G N sc tg it s → ∀ {X : Cx}, Cxt G cx k N sc X → OkR X tg it (evalS (valC cx) b s)
  | _, _, _, _, .val a, _, C => srcval_ok (sndE a C)
  | _, _, _, _, .range1 h a s, _, C => range1_ok C h s (sndE a C)
  | _, _, _, _, .range2 h a c s1 s2, _, C => range2_ok C h s1 s2 (sndE a C) (sndE c C)
  | _, _, _, _, .enum h a s, _, C => enum_ok C h s (sndE a C)
  | _, _, _, _, .zipS h a c s1 s2, _, C => zipS_ok C h s1 s2 (sndE a C) (sndE c C)
end
end
end
end TI
set_option maxHeartbeats 200000
set_option maxHeartbeats 4000000
namespace TI
open PySem PySem.Spec PyProof.Rows L2
abbrev FS := En → Mu → Option (Fl × Mu)
def EndsOk (K : PySem.W.Frag) (D : Ends) (Wx : WX) (F : Hp) (io : Nat → Addr) (m : Mu) (m' : Mu) : Fl → Prop
  | .nx r => ∀ σ F' io' H', Adv K F io m F' io' m' H' → EnOk K F' io' m'.length σ r → D.nx σ H'
  | .bk r => ∀ σ F' io' H', Adv K F io m F' io' m' H' → EnOk K F' io' m'.length σ r → D.bk σ H'
  | .ct r => ∀ σ F' io' H', Adv K F io m F' io' m' H' → EnOk K F' io' m'.length σ r → D.ct σ H'
  | .rt vl => ∀ v F' io' H', Adv K F io m F' io' m' H' → VlOk K F' io' m'.length v vl → D.rt v H'
  | .ex r c x => ∀ σ C dx u F' io' H', Adv K F io m F' io' m' H' → EnOk K F' io' m'.length σ r → PySem.W.nsIn K mainGlobals c = some (some (.ref C)) → F' dx = some (.xd [(("value" : Str), u)]) → SOk K F' io' m'.length u x → Wx (.ref C) (some dx) σ H'
def OkS (X : Cx) (s : Stmt) (f : FS) : Prop := ∀ r m fl m', f r m = some (fl, m') → ∀ (σ : L2.St) (F : Hp) (io : Nat → Addr) (H : Hp), Stt X.K F io m H → EnOk X.K F io m.length σ r → ∀ (D : Ends) (Wx : WX), Takes X Wx → EndsOk X.K D Wx F io m m' fl → DS X s D σ H
def OkB (X : Cx) (s : List Stmt) (f : FS) : Prop := ∀ r m fl m', f r m = some (fl, m') → ∀ (σ : L2.St) (F : Hp) (io : Nat → Addr) (H : Hp), Stt X.K F io m H → EnOk X.K F io m.length σ r → ∀ (D : Ends) (Wx : WX), Takes X Wx → EndsOk X.K D Wx F io m m' fl → DB X s D σ H
theorem EndsOk.of {K : PySem.W.Frag} {D : Ends} {Wx : WX} {F F1 : Hp} {io io1 : Nat → Addr} {m m1 m' : Mu} {H1 : Hp} {fl : Fl} (h : EndsOk K D Wx F io m m' fl) (A : Adv K F io m F1 io1 m1 H1) : EndsOk K D Wx F1 io1 m1 m' fl := by
  cases fl with
  | nx r => exact fun σ F' io' H' B e => h σ F' io' H' (A.trans B) e
  | bk r => exact fun σ F' io' H' B e => h σ F' io' H' (A.trans B) e
  | ct r => exact fun σ F' io' H' B e => h σ F' io' H' (A.trans B) e
  | rt v => exact fun σ F' io' H' B e => h σ F' io' H' (A.trans B) e
  | ex r c x => exact fun σ C dx u F' io' H' B e => h σ C dx u F' io' H' (A.trans B) e
section
variable {G : Sg} {cx : Nat → List Vl → Mu → Option (XR × Mu)} {k : Nat} {b : Nat} {N : List Str} {sc : Scope} {X : Cx}
theorem Cxt.nod (C : Cxt G cx k N sc X) : X.N.Nodup := by rw [C.hN]; exact C.nd
theorem set_ok (C : Cxt G cx k N sc X) (so : Sto X sc) {i : Nat} {x : Str} {e : Expr} {e' : Ex} {q p : Pos} (h1 : N[i]? = some x) (h2 : locB sc x = true) (h : OkE X e (evalE (valC cx) b e')) (hs : ∀ env, env.scope = sc → swapsWith e (some (.Name x q)) p.line env = pure false) :
    OkS X (.Assign [.Name x q] e p) (execS cx b (.set i e')) := by
  intro r m fl m' hh σ F io H st en D Wx tk ends
  unfold execS at hh
  obtain ⟨⟨v, m1⟩, g1, hh⟩ := bind_some hh
  cases hh
  obtain ⟨l1, l2⟩ := so x h2
  refine PS.ds (ps_set C.nod (by rw [C.hN]; exact h1) l1 (cE (X := X)) (hs _ C.hsc) l2) (h r m v _ g1 σ F io H st en _ fun vx F' io' H' A hvx => ?_)
  exact ends _ F' io' H' A ((en.adv A).set i hvx)
theorem setc_core (C : Cxt G cx k N sc X) {i : Nat} {x : Str} {scope : Scope} {own : List (Str × Nat)} {tg it elt : Expr} {ifs : List Expr} {tg' : Tg} {it' : Src} {elt' : Ex} {cnd : Option Ex} {tt : TT} {q lp p : Pos} (h1 : N[i]? = some x) (hk : sc.kind = .function) (hx : sc.names.lookup x = some .local) (hl : (q.line == lp.line) = true)
    (ha : (scope.names.any fun (n, k) => n == x && (k == .local || k == .cell)) = false) (hb : blkC N sc scope own = true) (ht : tgIn tg' (own.map (·.2)) = true) (hs : ∀ env x, foldedSetIterable it env x = pure x) (dg : TrG N scope tg tg')
    (hPT : ∀ (s : Shared) (H : Hp) (A : Addr) (cl : List (Str × Addr)) (fp : List Addr), PTs (X.blk s H scope (compEnvC scope cl A X.env) fp) ifs tt)
    (core : ∀ r m c m', evalN (valC cx) b (.comp elt' tg' it' cnd (own.map (·.2))) r m = some (c, m') → Unf c ∧ ∀ (σ : L2.St) (F : Hp) (io : Nat → Addr) (H : Hp), Stt X.K F io m H → EnOk X.K F io m.length σ r → ∀ Q : VK,
      (∀ p o F' io' H', Adv X.K F io m F' io' m' H' → H' p = none → CellO X.K F' c o → Q (.ref p) (upd H' p o)) →
      tLc (fun σ H R => DI X tg it σ H R) (gOf X.K tg') tt (fun σ H Q => ∀ (s : Shared) (H0 : Hp) (A : Addr) (cl : List (Str × Addr)) (fp : List Addr), DE (X.blk s H0 scope (compEnvC scope cl A X.env) fp) elt σ H Q) (own.map (·.2)) σ H Q) :
    OkS X (.Assign [.Name x q] (.ListComp elt [⟨tg, it, ifs, 0⟩] scope lp) p) (execS cx b (.set i (.mk (.comp elt' tg' it' cnd (own.map (·.2)))))) := by
  intro r m fl m' hh σ F io H st en D Wx tk ends
  unfold execS at hh
  obtain ⟨⟨v, m1⟩, g1, hh⟩ := bind_some hh
  cases hh
  unfold evalE at g1
  obtain ⟨⟨c, m2⟩, g2, g1⟩ := bind_some g1
  cases g1
  obtain ⟨u, co⟩ := core r m c _ g2
  have hk' : X.env.scope.kind = .function := by rw [C.hsc]; exact hk
  have hx' : X.env.scope.names.lookup x = some .local := by rw [C.hsc]; exact hx
  refine PS.ds (ps_setLc (wi := fun σ H R => DI X tg it σ H R) (g := gOf X.K tg') (tt := tt) (te := fun σ H Q => ∀ (s : Shared) (H0 : Hp) (A : Addr) (cl : List (Str × Addr)) (fp : List Addr), DE (X.blk s H0 scope (compEnvC scope cl A X.env) fp) elt σ H Q) C.calm C.nod (by rw [C.hN]; exact h1) hx' (sw_true hk' hx' hl ha) cI (by rw [C.hN, C.hsc]; exact blkOk_by hb)
    (fun s H A cl fp => pg_of (C.blk s H A cl fp).hN C.nd C.calm (Sto.blk s H A cl fp) dg) hPT (fun s H A cl fp => ⟨fun pins s' _ _ _ I h => h s H A cl fp pins s' I⟩) (hs _)) ?_
  refine co σ F io H st en (fun x H1 => gName i x σ H1 D.nx) fun pp o F' io' H' A hn hc => ?_
  have A2 := Adv.cell A.st hn hc (unf_fz u)
  exact ends _ F' _ _ (A.trans A2) ((en.adv (A.trans A2)).set i (vl := .loc m2.length) ⟨by simp, congrArg V.ref (if_pos rfl).symm⟩)
theorem setc_ok (C : Cxt G cx k N sc X) {i : Nat} {x : Str} {scope : Scope} {own : List (Str × Nat)} {tg it elt : Expr} {tg' : Tg} {it' : Src} {elt' : Ex} {q lp p : Pos} (h1 : N[i]? = some x) (hk : sc.kind = .function) (hx : sc.names.lookup x = some .local) (hl : (q.line == lp.line) = true)
    (ha : (scope.names.any fun (n, k) => n == x && (k == .local || k == .cell)) = false) (hb : blkC N sc scope own = true) (ht : tgIn tg' (own.map (·.2)) = true) (hs : ∀ env x, foldedSetIterable it env x = pure x) (hR : OkR X tg it (evalS (valC cx) b it')) (dg : TrG N scope tg tg')
    (hE : ∀ (s : Shared) (H : Hp) (A : Addr) (cl : List (Str × Addr)) (fp : List Addr), OkE (X.blk s H scope (compEnvC scope cl A X.env) fp) elt (evalE (valC cx) b elt')) :
    OkS X (.Assign [.Name x q] (.ListComp elt [⟨tg, it, [], 0⟩] scope lp) p) (execS cx b (.set i (.mk (.comp elt' tg' it' none (own.map (·.2)))))) := by
  refine setc_core C h1 hk hx hl ha hb ht hs dg (fun _ _ _ _ _ => pts_nil) ?_
  refine comp_core C (b := b) (fe := fun r m => evalE (valC cx) b elt' r m) (fc := fun _ m => some (.t (.bool true), m)) (tt := tYes) hb ht (hs _) hR dg (fun _ _ _ _ _ => pts_nil) (fun r m c m' e σ F io H st en Q q => ?_) hE (fun r m c m' e => compN_inv1 e)
  cases e
  exact q F io H (Adv.refl st)
theorem setcIf_ok (C : Cxt G cx k N sc X) {i : Nat} {x : Str} {scope : Scope} {own : List (Str × Nat)} {tg it elt cnd : Expr} {tg' : Tg} {it' : Src} {elt' cnd' : Ex} {q lp p : Pos} (h1 : N[i]? = some x) (hk : sc.kind = .function) (hx : sc.names.lookup x = some .local) (hl : (q.line == lp.line) = true)
    (ha : (scope.names.any fun (n, k) => n == x && (k == .local || k == .cell)) = false) (hb : blkC N sc scope own = true) (ht : tgIn tg' (own.map (·.2)) = true) (hs : ∀ env x, foldedSetIterable it env x = pure x) (hR : OkR X tg it (evalS (valC cx) b it')) (dg : TrG N scope tg tg')
    (hT : ∀ (s : Shared) (H : Hp) (A : Addr) (cl : List (Str × Addr)) (fp : List Addr), OkT (X.blk s H scope (compEnvC scope cl A X.env) fp) cnd (evalE (valC cx) b cnd'))
    (hE : ∀ (s : Shared) (H : Hp) (A : Addr) (cl : List (Str × Addr)) (fp : List Addr), OkE (X.blk s H scope (compEnvC scope cl A X.env) fp) elt (evalE (valC cx) b elt')) :
    OkS X (.Assign [.Name x q] (.ListComp elt [⟨tg, it, [cnd], 0⟩] scope lp) p) (execS cx b (.set i (.mk (.comp elt' tg' it' (some cnd') (own.map (·.2)))))) := by
  have hPT : ∀ (s : Shared) (H : Hp) (A : Addr) (cl : List (Str × Addr)) (fp : List Addr), PTs (X.blk s H scope (compEnvC scope cl A X.env) fp) [cnd] (fun σ H Q => ∀ (s : Shared) (H0 : Hp) (A : Addr) (cl : List (Str × Addr)) (fp : List Addr), DT (X.blk s H0 scope (compEnvC scope cl A X.env) fp) cnd σ H Q) :=
    fun s H A cl fp => pts_one ⟨fun pins s' _ _ _ I h => h s H A cl fp pins s' I⟩
  refine setc_core C h1 hk hx hl ha hb ht hs dg hPT ?_
  refine comp_core C (b := b) (fe := fun r m => evalE (valC cx) b elt' r m) (fc := fun r m => evalE (valC cx) b cnd' r m) hb ht (hs _) hR dg hPT (fun r m c m' e σ F io H st en Q q => ?_) hE (fun r m c m' e => compN_inv2 e)
  exact fun s H0 A cl fp => hT s H0 A cl fp r m c m' e σ F io H st en Q q
theorem sto_in (C : Cxt G cx k N sc X) (so : Sto X sc) {tg : Expr} {tg' : Tg} (d : TrG N sc tg tg') : PG X tg (gOf X.K tg') := pg_of C.hN C.nd C.calm so d
theorem unp_ok (C : Cxt G cx k N sc X) (so : Sto X sc) {es : List Expr} {is : List Nat} {e : Expr} {e' : Ex} {kk : Nat} {q p : Pos} (d : TrG N sc (.Tuple es kk q) (.many is)) (h : OkE X e (evalE (valC cx) b e'))
    (h1 : ∀ env, env.scope = sc → swapsWithSole [.Tuple es kk q] e p.line env = pure false) (h2 : ∀ env, env.scope = sc → swappedStores [.Tuple es kk q] e env = pure none) (h3 : ∀ env, (assignEach [.Tuple es kk q] env).map (·.2) = [assign (.Tuple es kk q) env]) :
    OkS X (.Assign [.Tuple es kk q] e p) (execS cx b (.unp is e')) := by
  intro r m fl m' hh σ F io H st en D Wx tk ends
  unfold execS at hh
  obtain ⟨⟨v, m1⟩, g1, hh⟩ := bind_some hh
  dsimp only at hh
  split at hh
  · rename_i d0
    split at hh
    · rename_i r1 g2
      cases hh
      refine PS.ds (ps_asg (cE (X := X)) (sto_in C so d) (h1 _ C.hsc) (h2 _ C.hsc) (h3 _)) (h r m _ _ g1 σ F io H st en _ fun vx F' io' H' A hvx => ?_)
      exact g_ok (fun _ => True) A.st.sub g2 hvx (en.adv A) trivial (fun _ _ _ _ _ => trivial) fun σ' _ e1 => ends σ' F' io' H' A e1
    · cases hh
  · cases hh
theorem par_sw {sc : Scope} {x y : Str} {px py pt pt2 : Pos} {kt k2 : Nat} {a c : Expr} {env : Env} (h : parB sc x y px py a c = true) (he : env.scope = sc) : swappedStores [.Tuple [.Name x px, .Name y py] kt pt] (.Tuple [a, c] k2 pt2) env = pure (some [x, y]) := by
  unfold parB at h
  simp only [Bool.and_eq_true, Bool.not_eq_true', beq_iff_eq] at h
  obtain ⟨⟨⟨⟨⟨⟨⟨⟨h1, h2⟩, h3⟩, h4⟩, h5⟩, h6⟩, h7⟩, h8⟩, h9⟩ := h
  have k1 : env.blockKind = .function := by unfold Env.blockKind; rw [he, h1]; rfl
  have kx : env.kindOf x = some .local := by rw [← h2, ← he]; rfl
  have ky : env.kindOf y = some .local := by rw [← h3, ← he]; rfl
  have hs : ([a, c].any fun | .Starred .. => true | _ => false) = false := congr (congrArg or h6) (congr (congrArg or h7) (Eq.refl false))
  have ne : ¬ y = x := fun e => by rw [e] at h5; simp at h5
  unfold swappedStores
  simp only [k1]
  show (if ([a, c].any fun | .Starred .. => true | _ => false) = true then _ else _) = _
  rw [hs, if_neg Bool.false_ne_true]
  have e1 : ([(Expr.Name x px), (Expr.Name y py)].filterMap fun | .Name id pos => if env.kindOf id == some .local && pos.line == ((([(Expr.Name x px), (Expr.Name y py)] : List Expr).head?.map (·.pos.line)).getD 0) then some id else none | _ => none) = [x, y] := by
    show [(Expr.Name x px), (Expr.Name y py)].filterMap (fun | .Name id pos => if env.kindOf id == some .local && pos.line == px.line then some id else none | _ => none) = [x, y]
    simp [kx, ky, h4]
  have key : ∀ L : List Str, L = [x, y] → (if (L.length != [(Expr.Name x px), (Expr.Name y py)].length || L.eraseDups.length != L.length) = true then (pure none : Sem (Option (List Str))) else if [a, c].all (foldedForSure 8) = true then pure none
      else if [a, c].all (constantsAlone 8) = true then (do unsupported "assign.tuple-of-constant-expressions:order-of-the-stores"; pure (some L)) else pure (some L)) = pure (some [x, y]) := by
    intro L e
    have d : ([x, y] : List Str).eraseDups.length = 2 := by simp [List.eraseDups_cons, h5]
    rw [e, d, h8, h9]
    rfl
  exact key _ e1
theorem par_ok (C : Cxt G cx k N sc X) {i j : Nat} {x y : Str} {a c : Expr} {a' c' : Ex} {px py pt pt2 p : Pos} {kt k2 : Nat} (h1 : N[i]? = some x) (h2 : N[j]? = some y) (hij : i ≠ j) (hp : parB sc x y px py a c = true) (hs : plainStar a [c]) (hs2 : plainStar c []) (ha : OkE X a (evalE (valC cx) b a')) (hc : OkE X c (evalE (valC cx) b c')) :
    OkS X (.Assign [.Tuple [.Name x px, .Name y py] kt pt] (.Tuple [a, c] k2 pt2) p) (execS cx b (.par i j a' c')) := by
  intro r m fl m' hh σ F io H st en D Wx tk ends
  unfold execS at hh
  obtain ⟨⟨v, m1⟩, g1, hh⟩ := bind_some hh
  obtain ⟨⟨u, m2⟩, g2, hh⟩ := bind_some hh
  cases hh
  have hx : sc.names.lookup x = some .local := by unfold parB at hp; simp only [Bool.and_eq_true, beq_iff_eq] at hp; exact hp.1.1.1.1.1.1.1.2
  have hy : sc.names.lookup y = some .local := by unfold parB at hp; simp only [Bool.and_eq_true, beq_iff_eq] at hp; exact hp.1.1.1.1.1.1.2
  refine PS.ds (ps_par C.calm C.nod (by rw [C.hN]; exact h1) (by rw [C.hN]; exact h2) hij (by rw [C.hsc]; exact hx) (by rw [C.hsc]; exact hy) (pa_cons (cE (X := X)) (pa_cons (cE (X := X)) pa_nil (hs2 _)) (hs _)) (par_sw hp C.hsc) rfl) ?_
  refine two_ok ha hc g1 g2 st en fun vx vy F' io' H' A hvx hvy => ?_
  exact ⟨vx, vy, rfl, ends _ F' io' H' A (((en.adv A).set i hvx).set j hvy)⟩
theorem par_nosw {sc : Scope} {x y : Str} {px py pt pt2 : Pos} {kt k2 : Nat} {a c : Expr} {env : Env} (h : (sc.names.lookup x == some .local && sc.names.lookup y == some .local) = false) (he : env.scope = sc) : swappedStores [.Tuple [.Name x px, .Name y py] kt pt] (.Tuple [a, c] k2 pt2) env = pure none := by
  have kx : env.kindOf x = sc.names.lookup x := by rw [← he]; rfl
  have ky : env.kindOf y = sc.names.lookup y := by rw [← he]; rfl
  have e1 : ([(Expr.Name x px), (Expr.Name y py)].filterMap (fun | .Name id pos => if env.kindOf id == some .local && pos.line == px.line then some id else none | _ => none)).length ≠ 2 := by
    simp only [List.filterMap_cons, List.filterMap_nil, kx, ky]
    rcases Bool.and_eq_false_iff.mp h with e | e <;> simp only [e, Bool.false_and, Bool.false_eq_true, if_false]
    · split <;> simp
    · split <;> simp
  have key : ∀ L : List Str, L.length ≠ 2 → ∀ c1 c2 c3 c4 : Bool, (if c1 = true then (pure none : Sem (Option (List Str))) else if c2 = true then pure none else if (L.length != 2 || L.eraseDups.length != L.length) = true then pure none else if c3 = true then pure none
      else if c4 = true then (do unsupported "assign.tuple-of-constant-expressions:order-of-the-stores"; pure (some L)) else pure (some L)) = pure none := by
    intro L hl c1 c2 c3 c4
    have d : (L.length != 2 || L.eraseDups.length != L.length) = true := by simp [hl]
    rw [d]
    cases c1 <;> cases c2 <;> rfl
  exact key _ e1 _ _ _ _
theorem par2_ok (C : Cxt G cx k N sc X) (so : Sto X sc) {i j : Nat} {x y : Str} {a c : Expr} {a' c' : Ex} {px py pt pt2 p : Pos} {kt k2 : Nat} (h1 : N[i]? = some x) (h2 : N[j]? = some y) (hx : locB sc x = true) (hy : locB sc y = true) (hp : (sc.names.lookup x == some .local && sc.names.lookup y == some .local) = false)
    (hs : plainStar a [c]) (hs2 : plainStar c []) (ha : OkE X a (evalE (valC cx) b a')) (hc : OkE X c (evalE (valC cx) b c')) : OkS X (.Assign [.Tuple [.Name x px, .Name y py] kt pt] (.Tuple [a, c] k2 pt2) p) (execS cx b (.par i j a' c')) := by
  intro r m fl m' hh σ F io H st en D Wx tk ends
  unfold execS at hh
  obtain ⟨⟨v, m1⟩, g1, hh⟩ := bind_some hh
  obtain ⟨⟨u, m2⟩, g2, hh⟩ := bind_some hh
  cases hh
  obtain ⟨lx1, lx2⟩ := so x hx
  obtain ⟨ly1, ly2⟩ := so y hy
  refine PS.ds (ps_asg (pe_tup (pa_cons (cE (X := X)) (pa_cons (cE (X := X)) pa_nil (hs2 _)) (hs _))) (pg_tup C.calm (pgs_cons (pg_name C.nod (by rw [C.hN]; exact h1) lx1 lx2) (pgs_cons (pg_name C.nod (by rw [C.hN]; exact h2) ly1 ly2) pgs_nil)) rfl rfl) rfl (par_nosw hp C.hsc) rfl) ?_
  refine two_ok ha hc g1 g2 st en fun vx vy F' io' H' A hvx hvy => ?_
  refine ⟨by show 2 ≤ sizeLine; decide, fun q hq => ⟨q, [vx, vy], rfl, SqT.of upd_same, rfl, vx, [vy], rfl, vy, [], rfl, rfl, ?_⟩⟩
  have le : Le H' (upd H' q (.tup [vx, vy])) := Le.new hq
  have g : Grow F' H' F' (upd H' q (.tup [vx, vy])) := ⟨Le.refl F', le, A.st.sub.trans le, fun _ h => .inl h⟩
  have A2 := A.trans (Adv.grow A.st g)
  exact ends _ F' io' _ A2 (((en.adv A2).set i (hvx.adv (Adv.grow A.st g))).set j (hvy.adv (Adv.grow A.st g)))
theorem exp_ok {e : Expr} {e' : Ex} {p : Pos} (h : OkE X e (evalE (valC cx) b e')) (hs : ∀ env, swapsWith e none p.line env = pure false) : OkS X (.Expr e p) (execS cx b (.exp e')) := by
  intro r m fl m' hh σ F io H st en D Wx tk ends
  unfold execS at hh
  obtain ⟨⟨v, m1⟩, g1, hh⟩ := bind_some hh
  cases hh
  exact PS.ds (ps_expr (cE (X := X)) (hs _)) (h r m v _ g1 σ F io H st en _ fun vx F' io' H' A hvx => ends _ F' io' H' A (en.adv A))
theorem ret_ok {e : Expr} {e' : Ex} {p : Pos} (h : OkE X e (evalE (valC cx) b e')) : OkS X (.Return (some e) p) (execS cx b (.ret e')) := by
  intro r m fl m' hh σ F io H st en D Wx tk ends
  unfold execS at hh
  obtain ⟨⟨v, m1⟩, g1, hh⟩ := bind_some hh
  cases hh
  exact PS.ds (ps_ret (cE (X := X))) (h r m v _ g1 σ F io H st en _ fun vx F' io' H' A hvx => ends _ F' io' H' A hvx)
theorem retn_ok {p : Pos} : OkS X (.Return none p) (execS cx b (.ret (.con .none))) := by
  intro r m fl m' hh σ F io H st en D Wx tk ends
  unfold execS at hh
  obtain ⟨⟨v, m1⟩, g1, hh⟩ := bind_some hh
  cases hh
  unfold evalE at g1
  cases g1
  exact PS.ds ps_retN (ends _ F io H (Adv.refl st) .non)
theorem pass_ok {p : Pos} : OkS X (.Pass p) (execS cx b .pass) := by
  intro r m fl m' hh σ F io H st en D Wx tk ends
  unfold execS at hh
  cases hh
  exact PS.ds ps_pass (ends _ F io H (Adv.refl st) en)
theorem brk_ok {p : Pos} : OkS X (.Break p) (execS cx b .brk) := by
  intro r m fl m' hh σ F io H st en D Wx tk ends
  unfold execS at hh
  cases hh
  exact PS.ds ps_break (ends _ F io H (Adv.refl st) en)
theorem cont_ok {p : Pos} : OkS X (.Continue p) (execS cx b .cont) := by
  intro r m fl m' hh σ F io H st en D Wx tk ends
  unfold execS at hh
  cases hh
  exact PS.ds ps_continue (ends _ F io H (Adv.refl st) en)
theorem rai_ok {e c : Option Expr} {p : Pos} : OkS X (.Raise e c p) (execS cx b .rai) := by
  intro r m fl m' hh σ F io H st en D Wx tk ends
  unfold execS at hh
  cases hh
theorem iff_ok {c : Expr} {c' : Ex} {x y : List Stmt} {x' y' : Sts} {p : Pos} (hc : OkT X c (evalE (valC cx) b c')) (hx : OkB X x (execs cx b x')) (hy : OkB X y (execs cx b y')) : OkS X (.If c x y p) (execS cx b (.iff c' x' y')) := by
  intro r m fl m' hh σ F io H st en D Wx tk ends
  unfold execS at hh
  obtain ⟨⟨v, m1⟩, g1, hh⟩ := bind_some hh
  dsimp only at hh
  refine PS.ds (ps_if (cT (X := X)) (cB (X := X)) (cB (X := X))) ?_
  split at hh
  · refine hc r m _ m1 g1 σ F io H st en _ fun F' io' H' A => ?_
    rw [if_pos rfl]
    exact hx r m1 fl m' hh σ F' io' H' A.st (en.adv A) D Wx tk (ends.of A)
  · refine hc r m _ m1 g1 σ F io H st en _ fun F' io' H' A => ?_
    rw [if_neg Bool.false_ne_true]
    exact hy r m1 fl m' hh σ F' io' H' A.st (en.adv A) D Wx tk (ends.of A)
  · cases hh
theorem app_ok (C : Cxt G cx k N sc X) {i : Nat} {x : Str} {e : Expr} {e' : Ex} {q ap cp p : Pos} (h1 : N[i]? = some x) (h2 : visB sc x = true) (h3 : okN x = true) (hs : plainStar e []) (hb : ∀ env, attributeBase (.Name x q) "append" env (eval (.Name x q) env) = eval (.Name x q) env)
    (hf : ∀ env, ((backTo cp (starEach [e] env)).all (fun y => !y.1) && (backToKw cp (keywordEach [] env)).all (fun y => y.1.isSome) && decide (([e] : List Expr).length + ([] : List Keyword).length + (if ([] : List Keyword).isEmpty then 0 else 1) < 30)) = true)
    (hl : (ap.endLine == cp.line) = true) (hsw : ∀ env, swapsWith (.Call (.Attribute (.Name x q) "append" ap) [e] [] cp) none p.line env = pure false) (h : OkE X e (evalE (valC cx) b e')) :
    OkS X (.Expr (.Call (.Attribute (.Name x q) "append" ap) [e] [] cp) p) (execS cx b (.app i e')) := by
  intro r m fl m' hh σ F io H st en D Wx tk ends
  unfold execS at hh
  split at hh
  · rename_i n hn
    split at hh
    · rename_i xs0 fz0 h0
      obtain ⟨⟨v, m1⟩, g1, hh⟩ := bind_some hh
      obtain ⟨⟨d, m2⟩, g2, hh⟩ := bind_some hh
      dsimp only at hh
      split at hh
      · rename_i xs g3
        split at hh
        · rename_i hz
          cases hh
          have o := okN_at h3
          obtain ⟨w, hw, ok⟩ := en.get i _ hn
          obtain ⟨hlt, rfl⟩ := ok
          refine PS.ds (ps_expr (pe_bm PySem.F.plainAttrs_list PySem.F.slot_list_append PySem.F.type_list_append mt_append (pe_var (by rw [C.hN]; exact h1) (C.vis h2) o.1 o.2.1) (pa_cons (cE (X := X)) pa_nil (hs _)) (hb _) (hf _) hl (hs _) rfl) (hsw _)) ?_
          have hty : tyV X.K "list" (.ref (io n)) H := by
            refine .inl ⟨rfl, ?_⟩
            have cc := st.cell n _ h0
            cases fz0 with
            | false => obtain ⟨_, xs, hx, _⟩ := cc; exact ⟨xs, SqL.of hx⟩
            | true => obtain ⟨xs, hx, _⟩ := cc; exact ⟨xs, SqL.of (st.sub _ _ hx)⟩
          refine ⟨_, hw, hty, ?_⟩
          refine h r m v m1 g1 σ F io H st en _ fun vx F' io' H' A hvx => ?_
          obtain ⟨F2, A2, ix⟩ := hvx.down A.st g2
          have A3 := A.trans A2
          obtain ⟨_, ys, hy, ky⟩ := A3.st.cell n _ g3
          have hio : io' n = io n := A3.ii n hlt
          rw [hio] at hy
          refine ⟨io n, ys, vx, rfl, rfl, hy, by rw [ky.length]; exact Nat.lt_of_lt_of_le hz (by decide), ?_⟩
          have M := Adv.mut A3.st g3 (ky.append (.cons ix .nil))
          rw [hio] at M
          exact ends σ F2 io' _ (A3.trans M) (en.adv (A3.trans M))
        · cases hh
      · cases hh
    · cases hh
  · cases hh
theorem ext_ok (C : Cxt G cx k N sc X) {i : Nat} {x : Str} {e : Expr} {e' : Ex} {q ap cp p : Pos} (h1 : N[i]? = some x) (h2 : visB sc x = true) (h3 : okN x = true) (hs : plainStar e []) (hb : ∀ env, attributeBase (.Name x q) "extend" env (eval (.Name x q) env) = eval (.Name x q) env)
    (hf : ∀ env, ((backTo cp (starEach [e] env)).all (fun y => !y.1) && (backToKw cp (keywordEach [] env)).all (fun y => y.1.isSome) && decide (([e] : List Expr).length + ([] : List Keyword).length + (if ([] : List Keyword).isEmpty then 0 else 1) < 30)) = true)
    (hl : (ap.endLine == cp.line) = true) (hsw : ∀ env, swapsWith (.Call (.Attribute (.Name x q) "extend" ap) [e] [] cp) none p.line env = pure false) (h : OkE X e (evalE (valC cx) b e')) :
    OkS X (.Expr (.Call (.Attribute (.Name x q) "extend" ap) [e] [] cp) p) (execS cx b (.ext i e')) := by
  intro r m fl m' hh σ F io H st en D Wx tk ends
  unfold execS at hh
  split at hh
  · rename_i n hn
    split at hh
    · rename_i xs0 fz0 h0
      obtain ⟨⟨v, m1⟩, g1, hh⟩ := bind_some hh
      obtain ⟨d, g2, hh⟩ := bind_some hh
      split at hh
      · rename_i xs ys g3
        split at hh
        · rename_i hz
          cases hh
          have o := okN_at h3
          obtain ⟨w, hw, ok⟩ := en.get i _ hn
          obtain ⟨hlt, rfl⟩ := ok
          refine PS.ds (ps_expr (pe_bm PySem.F.plainAttrs_list PySem.F.slot_list_extend PySem.F.type_list_extend mt_ext (pe_var (by rw [C.hN]; exact h1) (C.vis h2) o.1 o.2.1) (pa_cons (cE (X := X)) pa_nil (hs _)) (hb _) (hf _) hl (hs _) rfl) (hsw _)) ?_
          have hty : tyV X.K "list" (.ref (io n)) H := by
            refine .inl ⟨rfl, ?_⟩
            have cc := st.cell n _ h0
            cases fz0 with
            | false => obtain ⟨_, xs, hx, _⟩ := cc; exact ⟨xs, SqL.of hx⟩
            | true => obtain ⟨xs, hx, _⟩ := cc; exact ⟨xs, SqL.of (st.sub _ _ hx)⟩
          refine ⟨_, hw, hty, ?_⟩
          refine h r m v _ g1 σ F io H st en _ fun vx F' io' H' A hvx => ?_
          obtain ⟨p, zs, rfl, hp, kz⟩ := (hvx.vw A.st g2).list A.st.sub
          obtain ⟨_, ws, hy, ky⟩ := A.st.cell n _ g3
          have hio : io' n = io n := A.ii n hlt
          rw [hio] at hy
          refine ⟨io n, p, ws, zs, rfl, rfl, hy, hp, by rw [ky.length, kz.length]; exact szL hz, ?_⟩
          have M := Adv.mut A.st g3 (ky.append kz)
          rw [hio] at M
          exact ends σ F' io' _ (A.trans M) (en.adv (A.trans M))
        · cases hh
      · cases hh
    · cases hh
  · cases hh
theorem put_ok (C : Cxt G cx k N sc X) {i : Nat} {x : Str} {y e : Expr} {y' e' : Ex} {q sp p : Pos} (h1 : N[i]? = some x) (h2 : visB sc x = true) (h3 : okN x = true) (hy : OkE X y (evalE (valC cx) b y')) (h : OkE X e (evalE (valC cx) b e'))
    (ha : ∀ env v, assign (.Subscript (.Name x q) y sp) env v = (do let ov ← holding [v] (eval (.Name x q) env); let iv ← holding [v, ov] (eval y env); standAt sp; holding [v, ov, iv] (setItem ov iv v); release [v, ov, iv] []))
    (hs : ∀ env, swapsWithSole [.Subscript (.Name x q) y sp] e p.line env = pure false) (hw : ∀ env, swappedStores [.Subscript (.Name x q) y sp] e env = pure none) (h5 : ∀ env, (assignEach [.Subscript (.Name x q) y sp] env).map (·.2) = [assign (.Subscript (.Name x q) y sp) env]) :
    OkS X (.Assign [.Subscript (.Name x q) y sp] e p) (execS cx b (.put i y' e')) := by
  intro r m fl m' hh σ F io H st en D Wx tk ends
  unfold execS at hh
  obtain ⟨⟨v, m1⟩, g1, hh⟩ := bind_some hh
  obtain ⟨⟨d, m2⟩, g2, hh⟩ := bind_some hh
  dsimp only at hh
  split at hh
  · rename_i n hn
    obtain ⟨⟨kv, m3⟩, g3, hh⟩ := bind_some hh
    dsimp only at hh
    split at hh
    · rename_i z xs g4
      split at hh
      · rename_i j hj
        cases hh
        have o := okN_at h3
        obtain ⟨w, hw', ok⟩ := en.get i _ hn
        obtain ⟨hlt, rfl⟩ := ok
        refine PS.ds (ps_asg (cE (X := X)) (pg_sub (pe_var (by rw [C.hN]; exact h1) (C.vis h2) o.1 o.2.1) (cE (X := X)) set_list (ha _)) (hs _) (hw _) (h5 _)) ?_
        refine h r m v m1 g1 σ F io H st en _ fun vx F' io' H' A hvx => ?_
        obtain ⟨F2, A2, ix⟩ := hvx.down A.st g2
        have A3 := A.trans A2
        refine ⟨_, hw', hy r m2 _ m3 g3 σ F2 io' H' A3.st (en.adv A3) _ fun vk F3 io3 H3 A4 hvk => ?_⟩
        have A5 := A3.trans A4
        have ek : vk = .int z := by cases hvk; rfl
        subst ek
        obtain ⟨_, ys, hy1, ky⟩ := A5.st.cell n _ g4
        have hio : io3 n = io n := A5.ii n hlt
        rw [hio] at hy1
        refine ⟨io n, ys, z, j, rfl, rfl, hy1, by rw [ky.length]; exact hj, ?_⟩
        have M := Adv.mut A5.st g4 (ky.set j (ix.mono A4.ff))
        rw [hio] at M
        exact ends σ F3 io3 _ (A5.trans M) (en.adv (A5.trans M))
      · cases hh
    · cases hh
  · cases hh
theorem for_ok (C : Cxt G cx k N sc X) (so : Sto X sc) {tg it : Expr} {tg' : Tg} {body : List Stmt} {body' : Sts} {it' : Src} {p : Pos} (hs : ∀ env x, foldedSetIterable it env x = pure x) (dg : TrG N sc tg tg') (hR : OkR X tg it (evalS (valC cx) b it')) (hB : OkB X body (execs cx b body')) :
    OkS X (.For tg it body [] p) (execS cx b (.forr tg' it' body')) := by
  intro r m fl m' hh σ F io H st en D Wx tk ends
  unfold execS at hh
  obtain ⟨⟨ds, m1⟩, g1, hh⟩ := bind_some hh
  dsimp only at hh
  refine PS.ds (ps_for C.po C.calm cI (sto_in C so dg) (cB (X := X)) (hs _)) ?_
  refine hR r m ds m1 g1 σ F io H st en _ fun J F1 io1 H1 A1 good => ?_
  let W : Nat → Nat → L2.St → Hp → Prop := fun i mm σc Hc => mm = ds.length - i ∧ i ≤ ds.length ∧ ∃ F' io' μ rc, Adv X.K F1 io1 m1 F' io' μ Hc ∧ EnOk X.K F' io' μ.length σc rc ∧ forLoop (fun r m => execs cx b body' r m) tg' (ds.drop i) rc μ = some (fl, m')
  refine ⟨W, ⟨ds.length, rfl, Nat.zero_le _, F1, io1, m1, r, Adv.refl A1.st, en.adv A1, hh⟩, fun i mm σc Hc w => ?_⟩
  obtain ⟨hm, hi, F2, io2, μ, rc, A2, en2, hl⟩ := w
  obtain ⟨items, stop⟩ := good F2 Hc A2.ff A2.st.sub
  by_cases hd : i < ds.length
  · refine .inr ⟨(items i _ (List.getElem?_eq_getElem hd)).1, W (i + 1) (mm - 1), fun σ' H' w' => ⟨mm - 1, by omega, w'⟩, fun x H' hy => ?_⟩
    obtain ⟨F3, gr, ix⟩ := (items i _ (List.getElem?_eq_getElem hd)).2 x H' hy
    rw [List.drop_eq_getElem_cons hd] at hl
    unfold forLoop at hl
    obtain ⟨r1, e1, hl⟩ := bind_some hl
    obtain ⟨⟨f, μ1⟩, e2, hl⟩ := bind_some hl
    dsimp only at hl
    have A3 := A2.trans (Adv.grow A2.st gr)
    refine g_ok (n := μ.length) (io := io2) (fun _ => True) A3.st.sub e1 ix (en2.adv (Adv.grow A2.st gr)) trivial (fun _ _ _ _ _ => trivial) fun σ2 _ en4 => ?_
    refine hB r1 μ f μ1 e2 σ2 F3 io2 H' A3.st en4 _ Wx tk ?_
    have on : ∀ r', forLoop (fun r m => execs cx b body' r m) tg' (ds.drop (i + 1)) r' μ1 = some (fl, m') → ∀ σ' F' io' H', Adv X.K F3 io2 μ F' io' μ1 H' → EnOk X.K F' io' μ1.length σ' r' → W (i + 1) (mm - 1) σ' H' := fun r' z σ' F' io' H' A en' => ⟨by omega, by omega, F', io', μ1, r', A3.trans A, en', z⟩
    cases f with
    | nx r' => exact on r' hl
    | ct r' => exact on r' hl
    | bk r' =>
      cases hl
      exact fun σ' F' io' H' A en' => ends σ' F' io' H' (A1.trans (A3.trans A)) en'
    | rt v =>
      cases hl
      exact fun v' F' io' H' A hv => ends v' F' io' H' (A1.trans (A3.trans A)) hv
    | ex r' c x =>
      cases hl
      exact fun σ' C dx u F' io' H' A en' => ends σ' C dx u F' io' H' (A1.trans (A3.trans A)) en'
  · have e : i = ds.length := by omega
    subst e
    rw [List.drop_length] at hl
    cases hl
    exact .inl ⟨stop, ends σc F2 io2 Hc (A1.trans A2) en2⟩
theorem nilB_ok : OkB X [] (execs cx b .nil) := by
  intro r m fl m' hh σ F io H st en D Wx tk ends
  unfold execs at hh
  cases hh
  exact PSs.db pss_nil (ends _ F io H (Adv.refl st) en)
theorem consB_ok {s : Stmt} {rest : List Stmt} {s' : St} {rest' : Sts} (h1 : OkS X s (execS cx b s')) (h2 : OkB X rest (execs cx b rest')) : OkB X (s :: rest) (execs cx b (.cons s' rest')) := by
  intro r m fl m' hh σ F io H st en D Wx tk ends
  unfold execs at hh
  obtain ⟨⟨f, m1⟩, g1, hh⟩ := bind_some hh
  dsimp only at hh
  have hS : PS X s (fun D σ H => DS X s D σ H) := ⟨fun pins s _ _ _ I h => h pins s I⟩
  refine PSs.db (pss_cons hS (cB (X := X))) (h1 r m f m1 g1 σ F io H st en _ Wx tk ?_)
  cases f with
  | nx r' => exact fun σ' F' io' H' A en' => h2 r' m1 fl m' hh σ' F' io' H' A.st en' D Wx tk (ends.of A)
  | bk r' => cases hh; exact ends
  | ct r' => cases hh; exact ends
  | rt v => cases hh; exact ends
  | ex r' c x => cases hh; exact ends
theorem putd_ok (C : Cxt G cx k N sc X) {i : Nat} {x : Str} {y e : Expr} {y' e' : Ex} {q sp p : Pos} (h1 : N[i]? = some x) (h2 : visB sc x = true) (h3 : okN x = true) (hy : OkE X y (evalE (valC cx) b y')) (h : OkE X e (evalE (valC cx) b e'))
    (hs : ∀ env, swapsWith e (some (.Subscript (.Name x q) y sp)) p.line env = pure false) : OkS X (.Assign [.Subscript (.Name x q) y sp] e p) (execS cx b (.putd i y' e')) := by
  intro r m fl m' hh σ F io H st en D Wx tk ends
  unfold execS at hh
  obtain ⟨⟨v, m1⟩, g1, hh⟩ := bind_some hh
  obtain ⟨⟨d, m2⟩, g2, hh⟩ := bind_some hh
  dsimp only at hh
  split at hh
  · rename_i n hn
    obtain ⟨⟨kv, m3⟩, g3, hh⟩ := bind_some hh
    dsimp only at hh
    split at hh
    · rename_i z kvs g4
      split at hh
      · rename_i hk
        cases hh
        simp only [Bool.and_eq_true, decide_eq_true_eq] at hk
        have o := okN_at h3
        obtain ⟨w, hw', ok⟩ := en.get i _ hn
        obtain ⟨hlt, rfl⟩ := ok
        refine PS.ds (ps_dput (by have := C.units; omega) (pe_var (by rw [C.hN]; exact h1) (C.vis h2) o.1 o.2.1) (cE (X := X)) (cE (X := X)) (hs _)) ?_
        refine h r m v m1 g1 σ F io H st en _ fun vx F' io' H' A hvx => ?_
        obtain ⟨F2, A2, ix⟩ := hvx.down A.st g2
        have A3 := A.trans A2
        refine ⟨_, hw', hy r m2 _ m3 g3 σ F2 io' H' A3.st (en.adv A3) _ fun vk F3 io3 H3 A4 hvk => ?_⟩
        have A5 := A3.trans A4
        have ek : vk = .int z := by cases hvk; rfl
        subst ek
        obtain ⟨_, ys, hy1, ky⟩ := A5.st.cell n _ g4
        have hio : io3 n = io n := A5.ii n hlt
        rw [hio] at hy1
        have M := Adv.mutD A5.st g4 (ky.putI z hk.1 (ix.mono A4.ff)).1
        rw [hio] at M
        exact ⟨io n, _, rfl, DPut.k (k := .inl z) hy1 (by rw [ky.length]; exact Nat.lt_of_lt_of_le hk.2 (by decide)), ends σ F3 io3 _ (A5.trans M) (en.adv (A5.trans M))⟩
      · cases hh
    · cases hh
  · cases hh
theorem par3_ok (C : Cxt G cx k N sc X) {i j l : Nat} {x y z : Str} {a c e : Expr} {a' c' e' : Ex} {px py pz pt pt2 p : Pos} {kt k2 : Nat} (h1 : N[i]? = some x) (h2 : N[j]? = some y) (h3 : N[l]? = some z) (hij : i ≠ j) (hil : i ≠ l) (hjl : j ≠ l)
    (hx : sc.names.lookup x = some .local) (hy : sc.names.lookup y = some .local) (hz : sc.names.lookup z = some .local) (hs : plainStar a [c, e]) (hs2 : plainStar c [e]) (hs3 : plainStar e [])
    (hw : ∀ env, env.scope = sc → swappedStores [.Tuple [.Name x px, .Name y py, .Name z pz] kt pt] (.Tuple [a, c, e] k2 pt2) env = pure (some [x, y, z])) (hsw : ∀ env, swapsWithSole [.Tuple [.Name x px, .Name y py, .Name z pz] kt pt] (.Tuple [a, c, e] k2 pt2) p.line env = pure false)
    (ha : OkE X a (evalE (valC cx) b a')) (hc : OkE X c (evalE (valC cx) b c')) (he : OkE X e (evalE (valC cx) b e')) :
    OkS X (.Assign [.Tuple [.Name x px, .Name y py, .Name z pz] kt pt] (.Tuple [a, c, e] k2 pt2) p) (execS cx b (.par3 i j l a' c' e')) := by
  intro r m fl m' hh σ F io H st en D Wx tk ends
  unfold execS at hh
  obtain ⟨⟨v, m1⟩, g1, hh⟩ := bind_some hh
  obtain ⟨⟨u, m2⟩, g2, hh⟩ := bind_some hh
  obtain ⟨⟨w, m3⟩, g3, hh⟩ := bind_some hh
  cases hh
  refine PS.ds (ps_par3 C.calm C.nod (by rw [C.hN]; exact h1) (by rw [C.hN]; exact h2) (by rw [C.hN]; exact h3) hij hil hjl (by rw [C.hsc]; exact hx) (by rw [C.hsc]; exact hy) (by rw [C.hsc]; exact hz)
    (pa_cons (cE (X := X)) (pa_cons (cE (X := X)) (pa_cons (cE (X := X)) pa_nil (hs3 _)) (hs2 _)) (hs _)) (hw _ C.hsc) (hsw _)) ?_
  refine ha r m v m1 g1 σ F io H st en _ fun vx F1 io1 H1 A1 hvx => ?_
  refine hc r m1 u m2 g2 σ F1 io1 H1 A1.st (en.adv A1) _ fun vy F2 io2 H2 A2 hvy => ?_
  have A12 := A1.trans A2
  refine he r m2 w _ g3 σ F2 io2 H2 A2.st (en.adv A12) _ fun vz F3 io3 H3 A3 hvz => ?_
  have A13 := A12.trans A3
  exact ⟨vx, vy, vz, rfl, ends _ F3 io3 H3 A13 ((((en.adv A13).set i ((hvx.adv A2).adv A3)).set j (hvy.adv A3)).set l hvz)⟩
structure Frm (X : Cx) : Prop where
  stk : X.stack = X.env :: X.outer
  frm : X.env.frame = some X.env.locals
  ex : X.ex = []
theorem EnOk.unset {K : PySem.W.Frag} {F : Hp} {io : Nat → Addr} {n : Nat} {σ : L2.St} {r : En} (h : EnOk K F io n σ r) (i : Nat) : EnOk K F io n (σ.set i none) (r.set i none) := h.wipe [i]
theorem rs_ok (C : Cxt G cx k N sc X) {nm : Str} {e : Expr} {e' : Ex} {p pos pos2 : Pos} (h1 : G.er.contains nm = true) (h2 : gloB sc nm = true) (h3 : okN nm = true) (hs : plainStar e []) (h : OkE X e (evalE (valC cx) b e')) :
    OkS X (.Raise (some (.Call (.Name nm p) [e] [] pos)) none pos2) (execS cx b (.rs nm e')) := by
  intro r m fl m' hh σ F io H st en D Wx tk ends
  unfold execS at hh
  obtain ⟨⟨v, m1⟩, g1, hh⟩ := bind_some hh
  dsimp only at hh
  split at hh
  · rename_i x hx
    cases hh
    obtain ⟨Ca, fI, n1, T⟩ := C.md.er nm h1
    refine PS.ds (ps_raiseEr C.calm T C.room tk (pa_cons (cE (X := X)) pa_nil (hs _)) (C.gl h2) (okN_at h3).1 (hs _) rfl) (h r m v _ g1 σ F io H st en _ fun vx F' io' H' A hvx => ?_)
    refine ⟨vx, rfl, fun d hd => ?_⟩
    have A2 := Adv.grow A.st (Grow.new (o := .xd [(("value" : Str), vx)]) A.st.sub hd)
    exact ends σ Ca d vx _ io' _ (A.trans A2) (en.adv (A.trans A2)) n1 upd_same ((hvx.so hx).adv A2)
  · cases hh
theorem call_fnX {a : Addr} {fd : FuncData} {ps : List Str} {sp : Sp} {pins : List (Addr × Obj)} {σ : L2.St} {H : Hp} {s : Shared} {Q : VK} {us : List Value} {vs : List V} {Wx : WX} (tk : Takes X Wx) (F : FnG X.prog X.w X.K X.mg X.base k a fd ps sp) (hr : Room k X.A) (hg : X.A.guards = some [])
    (I : Inv X pins σ H s) {pos : List Value} {kw : List (Str × Value)} (hb : BindsTo s fd ⟨pos, kw⟩ (ps.zip us)) (r : Vals vs us) (h : sp vs H Q fun cls d H' => Wx cls d σ H') : wpAny (model X.prog X.w) X.A (PySem.call (.ref a) pos kw) (EP X pins σ Q) X.xe s := by
  refine wpAny_call (codeAny_mono (F.run X.A X.stack s H ⟨pos, kw⟩ us vs Q _ hr hg I.env0 hb r h) fun res s' hq => ?_)
  cases res with
  | error e => exact tk e s' (XE.of_call I (fun _ _ _ h => h) hq)
  | ok fl =>
    cases fl with
    | ret u => exact I.after hq
    | next => exact False.elim hq
    | brk => exact False.elim hq
    | cont => exact False.elim hq
theorem DE.fcallX {x : Str} {a : Addr} {fd : FuncData} {ps : List Str} {sp : Sp} {e : Expr} {es : List Expr} {p pos : Pos} {σ : L2.St} {H : Hp} {Q : VK} {Wx : WX} (tk : Takes X Wx) (F : FnG X.prog X.w X.K X.mg X.base k a fd ps sp) (hr : Room k X.A) (hg : X.A.guards = some [])
    (hgl : Gl X x) (hm : X.mg x = some (.ref a)) (hk : PySem.W.keepIn X.K (.ref a) = true) (hb : Binds X.K fd ps []) (hd : (x == ("__debug__" : Str)) = false) (he : plainStar e es) (hpl : ∀ pos, (backTo pos (starEach es X.env)).any (·.1) = false)
    (h : DA X (e :: es) σ H fun vs H1 => sp vs H1 Q fun cls d H' => Wx cls d σ H') : DE X (.Call (.Name x p) (e :: es) [] pos) σ H Q := fun pins s I => by
  refine wpAny_Call_Name_kw (ld_glob I hgl hm ?_ hd)
  refine PySem.W.callWith_K (h₀ := X.base) I.ok.mod.kin hk (thn (h pos pins s I) fun us s1 ⟨vs, H1, I1, r, q⟩ => ⟨I1.kIn, ?_⟩) (he _) (hpl pos)
  have hl : (us ++ []).length = ps.length := by
    have e1 := F.len _ _ _ _ q
    have e2 := r.length
    rw [List.append_nil]; omega
  have b := hb s1 us I1.kIn hl
  rw [List.append_nil] at b
  exact call_fnX tk F hr hg I1 b r q
theorem callx_de (C : Cxt G cx k N sc X) {x : Str} {f : Nat} {e : Expr} {es : List Expr} {es' : Exs} {p pos : Pos} (h1 : G.fn.lookup x = some f) (h2 : gloB sc x = true) (h3 : okN x = true) (h : OkEs X (valC cx) b (e :: es) es') {r : En} {m m1 m' : Mu} {vs : List Vl} {q : XR}
    (g1 : evalL (valC cx) b es' r m = some (vs, m1)) (hc : cx f vs m1 = some (q, m')) {σ : L2.St} {F : Hp} {io : Nat → Addr} {H : Hp} (st : Stt X.K F io m H) (en : EnOk X.K F io m.length σ r) {Q : VK} {Wx : WX} (tk : Takes X Wx)
    (hq : ∀ F' io' H', Adv X.K F io m F' io' m1 H' → XOk X.K F' io' m1 m' Q (fun cls d H' => Wx cls d σ H') q) : DE X (.Call (.Name x p) (e :: es) [] pos) σ H Q := by
  obtain ⟨a, fd, ps, i1, i2, i3, i4, i5, _⟩ := C.md.fn x f h1
  refine DE.fcallX tk i4 C.room C.grd (C.gl h2) i1 i2 i3 (okN_at h3).1 h.star.1 (fun pos => h.star.2 _ pos) (h.l r m vs m1 g1 σ F io H st en _ fun xs F' io' H' A hxs => ?_)
  exact ⟨hxs.length.trans (i5 _ _ _ hc), F', io', m1, vs, q, m', A.st, hxs, hc, hq F' io' H' A⟩
theorem expx_ok (C : Cxt G cx k N sc X) {x : Str} {f : Nat} {e : Expr} {es : List Expr} {es' : Exs} {p pos p2 : Pos} (h1 : G.fn.lookup x = some f) (h2 : gloB sc x = true) (h3 : okN x = true) (h : OkEs X (valC cx) b (e :: es) es')
    (hs : ∀ env, swapsWith (.Call (.Name x p) (e :: es) [] pos) none p2.line env = pure false) : OkS X (.Expr (.Call (.Name x p) (e :: es) [] pos) p2) (execS cx b (.expx f es')) := by
  intro r m fl m' hh σ F io H st en D Wx tk ends
  unfold execS at hh
  obtain ⟨⟨vs, m1⟩, g1, hh⟩ := bind_some hh
  dsimp only at hh
  refine PS.ds (ps_expr (cE (X := X)) (hs _)) ?_
  split at hh
  · rename_i v m2 g2
    cases hh
    exact callx_de C h1 h2 h3 h g1 g2 st en tk fun F' io' H' A v F2 io2 H2 A2 hv => ends _ F2 io2 H2 (A.trans A2) (en.adv (A.trans A2))
  · rename_i c x m2 g2
    cases hh
    exact callx_de C h1 h2 h3 h g1 g2 st en tk fun F' io' H' A Ca dx u F2 io2 H2 A2 n1 hx so => ends _ Ca dx u F2 io2 H2 (A.trans A2) (en.adv (A.trans A2)) n1 hx so
  · cases hh
theorem retx_ok (C : Cxt G cx k N sc X) {x : Str} {f : Nat} {e : Expr} {es : List Expr} {es' : Exs} {p pos p2 : Pos} (h1 : G.fn.lookup x = some f) (h2 : gloB sc x = true) (h3 : okN x = true) (h : OkEs X (valC cx) b (e :: es) es') :
    OkS X (.Return (some (.Call (.Name x p) (e :: es) [] pos)) p2) (execS cx b (.retx f es')) := by
  intro r m fl m' hh σ F io H st en D Wx tk ends
  unfold execS at hh
  obtain ⟨⟨vs, m1⟩, g1, hh⟩ := bind_some hh
  dsimp only at hh
  refine PS.ds (ps_ret (cE (X := X))) ?_
  split at hh
  · rename_i v m2 g2
    cases hh
    exact callx_de C h1 h2 h3 h g1 g2 st en tk fun F' io' H' A v F2 io2 H2 A2 hv => ends _ F2 io2 H2 (A.trans A2) hv
  · rename_i c x m2 g2
    cases hh
    exact callx_de C h1 h2 h3 h g1 g2 st en tk fun F' io' H' A Ca dx u F2 io2 H2 A2 n1 hx so => ends _ Ca dx u F2 io2 H2 (A.trans A2) (en.adv (A.trans A2)) n1 hx so
  · cases hh
theorem Cxt.tr (C : Cxt G cx k N sc X) (pn : List (Addr × Obj)) {xe : Value → Shared → Prop} (po : PassesOwn (model X.prog X.w) X.A X.env xe) : Cxt G cx k N sc (X.tr pn xe) := ⟨C.hN, C.nd, C.hsc, C.calm, C.room, C.grd, po, C.md⟩
theorem tri_ok (C : Cxt G cx k N sc X) (fr : Frm X) {body : List Stmt} {body' : Sts} {bn n y : Str} {np q q2 p3 pos pos' : Pos} {i j : Nat} (h1 : G.base.contains bn = true) (h2 : gloB sc bn = true) (h3 : okN bn = true) (h4 : N[i]? = some n) (h5 : N[j]? = some y) (hij : i ≠ j)
    (h6 : sc.names.lookup n = some .local) (h7 : sc.names.lookup y = some .local) (h8 : okN n = true) (hsw : ∀ env, swapsWith (.Name n q2) (some (.Name y q)) p3.line env = pure false) (hB : ∀ pn xe, PassesOwn (model X.prog X.w) X.A X.env xe → OkB (X.tr pn xe) body (execs cx b body')) :
    OkS X (.Try body [.ExceptHandler (some (.Name bn np)) (some n) [.Assign [.Name y q] (.Name n q2) p3] pos'] [] [] pos) (execS cx b (.tri G.er body' i j)) := by
  intro r m fl m' hh σ F io H st en D Wx tk ends
  unfold execS at hh
  obtain ⟨⟨f, m1⟩, g1, hh⟩ := bind_some hh
  dsimp only at hh
  obtain ⟨B, b1, b2⟩ := C.md.base bn h1
  have kn : X.env.kindOf n = some .local := by
    have := C.hsc
    show X.env.scope.names.lookup n = some .local
    rw [this]; exact h6
  have ky : X.env.kindOf y = some .local := by
    have := C.hsc
    show X.env.scope.names.lookup y = some .local
    rw [this]; exact h7
  refine PS.ds (ps_tryEr (tb := fun W D σ H => ∀ pn xe, Takes (X.tr pn xe) W → PassesOwn (model X.prog X.w) X.A X.env xe → DB (X.tr pn xe) body D σ H) fr.stk fr.frm fr.ex C.nod (by rw [C.hN]; exact h4) kn (by rw [C.hN]; exact h5) ky hij ⟨C.gl h2, (okN_at h3).1, .inl b1⟩ (okN_at h8).1 (okN_at h8).2.1 (hsw _)
    (fun W pn xe tk po => ⟨fun pins s σ H D I h => h pn xe tk po pins s I⟩)) ?_
  intro pn xe tk' po
  refine hB pn xe po r m f m1 g1 σ F io H st en D _ tk' ?_
  cases f with
  | nx r' => cases hh; exact ends
  | bk r' => cases hh; exact ends
  | ct r' => cases hh; exact ends
  | rt v => cases hh; exact ends
  | ex r' c x =>
    dsimp only at hh
    split at hh
    · rename_i hcs
      cases hh
      intro σ' Ca dx u F' io' H' A en' n1 hx so
      refine ⟨b2 c Ca hcs n1, Ca, dx, rfl, rfl, fun a ha => ?_⟩
      have A2 := Adv.grow A.st (Grow.new (o := ErO Ca dx a) A.st.sub ha)
      have A3 := A.trans A2
      have hne : dx ≠ a := fun z => by
        have := A.st.sub dx _ hx
        rw [z, ha] at this
        cases this
      exact ends _ _ io' _ A3 (((en'.adv A2).set j (vl := .er c x) ⟨a, Ca, rfl, n1, .inl ⟨dx, u, upd_same, by rw [upd_ne hne]; exact hx, so.adv A2⟩⟩).unset i)
    · cases hh
end
end TI
set_option maxHeartbeats 200000
set_option maxHeartbeats 4000000
namespace TI
open PySem PySem.Spec PyProof.Rows L2
section
variable {G : Sg} {cx : Nat → List Vl → Mu → Option (XR × Mu)} {k : Nat} {b : Nat} {N : List Str}
theorem whl_ok {sc : Scope} {X : Cx} (C : Cxt G cx k N sc X) {c : Expr} {c' : Ex} {body : List Stmt} {body' : Sts} {n : Nat} {p : Pos} (hc : OkT X c (evalE (valC cx) b c')) (hB : OkB X body (execs cx b body')) : OkS X (.While c body [] p) (execS cx b (.whl n c' body')) := by
  intro r m fl m' hh σ F io H st en D Wx tk ends
  unfold execS at hh
  refine PS.ds (ps_while C.po (cT (X := X)) (cB (X := X))) ?_
  refine ⟨fun j σc Hc => ∃ F' io' μ rc, Adv X.K F io m F' io' μ Hc ∧ EnOk X.K F' io' μ.length σc rc ∧ whileLoop (fun r m => evalE (valC cx) b c' r m) (fun r m => execs cx b body' r m) j rc μ = some (fl, m'), ⟨n, F, io, m, r, Adv.refl st, en, hh⟩, fun j σc Hc w => ?_⟩
  obtain ⟨F1, io1, μ, rc, A, en1, hl⟩ := w
  cases j with
  | zero => cases hl
  | succ j =>
    unfold whileLoop at hl
    obtain ⟨⟨v, μ1⟩, e1, hl⟩ := bind_some hl
    dsimp only at hl
    split at hl
    · obtain ⟨⟨f, μ2⟩, e2, hl⟩ := bind_some hl
      dsimp only at hl
      refine hc rc μ true μ1 e1 σc F1 io1 Hc A.st en1 _ fun F2 io2 H2 A2 => ?_
      rw [if_pos rfl]
      have A3 := A.trans A2
      refine ⟨fun σ' H' => ∃ F' io' μ' rc', Adv X.K F io m F' io' μ' H' ∧ EnOk X.K F' io' μ'.length σ' rc' ∧ whileLoop (fun r m => evalE (valC cx) b c' r m) (fun r m => execs cx b body' r m) j rc' μ' = some (fl, m'), fun σ' H' h => ⟨j, Nat.lt_succ_self _, h⟩, ?_⟩
      refine hB rc μ1 f μ2 e2 σc F2 io2 H2 A2.st (en1.adv A2) _ Wx tk ?_
      cases f with
      | nx r' => exact fun σ' F' io' H' B en' => ⟨F', io', μ2, r', A3.trans B, en', hl⟩
      | ct r' => exact fun σ' F' io' H' B en' => ⟨F', io', μ2, r', A3.trans B, en', hl⟩
      | bk r' =>
        cases hl
        exact fun σ' F' io' H' B en' => ends σ' F' io' H' (A3.trans B) en'
      | rt v' =>
        cases hl
        exact fun v' F' io' H' B hv => ends v' F' io' H' (A3.trans B) hv
      | ex r' c x =>
        cases hl
        exact fun σ' C dx u F' io' H' B en' => ends σ' C dx u F' io' H' (A3.trans B) en'
    · cases hl
      refine hc rc μ false _ e1 σc F1 io1 Hc A.st en1 _ fun F2 io2 H2 A2 => ?_
      rw [if_neg Bool.false_ne_true]
      exact ends σc F2 io2 H2 (A.trans A2) (en1.adv A2)
    · cases hl
mutual
theorem sndS : ∀ {sc : Scope} {s : Stmt} {s' : St}, TrS G N sc s s' → ∀ {X : Cx}, Cxt G cx k N sc X → Sto X sc → Frm X → OkS X s (execS cx b s')
  | _, _, _, .set h1 h2 a hs, _, C, so, fr => set_ok C so h1 h2 (sndE a C) hs
  | _, _, _, .setc h1 hk hx hl ha hb ht hs s g a, _, C, so, fr => setc_ok C h1 hk hx hl ha hb ht hs (sndR s C) g fun s H A cl fp => sndE a (C.blk s H A cl fp)
  | _, _, _, .setcIf h1 hk hx hl ha hb ht hs s g t a, _, C, so, fr => setcIf_ok C h1 hk hx hl ha hb ht hs (sndR s C) g (fun s H A cl fp => sndT t (C.blk s H A cl fp)) fun s H A cl fp => sndE a (C.blk s H A cl fp)
  | _, _, _, .unp d a h1 h2 h3, _, C, so, fr => unp_ok C so d (sndE a C) h1 h2 h3
  | _, _, _, .par h1 h2 hij hp hs hs2 a c, _, C, so, fr => par_ok C h1 h2 hij hp hs hs2 (sndE a C) (sndE c C)
  | _, _, _, .par2 h1 h2 hx hy hp hs hs2 a c, _, C, so, fr => par2_ok C so h1 h2 hx hy hp hs hs2 (sndE a C) (sndE c C)
  | _, _, _, .app h1 h2 h3 hs hb hf hl hsw a, _, C, so, fr => app_ok C h1 h2 h3 hs hb hf hl hsw (sndE a C)
  | _, _, _, .ext h1 h2 h3 hs hb hf hl hsw a, _, C, so, fr => ext_ok C h1 h2 h3 hs hb hf hl hsw (sndE a C)
  | _, _, _, .put h1 h2 h3 y a ha hs hw h5, _, C, so, fr => put_ok C h1 h2 h3 (sndE y C) (sndE a C) ha hs hw h5
  | _, _, _, .exp a hs, _, C, so, fr => exp_ok (sndE a C) hs
  | _, _, _, .iff t x y, _, C, so, fr => iff_ok (sndT t C) (sndB x C so fr) (sndB y C so fr)
  | _, _, _, .forr hs g s x, _, C, so, fr => for_ok C so hs g (sndR s C) (sndB x C so fr)
  | _, _, _, .whl t x, _, C, so, fr => whl_ok C (sndT t C) (sndB x C so fr)
  | _, _, _, .ret a, _, C, _, _ => ret_ok (sndE a C)
  | _, _, _, .retn, _, _, _, _ => retn_ok
  | _, _, _, .pass, _, _, _, _ => pass_ok
  | _, _, _, .brk, _, _, _, _ => brk_ok
  | _, _, _, .cont, _, _, _, _ => cont_ok
  | _, _, _, .rai, _, _, _, _ => rai_ok
  | _, _, _, .putd h1 h2 h3 y a hs, _, C, _, _ => putd_ok C h1 h2 h3 (sndE y C) (sndE a C) hs
  | _, _, _, .par3 h1 h2 h3 i1 i2 i3 x1 x2 x3 s1 s2 s3 hw hsw a c e, _, C, _, _ => par3_ok C h1 h2 h3 i1 i2 i3 x1 x2 x3 s1 s2 s3 hw hsw (sndE a C) (sndE c C) (sndE e C)
  | _, _, _, .rs h1 h2 h3 hs a, _, C, _, _ => rs_ok C h1 h2 h3 hs (sndE a C)
  | _, _, _, .expx h1 h2 h3 l hs, _, C, _, _ => expx_ok C h1 h2 h3 (sndL l C) hs
  | _, _, _, .retx h1 h2 h3 l, _, C, _, _ => retx_ok C h1 h2 h3 (sndL l C)
  | _, _, _, .tri h1 h2 h3 h4 h5 hij h6 h7 h8 hsw x, _, C, so, fr => tri_ok C fr h1 h2 h3 h4 h5 hij h6 h7 h8 hsw fun pn xe po => sndB x (C.tr pn po) so ⟨fr.stk, fr.frm, fr.ex⟩
theorem sndB : ∀ {sc : Scope} {s : List Stmt} {s' : Sts}, TrB G N sc s s' → ∀ {X : Cx}, Cxt G cx k N sc X → Sto X sc → Frm X → OkB X s (execs cx b s')
  | _, _, _, .nil, _, _, _, _ => nilB_ok
  | _, _, _, .cons x y, _, C, so, fr => consB_ok (sndS x C so fr) (sndB y C so fr)
end
end
section
variable {K : PySem.W.Frag} {F F1 H H1 : Hp} {io io1 : Nat → Addr} {m m1 m' : Mu} {v vl : Vl} {x : V}
theorem take_adv (A : Adv K F io m F1 io1 m1 H1) : Adv K F io m F1 io1 (m1.take m.length) H1 := ⟨A.ff, A.ii, by rw [List.length_take]; have := A.ln; omega, A.st.take _⟩
theorem SOk.cut {n n' b : Nat} {u : V} {x : D ⊕ Nat} (h : SOk K F io n u x) (e : okX b x = true) (hb : b ≤ n') : SOk K F io n' u x := by
  cases x with
  | inl d => exact h
  | inr i =>
    have e : decide (i < b) = true := e
    have e := of_decide_eq_true e
    exact ⟨by omega, h.2⟩
theorem SsOk.cut {n n' b : Nat} {us : List V} {xs : List (D ⊕ Nat)} (h : SsOk K F io n us xs) (e : xs.all (okX b) = true) (hb : b ≤ n') : SsOk K F io n' us xs := by
  induction h with
  | nil => exact .nil
  | cons h _ ih =>
    simp only [List.all_cons, Bool.and_eq_true] at e
    exact .cons (h.cut e.1 hb) (ih e.2)
theorem fin_ok {kp : Bool} (A : Adv K F io m F1 io1 m1 H1) (hx : VlOk K F1 io1 m1.length x v) (e : fin kp m.length v m1 = some (vl, m')) : ∃ F2 io2, Adv K F io m F2 io2 m' H1 ∧ VlOk K F2 io2 m'.length x vl := by
  have ln := A.ln
  have short : ∀ {n : Nat}, n < m.length → x = .ref (io1 n) → ∃ F2 io2, Adv K F io m F2 io2 (m1.take m.length) H1 ∧ VlOk K F2 io2 (m1.take m.length).length x (.loc n) := fun {n} hn ex => ⟨F1, io1, take_adv A, by rw [List.length_take]; omega, ex⟩
  unfold fin at e
  cases v with
  | t d =>
    have e' : some (Vl.t d, m1.take m.length) = some (vl, m') := by cases kp <;> exact e
    cases e'
    exact ⟨F1, io1, take_adv A, hx⟩
  | loc n =>
    obtain ⟨hn, ex⟩ := hx
    cases kp with
    | false =>
      simp only [Bool.false_eq_true, if_false] at e
      split at e
      · rename_i h
        cases e
        exact short h ex
      · split at e
        · rename_i c q
          cases e
          obtain ⟨F2, A2, ix⟩ := A.st.freeze q
          have A3 := take_adv (A.trans A2)
          have et : (m1.set n c.freeze).take m.length = m1.take m.length := by
            rw [List.take_set_of_le (by omega)]
          rw [et] at A3
          exact ⟨F2, io1, A3, by rw [ex]; exact ix⟩
        · cases e
    | true =>
      simp only [if_true] at e
      split at e
      · rename_i h
        cases e
        exact short h ex
      · split at e
        · rename_i xs q
          cases e
          have hl : (m1.take m.length).length = m.length := by rw [List.length_take]; omega
          have s := A.st
          refine ⟨F1, nio io1 m.length (io1 n), ⟨A.ff, fun j hj => (if_neg (Nat.ne_of_lt hj)).trans (A.ii j hj), by simp; omega, s.sub, fun i c h => ?_, fun i j hi hj z => ?_⟩, by simp; omega, ex.trans (congrArg V.ref (if_pos rfl).symm)⟩
          · by_cases hi : i < m.length
            · rw [List.getElem?_append_left (by omega), List.getElem?_take, if_pos hi] at h
              show CellS K F1 H1 (if i = m.length then io1 n else io1 i) c
              rw [if_neg (Nat.ne_of_lt hi)]
              exact s.cell i c h
            · have e2 : i = m.length := by
                have := (List.getElem?_eq_some_iff.mp h).1
                simp at this
                omega
              subst e2
              rw [List.getElem?_append_right (by omega), hl] at h
              simp at h
              subst h
              show CellS K F1 H1 (if m.length = m.length then io1 n else io1 m.length) (.lst xs false)
              rw [if_pos rfl]
              exact s.cell n _ q
          · simp at hi hj
            have h1 : i ≤ m.length := by omega
            have h2 : j ≤ m.length := by omega
            unfold nio at z
            by_cases c1 : i = m.length <;> by_cases c2 : j = m.length
            · omega
            · rw [if_pos c1, if_neg c2] at z
              have := s.inj n j hn (by omega) z
              omega
            · rw [if_neg c1, if_pos c2] at z
              have := s.inj i n (by omega) hn z
              omega
            · rw [if_neg c1, if_neg c2] at z
              exact s.inj i j (by omega) (by omega) z
        · cases e
  | er c x0 =>
    cases kp with
    | true => exact absurd e (by simp)
    | false =>
      simp only [Bool.false_eq_true, if_false] at e
      split at e
      · rename_i h
        cases e
        obtain ⟨a, Ca, rfl, n1, hob⟩ := hx
        rcases hob with ⟨dx, u, ha, hd, so⟩ | ⟨hb, hx0, ha⟩
        · exact ⟨F1, io1, take_adv A, a, Ca, rfl, n1, .inl ⟨dx, u, ha, hd, so.cut h (by rw [List.length_take]; omega)⟩⟩
        · exact ⟨F1, io1, take_adv A, a, Ca, rfl, n1, .inr ⟨hb, hx0, ha⟩⟩
      · cases e
  | tv xs =>
    cases kp with
    | true => exact absurd e (by simp)
    | false =>
      simp only [Bool.false_eq_true, if_false] at e
      split at e
      · rename_i h
        cases e
        obtain ⟨a, us, rfl, ht, so⟩ := hx
        exact ⟨F1, io1, take_adv A, a, us, rfl, ht, so.cut h (by rw [List.length_take]; omega)⟩
      · cases e
theorem finX_ok {c : Str} {x0 : D ⊕ Nat} {q : XR} {u : V} (A : Adv K F io m F1 io1 m1 H1) (hx : SOk K F1 io1 m1.length u x0) (e : finX m.length c x0 m1 = some (q, m')) : q = .ex c x0 ∧ Adv K F io m F1 io1 m' H1 ∧ SOk K F1 io1 m'.length u x0 := by
  unfold finX at e
  split at e
  · rename_i h
    cases e
    have ln := A.ln
    exact ⟨rfl, take_adv A, hx.cut h (by rw [List.length_take]; omega)⟩
  · cases e
end
theorem fn_g {P : Program} {w : World} {K : PySem.W.Frag} {mg : Str → Option Value} {base : Heap} {k : Nat} {f : Addr} {fd : FuncData} {qual x : Str} {st : Stmt} {N ps : List Str} {sp : Sp} (Fx : L2.Fun K x qual st f fd) (S : FnScope N ps (defScope st)) (len : ∀ vs H Q E, sp vs H Q E → vs.length = ps.length)
    (hbody : ∀ (cdv : Value) (A : Around) (outer : List Env) (s : Shared) (H : Hp) (vs : List V) (Q : VK) (E : XK), Room k (A.deeper (envOfC qual (defScope st) s.heap.objs.size f cdv)) → A.guards = some [] → sp vs H Q E →
      DB (cxOf (L2.CX P w) P w K mg base N qual (defScope st) f cdv A outer s H E) (defBody st) { nx := fun _ H' => Q .non H', rt := Q } (L2.start N vs) H) :
    FnG P w K mg base (k + 1) f fd ps sp := by
  obtain ⟨oc, od, kV, doc, pm, an, cdv, ct, osl, rfl, lk, hcd⟩ := Fx.ex
  constructor
  · exact len
  intro A outer s H args us vs Q E hr hg e0 hb r hsp
  have lv := len vs H Q E hsp
  have inS : ∀ {b : Addr} {o : Obj}, base.get? b = some o → s.heap.get? b = some o := fun {b o} e => (e0.bs b o e).1
  have KX : K.In s.heap := e0.mod.kin.keeps fun _ _ e => inS e
  have lim : s.heap.NoLimit := e0.mod.nolimit.keeps fun _ _ e => inS e
  have kinds : ∀ y ∈ ps.zip us, (defScope st).names.lookup y.1 = some .local ∨ ((defScope st).names.lookup y.1 = some .cell ∧ ((cellsFrom (s.heap.objs.size + 1) (defScope st).names []).lookup y.1).isSome = true) := by
    intro y hy
    have hp := S.par y.1 (List.of_mem_zip (show (y.1, y.2) ∈ ps.zip us from hy)).1
    exact hp.imp_right fun q => ⟨q, PySem.W.cellsFrom_some _ _ _ (.inl q)⟩
  refine codeAny_call_function hr.depth (KX _ _ lk) rfl S.co S.gen rfl (PySem.W.codeRec_of KX hcd) (hb _ _ _ _ (wpAny_newFunctionEnv_cells S.kind kinds fun env he s1 x1 => ?_))
  cases he
  refine ⟨lim.keeps x1.toInCall.keep, codeAny_func ?_⟩
  have I : Inv (cxOf (L2.CX P w) P w K mg base N qual (defScope st) f cdv A outer s H E) [] (L2.start N vs) H s1 := inv_start S hr.hd e0 lv r x1
  have hB := hbody cdv A outer s H vs Q E (hr.deeper _) hg hsp
  have run := (cB (X := cxOf (L2.CX P w) P w K mg base N qual (defScope st) f cdv A outer s H E)).run [] s1 (L2.start N vs) H _ I hB
  refine wpAny_mono run (fun fl s' q => ?_) fun _ _ z => z
  have fine : ∀ {σ' : L2.St} {H' : Hp} {v : V} {u : Value}, Inv (cxOf (L2.CX P w) P w K mg base N qual (defScope st) f cdv A outer s H E) [] σ' H' s' → RelV v u → Q v H' → CE outer P w H s Q u s' :=
    fun {σ' H' v u} J rv q => ⟨v, H', J.os, J.bare, J.base, J.hok, rv, q⟩
  cases fl with
  | next => obtain ⟨σ', H', J, q⟩ := q; exact fine (v := V.non) (u := Value.none) J rfl q
  | ret u => obtain ⟨v, σ', H', J, rv, q⟩ := q; exact fine J rv q
  | brk => exact q.elim fun _ q => q.elim fun _ q => q.2.elim
  | cont => exact q.elim fun _ q => q.elim fun _ q => q.2.elim
structure Fct (G : Sg) (P : List Fn) (K : PySem.W.Frag) (x : Str) (f : Nat) (a : Addr) (fd : FuncData) (N ps : List Str) (st : Stmt) (fn : Fn) (tr : TrB G N (defScope st) (defBody st) fn.body) : Prop where
  fx : L2.Fun K x x st a fd
  at' : P[f]? = some fn
  np : fn.np = ps.length
  nl : fn.nl = N.length
  sc : FnScope N ps (defScope st)
  bi : Binds K fd ps []
  kw : ∀ ks ix, (f, ks, ix) ∈ G.kw → KwB K fd ps ks ix
theorem callX_len {P : List Fn} {f : Nat} {fn : Fn} (h : P[f]? = some fn) {k : Nat} {ls : List Vl} {m : Mu} {q : XR × Mu} (e : callX P k f ls m = some q) : ls.length = fn.np := by
  cases k with
  | zero => cases e
  | succ k =>
    unfold callX at e
    rw [h] at e
    dsimp only at e
    split at e
    · rename_i hc
      simp only [Bool.and_eq_true, decide_eq_true_eq] at hc
      exact hc.1
    · cases e
theorem okR_some {o : Option (Vl × Mu)} {q : XR} {m : Mu} (h : okR o = some (q, m)) : ∃ v, q = .ok v ∧ o = some (v, m) := by
  cases o with
  | none => cases h
  | some p => cases h; exact ⟨_, rfl, rfl⟩
theorem fct_g {G : Sg} {P : List Fn} {Pr : Program} {w : World} {K : PySem.W.Frag} {mg : Str → Option Value} {base : Heap} {x : Str} {f : Nat} {a : Addr} {fd : FuncData} {N ps : List Str} {st : Stmt} {fn : Fn} {tr : TrB G N (defScope st) (defBody st) fn.body} (T : Fct G P K x f a fd N ps st fn tr) {k : Nat}
    (M : Md G (callX P k) k Pr w K mg base) : FnG Pr w K mg base (k + 1) a fd ps (spX K (callX P (k + 1) f) ps.length) := by
  refine fn_g T.fx T.sc (fun vs H Q E h => h.1) (fun cdv A outer s H vs Q E hr hg hsp => ?_)
  obtain ⟨hl, F, io, m, ls, vl, m', st0, ok, hc, q⟩ := hsp
  unfold callX at hc
  rw [T.at'] at hc
  dsimp only at hc
  split at hc
  · rename_i hcnd
    simp only [Bool.and_eq_true, decide_eq_true_eq] at hcnd
    have C : Cxt G (callX P k) k N (defScope st) (cxOf (L2.CX Pr w) Pr w K mg base N x (defScope st) a cdv A outer s H E) := ⟨rfl, T.sc.nd, rfl, rfl, hr, hg, passes_of rfl, M⟩
    have so : Sto (cxOf (L2.CX Pr w) Pr w K mg base N x (defScope st) a cdv A outer s H E) (defScope st) := fun y hy => by
      refine ⟨?_, .inl rfl⟩
      show (defScope st).names.lookup y = some .local ∨ (defScope st).names.lookup y = some .cell
      unfold locB at hy
      split at hy
      · exact .inl (by assumption)
      · exact .inr (by assumption)
      · cases hy
    have tk : Takes (cxOf (L2.CX Pr w) Pr w K mg base N x (defScope st) a cdv A outer s H E) (fun cls d _ H => E cls d H) := takes_of rfl rfl rfl rfl
    have en : EnOk K F io m.length (L2.start N vs) (ls.map some ++ List.replicate (fn.nl - fn.np) none) := by
      have e1 : N.length - vs.length = fn.nl - fn.np := by rw [T.nl, T.np, hl]
      show EnOk K F io m.length (vs.map some ++ List.replicate (N.length - vs.length) none) _
      rw [e1]
      exact EnOk.start ok _
    have body := sndB (cx := callX P k) (k := k) (b := m.length) tr C so ⟨rfl, rfl, rfl⟩
    split at hc
    · rename_i v m1 he
      obtain ⟨vl, rfl, hf⟩ := okR_some hc
      refine body _ m _ m1 he _ F io H st0 en _ _ tk fun v' F' io' H' A hv => ?_
      obtain ⟨F2, io2, A2, hv2⟩ := fin_ok A hv hf
      exact q v' F2 io2 H' A2 hv2
    · rename_i r1 m1 he
      obtain ⟨vl, rfl, hf⟩ := okR_some hc
      refine body _ m _ m1 he _ F io H st0 en _ _ tk fun σ' F' io' H' A _ => ?_
      obtain ⟨F2, io2, A2, hv2⟩ := fin_ok (x := .non) (v := .t .none) A .non hf
      exact q .non F2 io2 H' A2 hv2
    · rename_i r1 c x0 m1 he
      refine body _ m _ m1 he _ F io H st0 en _ _ tk fun σ' Ca dx u F' io' H' A _ n1 hx sx => ?_
      obtain ⟨rfl, A2, s2⟩ := finX_ok A sx hc
      exact q Ca dx u F' io' H' A2 n1 hx s2
    · cases hc
  · cases hc
structure ErF (G : Sg) (P : Program) (K : PySem.W.Frag) (mg : Str → Option Value) : Prop where
  er : ∀ nm, G.er.contains nm = true → ∃ C fI, PySem.W.nsIn K mainGlobals nm = some (some (.ref C)) ∧ PySem.ErX.ErTxt P K mg nm C fI
  cl : ∀ x cs, (x, cs) ∈ G.cl → ∃ C1, mg x = some (.ref C1) ∧ (∀ nm b, cs.lookup nm = some b → (G.er.contains nm = true ∨ G.eb.contains nm = true) ∧ ∀ C, PySem.W.nsIn K mainGlobals nm = some (some (.ref C)) → PySem.W.kitOne K (.ref C) (.ref C1) = some b) ∧
    ∀ S ∈ ["NoneType", "bool", "int", "str", "list", "tuple", "dict"], PySem.W.kitOne K (.type S) (.ref C1) = some false
  base : ∀ x, G.base.contains x = true → ∃ B, mg x = some (.ref B) ∧ ∀ nm C, G.er.contains nm = true → PySem.W.nsIn K mainGlobals nm = some (some (.ref C)) → PySem.W.exmOne K (.ref C) (.ref B) = some true
  eb : ∀ nm, G.eb.contains nm = true → ∃ C, PySem.W.nsIn K mainGlobals nm = some (some (.ref C)) ∧ PySem.ErX.BtTxt K mg nm C
theorem ErF.none {G : Sg} {P : Program} {K : PySem.W.Frag} {mg : Str → Option Value} (h1 : G.er = []) (h2 : G.cl = []) (h3 : G.base = []) (h4 : G.eb = []) : ErF G P K mg :=
  ⟨fun nm h => (by rw [h1] at h; cases h), fun x cs h => (by rw [h2] at h; cases h), fun x h => (by rw [h3] at h; cases h), fun x h => (by rw [h4] at h; cases h)⟩
theorem md_all {G : Sg} {P : List Fn} {Pr : Program} {w : World} {K : PySem.W.Frag} {mg : Str → Option Value} {base : Heap} (con : ∀ (i : Nat) x d, G.con[i]? = some (x, d) → ∃ u v, mg x = some u ∧ RelV v u ∧ Is K (fun _ => none) v d) (bi : ∀ x, G.bi.contains x = true → mg x = none)
    (fs : ∀ x f, G.fn.lookup x = some f → ∃ a fd N ps st fn, mg x = some (.ref a) ∧ ∃ tr, Fct G P K x f a fd N ps st fn tr) (er : ErF G Pr K mg) : ∀ k, Md G (callX P k) k Pr w K mg base
  | 0 => ⟨con, bi, fun x f h => by
    obtain ⟨a, fd, N, ps, st, fn, hm, tr, T⟩ := fs x f h
    refine ⟨a, fd, ps, hm, T.fx.kp, T.bi, ⟨fun vs H Q E h => h.1, ?_⟩, fun ls m q e => (callX_len T.at' e).trans T.np, T.kw⟩
    intro A outer s H args us vs Q E hr hg e0 hb r hsp
    obtain ⟨_, F, io, m, ls, vl, m', _, _, h, _⟩ := hsp
    exact absurd h (fun z => nomatch z), er.er, er.cl, er.base, er.eb⟩
  | k + 1 => ⟨con, bi, fun x f h => by
    obtain ⟨a, fd, N, ps, st, fn, hm, tr, T⟩ := fs x f h
    exact ⟨a, fd, ps, hm, T.fx.kp, T.bi, fct_g T (md_all con bi fs er k), fun ls m q e => (callX_len T.at' e).trans T.np, T.kw⟩, er.er, er.cl, er.base, er.eb⟩
end TI
set_option maxHeartbeats 200000
set_option maxHeartbeats 4000000
namespace TI
open PySem PySem.Spec PyProof.Rows L2
theorem isL_ints {K : PySem.W.Frag} {F : Hp} : ∀ ns : List Int, IsL K F (ns.map V.int) (ns.map PyData.int)
  | [] => .nil
  | n :: ns => .cons (.int n) (isL_ints ns)
section
variable {P : Program} {w : World} {K : PySem.W.Frag} {mg mb : Str → Option Value} {k : Nat} {fa a : Addr} {fd : FuncData} {x : Str} {s₁ : Shared} {vs : List Value} {ns : List Int} {cx : List Vl → Mu → Option (XR × Mu)}
abbrev Told (s₁ : Shared) (r : Result) (s' : Shared) : Prop := r = .ok (.ret (.bool true)) ∧ OldK s₁.heap s'.heap ∧ s'.os = s₁.os ∧ AllBare s'.gens
theorem told_of {H : Hp} (kin : K.In s₁.heap) (gl : s₁.heap.Ns mainGlobals mg) (bl : s₁.heap.Ns builtinsNs mb) (same : ∀ x : Str, x ≠ "__name__" → mb x = bootBuiltins x) (lim : s₁.heap.NoLimit) (none_ : s₁.gens = #[])
    (ha : s₁.heap.get? a = some { cls := .type "list", data := .seq vs.toArray }) (hr : Room k callerA) (F : ∀ base : Heap, FnG P w K mg base k fa fd [x] (spX K cx 1)) (hbind : ∀ (s : Shared) (u : Value), BindsTo s fd ⟨[u], []⟩ [(x, u)])
    (ends : cx [.t (.list (ns.map PyData.int))] [] = some (.ok (.t (.bool true)), []))
    (only : ∀ b, H b = none ∨ ∃ o xs, H b = some (.frz o (.lst xs))) (hS : SqL K H a (ns.map V.int)) (hok : HOk P w H s₁.heap) (onlyA : ∀ b, H b ≠ none → b = a) (notK : H a ≠ none → K.lookup a = none) :
    codeAny (model P w) callerA (.call (.ref fa) ⟨[.ref a], []⟩) (Told s₁) s₁ := by
  have out : ∀ {b : Addr} {o : Obj}, b ≠ a → s₁.heap.get? b = some o → (hidT s₁.heap H).get? b = some o := fun {b o} n e => hidT_get e (by
    cases q : H b with
    | none => rfl
    | some u => exact absurd (onlyA b (by rw [q]; exact Option.some_ne_none u)) n)
  have nsOut : ∀ {b : Addr} {m : Str → Option Value}, s₁.heap.Ns b m → (hidT s₁.heap H).Ns b m := by
    rintro b m ⟨o, es, ep, e, d, r⟩
    refine ⟨o, es, ep, out (fun z => ?_) e, d, r⟩
    rw [z, ha] at e
    cases e
    exact Data.noConfusion (show Data.seq vs.toArray _ = Data.dict es ep from d)
  have kinB : K.In (hidT s₁.heap H) := fun b o e => by
    by_cases z : b = a
    · refine hidT_get (kin b o e) ?_
      cases q : H b with
      | none => rfl
      | some u =>
        rw [z] at q e
        rw [notK (by rw [q]; exact Option.some_ne_none u)] at e
        cases e
    · exact out z (kin b o e)
  obtain ⟨mc, l1, l2⟩ := lim
  have md : Mod K mg (hidT s₁.heap H) := ⟨kinB, nsOut gl, ⟨mb, nsOut bl, same⟩, ⟨mc, nsOut l1, l2⟩⟩
  have e0 : Env0 P w K mg (hidT s₁.heap H) callerA [] s₁ H := ⟨rfl, md, fun b o e => of_hidT e, Nat.le_of_eq (hidT_size _ _), trivial, fun b hb => absurd hb List.not_mem_nil, hok, .of_eq none_⟩
  have sp : spX K cx 1 [.ref a] H (fun v _ => v = .bl true) NoE := by
    refine ⟨rfl, H, fun _ => a, [], [.t (.list (ns.map PyData.int))], _, [], ⟨Le.refl H, fun n c h => ?_, fun i j h => absurd h (Nat.not_lt_zero _)⟩, .cons (Is.lst hS (isL_ints ns)) .nil, ends, fun v F' io' H' _ h => ?_⟩
    · cases h
    · cases h; rfl
  refine codeAny_mono ((F (hidT s₁.heap H)).run callerA [] s₁ H ⟨[.ref a], []⟩ [.ref a] [.ref a] _ _ hr rfl e0 (hbind s₁ (.ref a)) (.cons rfl .nil) sp) fun r s' h => ?_
  rcases r with e | ⟨⟩ | ⟨⟩ | ⟨⟩ | u
  · obtain ⟨_, _, _, _, _, _, _, _, _, _, _, _, z⟩ := h
    exact False.elim z
  all_goals first | exact False.elim h | skip
  all_goals
    obtain ⟨v, H', os, bare, un, hok', rv, rfl⟩ := h
    cases rv
    refine ⟨rfl, OldK.of_keep fun b o e => ?_, os, bare⟩
    rcases only b with z | ⟨ob, xs, z⟩
    · exact un.keep b o e z (fun q => absurd q List.not_mem_nil) (fun q => absurd q List.not_mem_nil)
    · have e1 := (hok b _ z).1
      have e2 := (hok' b _ (un.frzs b ob _ z)).1
      exact e2.trans (e1.symm.trans e)
theorem told {hl : ns.length ≤ sizeLine} (kin : K.In s₁.heap) (gl : s₁.heap.Ns mainGlobals mg) (bl : s₁.heap.Ns builtinsNs mb) (same : ∀ x : Str, x ≠ "__name__" → mb x = bootBuiltins x) (lim : s₁.heap.NoLimit) (none_ : s₁.gens = #[])
    (ha : s₁.heap.get? a = some { cls := .type "list", data := .seq vs.toArray }) (hi : IntsAre vs ns) (hr : Room k callerA) (F : ∀ base : Heap, FnG P w K mg base k fa fd [x] (spX K cx 1)) (hbind : ∀ (s : Shared) (u : Value), BindsTo s fd ⟨[u], []⟩ [(x, u)])
    (ends : cx [.t (.list (ns.map PyData.int))] [] = some (.ok (.t (.bool true)), [])) : codeAny (model P w) callerA (.call (.ref fa) ⟨[.ref a], []⟩) (Told s₁) s₁ := by
  have rv := vals_ints hi
  have nv : vs.length = ns.length := hi.length
  cases hk : K.lookup a with
  | some o =>
    obtain rfl : o = { cls := .type "list", data := .seq vs.toArray } := Option.some.inj ((kin a o hk).symm.trans ha)
    exact told_of (H := fun _ => none) kin gl bl same lim none_ ha hr F hbind ends (fun _ => .inl rfl) (.inr ⟨_, vs.toArray, _, hk, rfl, rfl, rfl, by rw [List.size_toArray, nv]; exact hl, by simpa using rv⟩)
      (fun b u z => by cases (show (none : Option HO) = some u from z)) (fun b z => absurd rfl z) fun z => absurd rfl z
  | none =>
    let H : Hp := fun b => if b = a then some (.frz { cls := .type "list", data := .seq vs.toArray } (.lst (ns.map V.int))) else none
    have hat : ∀ b, H b ≠ none → b = a := fun b z => Decidable.byContradiction fun n => z (if_neg n)
    have hH : H a = some (.frz { cls := .type "list", data := .seq vs.toArray } (.lst (ns.map V.int))) := if_pos rfl
    refine told_of (H := H) kin gl bl same lim none_ ha hr F hbind ends (fun b => ?_) (.inl (.inr ⟨_, hH⟩)) (fun b u z => ?_) hat fun _ => hk
    · by_cases n : b = a
      · exact .inr ⟨_, _, if_pos n⟩
      · exact .inl (if_neg n)
    · obtain rfl : b = a := hat b (by rw [z]; exact Option.some_ne_none u)
      rw [hH] at z
      cases z
      exact ⟨ha, by rw [List.length_map]; exact hl, vs, _, rv, ha⟩
end
theorem law_end {l : PySem.W.OpenLaw} {n k : Nat} {q : Program} {loose : List Str} {XP : (Str → Option Value) → Heap → Prop} {YP : World → Heap → Prop} {d : DefRec} {K : Params → PySem.W.Frag} {x : Str} {cx : List Vl → Mu → Option (XR × Mu)}
    (hn : l.most = some n) (hn2 : n ≤ sizeLine) (hdf : d.params.defaults = []) (hr : Room k callerA) (hY : ∀ (w : World) (h : Heap), YP w h → (K w.params).In h)
    (F : ∀ (w : World) (mg : Str → Option Value) (fa : Addr) (h : Heap), (K w.params).In h → h.Ns mainGlobals mg → mg d.name = some (.ref fa) →
      ∃ fd : FuncData, (∀ (s : Shared) (u : Value), BindsTo s fd ⟨[u], []⟩ [(x, u)]) ∧ ∀ base : Heap, FnG l.prog w (K w.params) mg base k fa fd [x] (spX (K w.params) cx 1))
    (ends : ∀ ns : List Int, ns.length ≤ n → cx [.t (.list (ns.map PyData.int))] [] = some (.ok (.t (.bool true)), [])) :
    PySem.W.WalkO q loose XP YP l.row.toRowW d [] (fun f vs => PySem.call f vs) := by
  refine Att.attach_call hn hdf fun w s₀ s₁ mg mb fa o pm cd doc a vs ns G Y ho hd hcd hmg hobj hints hlen hg => ?_
  have kin := hY w _ Y
  obtain ⟨fd, hb, hF⟩ := F w mg fa _ kin G.T.g hmg
  exact told (hl := Nat.le_trans hlen hn2) kin G.T.g G.T.b G.T.builtins G.T.nolimit hg hobj hints hr hF hb (ends ns hlen)
end TI
set_option maxHeartbeats 200000
namespace TI
open PySem PySem.Spec PyProof.Rows L2
def AllF (Q : Str → Nat → Prop) : List (Str × Nat) → Prop
  | [] => True
  | p :: r => Q p.1 p.2 ∧ AllF Q r
def AllC (Q : Str → D → Prop) : List (Str × D) → Prop
  | [] => True
  | p :: r => Q p.1 p.2 ∧ AllC Q r
def AllB (Q : Str → Prop) : List Str → Prop
  | [] => True
  | p :: r => Q p ∧ AllB Q r
theorem AllF.at {Q : Str → Nat → Prop} : ∀ {l : List (Str × Nat)}, AllF Q l → ∀ x f, l.lookup x = some f → Q x f
  | [], _, x, f, h => by cases h
  | (y, g) :: r, ⟨h1, h2⟩, x, f, h => by
    rw [List.lookup_cons] at h
    split at h
    · rename_i e
      cases h
      rw [eq_of_beq e]; exact h1
    · exact h2.at x f h
theorem AllC.at {Q : Str → D → Prop} : ∀ {l : List (Str × D)}, AllC Q l → ∀ (i : Nat) x d, l[i]? = some (x, d) → Q x d
  | [], _, i, x, d, h => by simp at h
  | (y, g) :: r, ⟨h1, h2⟩, 0, x, d, h => by
    simp at h
    obtain ⟨rfl, rfl⟩ := h
    exact h1
  | (y, g) :: r, ⟨h1, h2⟩, i + 1, x, d, h => h2.at i x d (by simpa using h)
theorem AllB.at {Q : Str → Prop} : ∀ {l : List Str}, AllB Q l → ∀ x, l.contains x = true → Q x
  | [], _, x, h => by cases h
  | y :: r, ⟨h1, h2⟩, x, h => by
    rw [List.contains_cons] at h
    rcases Bool.or_eq_true_iff.mp h with e | e
    · rw [eq_of_beq e]; exact h1
    · exact h2.at x e
section
variable {K : PySem.W.Frag} {mg : Str → Option Value} {x : Str}
def ConAt (K : PySem.W.Frag) (mg : Str → Option Value) (x : Str) (d : D) : Prop := ∃ u v, mg x = some u ∧ RelV v u ∧ Is K (fun _ => none) v d
theorem con_int {i : Int} {t : Tok} (h : mg x = some (.int i t)) : ConAt K mg x (.int i) := ⟨_, .int i, h, ⟨t, rfl⟩, .int i⟩
theorem con_str {i : Str} {t : Tok} (h : mg x = some (.str i t)) : ConAt K mg x (.str i) := ⟨_, .str i, h, ⟨t, rfl⟩, .str i⟩
theorem con_list {a : Addr} {its : Array Value} {n : Nat} {sl : Array (Option Value)} {xs : List V} {ds : List D} (h : mg x = some (.ref a)) (l : K.lookup a = some ⟨.type "list", none, .seq its n, sl⟩) (hz : its.size ≤ sizeLine) (hv : Vals xs its.toList) (hi : IsL K (fun _ => none) xs ds) : ConAt K mg x (.list ds) :=
  ⟨.ref a, .ref a, h, rfl, .lst (.inr ⟨_, its, n, l, rfl, rfl, rfl, hz, hv⟩) hi⟩
theorem isL_strs {F : Hp} : ∀ ns : List Str, IsL K F (ns.map V.str) (ns.map PyData.str)
  | [] => .nil
  | n :: ns => .cons (.str n) (isL_strs ns)
theorem kwb {y qual : Str} {st : Stmt} {f : Addr} {fd : FuncData} {ps ks : List Str} {ix : List Nat} (F : L2.Fun K y qual st f fd) (h1 : ix.length = ps.length) (h2 : ∀ i ∈ ix, i < ks.length)
    (h : ∀ (kV doc pm : Value) (an : Option Addr) (cdv ct : Value) (ws : List Value), ws.length = ks.length → bindArgs (PySem.W.fnOf y qual (defArgs st) (defBody st) (defScope st) .none kV doc pm an cdv ct) ⟨[], ks.zip ws⟩ = pure (ps.zip (ix.filterMap fun i => ws[i]?))) : KwB K fd ps ks ix := by
  obtain ⟨oc, od, kV, doc, pm, an, cdv, ct, osl, rfl, lk, hcd⟩ := F.ex
  exact ⟨h1, h2, fun s ws _ hl => .of_eq (h kV doc pm an cdv ct ws hl)⟩
end
end TI
set_option maxHeartbeats 1000000
namespace TI
open PySem PySem.Spec PyProof.Rows L2 PySem.W PySem.ErX
section
variable {K : Frag} {C C1 B : Addr}
theorem kit_same : kitOne K (.ref C) (.ref C) = some true := by
  unfold kitOne
  rw [if_pos (by simp)]
theorem kit_other (h0 : mroIn K C (.ref C) = some true) (h : subIn K (.ref C) (.ref C1) = some false) (hc : isClsIn K C1 = true) (ht : typeIn K (.ref C1) = some (.type "type")) : kitOne K (.ref C) (.ref C1) = some false := by
  have ne : C ≠ C1 := fun e => by
    subst e
    have h : mroIn K C (.ref C) = some false := h
    rw [h0] at h
    cases h
  have hc : (clsIn K C1).isSome = true := hc
  unfold kitOne
  rw [if_neg (by simpa using ne)]
  show (if ((clsIn K C1).isSome && typeIn K (.ref C1) == some (.type "type")) = true then subIn K (.ref C) (.ref C1) else none) = _
  rw [hc, ht, h]
  rfl
theorem kit_subc (h : subIn K (.ref C) (.ref C1) = some true) (hc : isClsIn K C1 = true) (ht : typeIn K (.ref C1) = some (.type "type")) : kitOne K (.ref C) (.ref C1) = some true := by
  have hc : (clsIn K C1).isSome = true := hc
  unfold kitOne
  split
  · rfl
  · show (if ((clsIn K C1).isSome && typeIn K (.ref C1) == some (.type "type")) = true then subIn K (.ref C) (.ref C1) else none) = _
    rw [hc, ht, h]
    rfl
theorem kit_data (hc : isClsIn K C1 = true) (ht : typeIn K (.ref C1) = some (.type "type")) : ∀ S ∈ ["NoneType", "bool", "int", "str", "list", "tuple", "dict"], kitOne K (.type S) (.ref C1) = some false := by
  have hc : (clsIn K C1).isSome = true := hc
  have go : ∀ S : String, subIn K (.type S) (.ref C1) = some false → kitOne K (.type S) (.ref C1) = some false := fun S h => by
    unfold kitOne
    rw [if_neg (by simp)]
    show (if ((clsIn K C1).isSome && typeIn K (.ref C1) == some (.type "type")) = true then subIn K (.type S) (.ref C1) else none) = _
    rw [hc, ht, h]
    rfl
  intro S hS
  simp only [List.mem_cons, List.not_mem_nil, or_false] at hS
  rcases hS with rfl | rfl | rfl | rfl | rfl | rfl | rfl <;> exact go _ rfl
theorem cls_is {nm q : Str} {N : Addr} {bs bm : List Value} {sn : List Str} {sub : List Value} {ab : Bool} {col : Option Bool} {dd : Option Addr} {k0 k1 k2 k3 k5 : Option Value} {nw : String} (xL : K.lookup C = some (excClassObj nm q C N bs bm true sn sub ab col dd k0 k1 k2 k3 k5 nw)) :
    ∃ cd, clsIn K C = some cd ∧ cd.mro = .ref C :: bm := by
  unfold clsIn
  rw [xL]
  exact ⟨_, rfl, rfl⟩
theorem find_mro {name : Str} {cd : ClassData} (h : clsIn K C = some cd) : findIn K (.ref C) name = alongIn K name cd.mro := by
  unfold clsIn at h
  split at h
  · rename_i e
    cases h
    show (match K.lookup C with
      | some ⟨_, _, .cls cd, _⟩ => alongIn K name cd.mro
      | _ => none) = _
    rw [e]
  · cases h
theorem sup_of {nm q nmB qB : Str} {N NB : Addr} {bs bsB bmB : List Value} {sn snB : List Str} {sub subB : List Value} {ab abB : Bool} {col colB : Option Bool} {dd ddB : Option Addr} {k0 k1 k2 k3 k5 l0 l1 l2 l3 l5 : Option Value} {nw nwB : String} {name : Str} {v : Option Value}
    (xL : K.lookup C = some (excClassObj nm q C N bs (.ref B :: bmB) true sn sub ab col dd k0 k1 k2 k3 k5 nw)) (xB : K.lookup B = some (excClassObj nmB qB B NB bsB bmB true snB subB abB colB ddB l0 l1 l2 l3 l5 nwB)) (h : findIn K (.ref B) name = some v) : ks_superIn K C C name = some v := by
  obtain ⟨cd, e1, e2⟩ := cls_is xL
  obtain ⟨cB, e3, e4⟩ := cls_is xB
  unfold ks_superIn
  rw [e1]
  show alongIn K name ((cd.mro.dropWhile (· != .ref C)).drop 1) = some v
  rw [e2]
  have e5 : ((Value.ref C :: Value.ref B :: bmB).dropWhile (· != .ref C)).drop 1 = Value.ref B :: bmB := by simp
  rw [e5, ← e4, ← find_mro e3]
  exact h
theorem ini_of {nm q : Str} {N : Addr} {bs bm : List Value} {sn : List Str} {sub : List Value} {ab : Bool} {col : Option Bool} {dd : Option Addr} {k0 k1 k2 k3 k5 : Option Value} {nw : String} {bmB : List Value}
    (xL : K.lookup C = some (excClassObj nm q C N bs bm true sn sub ab col dd k0 k1 k2 k3 k5 nw)) (h : excTail bmB bm = true) : excInitIn K C bmB nw = true := by
  unfold excInitIn
  rw [xL]
  simp [excClassObj, h]
end
def AllK (Q : Str → Bool → Prop) : List (Str × Bool) → Prop
  | [] => True
  | p :: r => Q p.1 p.2 ∧ AllK Q r
theorem AllK.at {Q : Str → Bool → Prop} : ∀ {l : List (Str × Bool)}, AllK Q l → ∀ x f, l.lookup x = some f → Q x f
  | [], _, x, f, h => by cases h
  | (y, g) :: r, ⟨h1, h2⟩, x, f, h => by
    rw [List.lookup_cons] at h
    split at h
    · rename_i e
      cases h
      rw [eq_of_beq e]; exact h1
    · exact h2.at x f h
end TI
namespace TI
theorem isv_pre (e b : List PySem.Str) : ∀ nm, (e ++ b).contains nm = true → e.contains nm = true ∨ b.contains nm = true := fun nm h => by
  simpa using h
end TI
set_option maxHeartbeats 200000
namespace K01
open PySem PySem.Spec PyProof.Rows L2 TI
def top (i : Nat) : Stmt := PySem.Challenge.pw_cellbills_k01_errors_by_their_classes.main.body.getD i (.Pass ⟨0, 0, 0, 0⟩)
abbrev s0 : Stmt := top 22
abbrev n0 : List Str := ["_law_script", "_law_index"]
def b0 : Sts := (.cons (.iff (.op .lt (.cons (.var 1) (.cons (.op .len (.cons (.var 0) .nil)) .nil))) (.cons (.ret (.op .idx (.cons (.var 0) (.cons (.var 1) .nil))))
    .nil) .nil)
    (.cons (.ret (.op .mod (.cons (.op .sum (.cons (.new (.op .slHi (.cons (.var 0) (.cons (.con (.int 1)) .nil)))) .nil)) (.cons (.con (.int 1000003)) .nil))))
    .nil))
abbrev s1 : Stmt := top 23
abbrev n1 : List Str := ["_law_script", "_law_index", "_law_seed"]
def b1 : Sts := (.cons (.set 2 (.call 0 (.cons (.var 0) (.cons (.var 1) .nil))))
    (.cons (.ret (.mk (.lst (.cons (.op .mod (.cons (.op .toInt (.cons (.op .max2 (.cons (.op .sub (.cons (.var 2) (.cons (.op .pow (.cons (.con (.int 10)) (.cons (.con (.int 18)) .nil))) .nil))) (.cons (.con (.int 0)) .nil))) .nil)) (.cons (.op .pow (.cons (.op .pow (.cons (.con (.int 10)) (.cons (.con (.int 60)) .nil))) (.cons (.con (.int 10)) .nil))) .nil))) (.cons (.op .mod (.cons (.op .toInt (.cons (.var 2) .nil)) (.cons (.con (.int 2147483647)) .nil))) (.cons (.op .mul (.cons (.con (.int 1000)) (.cons (.var 1) .nil))) .nil))))))
    .nil))
abbrev s2 : Stmt := top 20
abbrev n2 : List Str := ["_law_seed", "_law_index", "_law_mixed"]
def b2 : Sts := (.cons (.set 2 (.op .mod (.cons (.op .toInt (.cons (.op .add (.cons (.op .add (.cons (.op .add (.cons (.op .mul (.cons (.var 0) (.cons (.con (.int 1140671)) .nil))) (.cons (.op .mul (.cons (.op .mul (.cons (.con (.int 27644437)) (.cons (.var 1) .nil))) (.cons (.var 1) .nil))) .nil))) (.cons (.op .mul (.cons (.con (.int 131)) (.cons (.var 1) .nil))) .nil))) (.cons (.con (.int 19)) .nil))) .nil)) (.cons (.con (.int 2147483629)) .nil))))
    (.cons (.set 2 (.op .mod (.cons (.op .toInt (.cons (.op .add (.cons (.op .add (.cons (.op .mul (.cons (.var 2) (.cons (.var 2) .nil))) (.cons (.op .mul (.cons (.con (.int 62089)) (.cons (.var 1) .nil))) .nil))) (.cons (.con (.int 32416187)) .nil))) .nil)) (.cons (.con (.int 2147483587)) .nil))))
    (.cons (.ret (.op .mod (.cons (.op .toInt (.cons (.op .mul (.cons (.var 2) (.cons (.con (.int 48271)) .nil))) .nil)) (.cons (.con (.int 2147483647)) .nil))))
    .nil)))
abbrev s3 : Stmt := top 21
abbrev n3 : List Str := ["_law_generator_here", "_law_bound", "_law_drawn", "_law_turn"]
def l3_0 : Sts := (.cons (.put 0 (.con (.int 2)) (.op .add (.cons (.op .idx (.cons (.var 0) (.cons (.con (.int 2)) .nil))) (.cons (.con (.int 1)) .nil))))
    (.cons (.set 2 (.op .add (.cons (.op .mul (.cons (.var 2) (.cons (.con (.int 2147483587)) .nil))) (.cons (.call 2 (.cons (.op .idx (.cons (.var 0) (.cons (.con (.int 1)) .nil))) (.cons (.op .idx (.cons (.var 0) (.cons (.con (.int 2)) .nil))) .nil))) .nil))))
    .nil))
def b3 : Sts := (.cons (.iff (.op .gt (.cons (.op .idx (.cons (.var 0) (.cons (.con (.int 0)) .nil))) (.cons (.con (.int 0)) .nil))) (.cons (.set 2 (.op .mod (.cons (.op .toInt (.cons (.op .idx (.cons (.var 0) (.cons (.con (.int 0)) .nil))) .nil)) (.cons (.var 1) .nil))))
    (.cons (.put 0 (.con (.int 0)) (.op .fdiv (.cons (.op .idx (.cons (.var 0) (.cons (.con (.int 0)) .nil))) (.cons (.var 1) .nil))))
    (.cons (.ret (.var 2))
    .nil))) .nil)
    (.cons (.set 2 (.con (.int 0)))
    (.cons (.forr (.one 3) (.range (.cons (.op .add (.cons (.con (.int 1)) (.cons (.op .fdiv (.cons (.op .bitlen (.cons (.var 1) .nil)) (.cons (.con (.int 30)) .nil))) .nil))) .nil)) l3_0)
    (.cons (.ret (.op .mod (.cons (.op .toInt (.cons (.var 2) .nil)) (.cons (.var 1) .nil))))
    .nil))))
abbrev s4 : Stmt := top 24
abbrev n4 : List Str := ["_law_which", "_law_value"]
def b4 : Sts := (.cons (.iff (.op .eq (.cons (.var 0) (.cons (.con (.int 0)) .nil))) (.cons (.ret (.mkE "InvalidNumber" (.var 1)))
    .nil) .nil)
    (.cons (.iff (.op .eq (.cons (.var 0) (.cons (.con (.int 1)) .nil))) (.cons (.ret (.mkE "InvalidKind" (.var 1)))
    .nil) .nil)
    (.cons (.iff (.op .eq (.cons (.var 0) (.cons (.con (.int 2)) .nil))) (.cons (.ret (.mkE "InvalidValue" (.var 1)))
    .nil) .nil)
    (.cons (.iff (.op .eq (.cons (.var 0) (.cons (.con (.int 3)) .nil))) (.cons (.ret (.mkE "InvalidProgram" (.var 1)))
    .nil) .nil)
    (.cons (.iff (.op .eq (.cons (.var 0) (.cons (.con (.int 4)) .nil))) (.cons (.ret (.mkE "InvalidName" (.var 1)))
    .nil) .nil)
    (.cons (.iff (.op .eq (.cons (.var 0) (.cons (.con (.int 5)) .nil))) (.cons (.ret (.mkE "InvalidBill" (.var 1)))
    .nil) .nil)
    (.cons (.iff (.op .eq (.cons (.var 0) (.cons (.con (.int 6)) .nil))) (.cons (.ret (.mkE "InvalidPaper" (.var 1)))
    .nil) .nil)
    (.cons (.iff (.op .eq (.cons (.var 0) (.cons (.con (.int 7)) .nil))) (.cons (.ret (.mkE "InvalidRows" (.var 1)))
    .nil) .nil)
    (.cons (.ret (.con .none))
    .nil)))))))))
abbrev s5 : Stmt := top 25
abbrev n5 : List Str := ["_law_which", "_law_value"]
def b5 : Sts := (.cons (.iff (.op .eq (.cons (.var 0) (.cons (.con (.int 8)) .nil))) (.cons (.ret (.mkE "InvalidText" (.var 1)))
    .nil) .nil)
    (.cons (.iff (.op .eq (.cons (.var 0) (.cons (.con (.int 9)) .nil))) (.cons (.ret (.mkE "InvalidUnit" (.var 1)))
    .nil) .nil)
    (.cons (.iff (.op .eq (.cons (.var 0) (.cons (.con (.int 10)) .nil))) (.cons (.ret (.mkE "InvalidList" (.var 1)))
    .nil) .nil)
    (.cons (.iff (.op .eq (.cons (.var 0) (.cons (.con (.int 11)) .nil))) (.cons (.ret (.mkE "InvalidDeed" (.var 1)))
    .nil) .nil)
    (.cons (.iff (.op .eq (.cons (.var 0) (.cons (.con (.int 12)) .nil))) (.cons (.ret (.mkE "InvalidFlag" (.var 1)))
    .nil) .nil)
    (.cons (.iff (.op .eq (.cons (.var 0) (.cons (.con (.int 13)) .nil))) (.cons (.ret (.mkE "Unlike" (.var 1)))
    .nil) .nil)
    (.cons (.iff (.op .eq (.cons (.var 0) (.cons (.con (.int 14)) .nil))) (.cons (.ret (.mkE "TooMany" (.var 1)))
    .nil) .nil)
    (.cons (.ret (.con .none))
    .nil))))))))
abbrev s6 : Stmt := top 26
abbrev n6 : List Str := ["_law_error", "_law_found"]
def b6 : Sts := (.cons (.set 1 (.new (.lst (.cons (.isx "InvalidNumber" [("InvalidNumber", true), ("InvalidKind", false), ("InvalidValue", false), ("InvalidProgram", false), ("InvalidName", false), ("InvalidBill", false), ("InvalidPaper", false), ("InvalidRows", false), ("InvalidText", false), ("InvalidUnit", false), ("InvalidList", false), ("InvalidDeed", false), ("InvalidFlag", false), ("Unlike", false), ("TooMany", false), ("NothingToUndo", false), ("NothingToRedo", false)] (.var 0)) (.cons (.isx "InvalidKind" [("InvalidNumber", false), ("InvalidKind", true), ("InvalidValue", false), ("InvalidProgram", false), ("InvalidName", false), ("InvalidBill", false), ("InvalidPaper", false), ("InvalidRows", false), ("InvalidText", false), ("InvalidUnit", false), ("InvalidList", false), ("InvalidDeed", false), ("InvalidFlag", false), ("Unlike", false), ("TooMany", false), ("NothingToUndo", false), ("NothingToRedo", false)] (.var 0)) (.cons (.isx "InvalidValue" [("InvalidNumber", false), ("InvalidKind", false), ("InvalidValue", true), ("InvalidProgram", false), ("InvalidName", false), ("InvalidBill", false), ("InvalidPaper", false), ("InvalidRows", false), ("InvalidText", false), ("InvalidUnit", false), ("InvalidList", false), ("InvalidDeed", false), ("InvalidFlag", false), ("Unlike", false), ("TooMany", false), ("NothingToUndo", false), ("NothingToRedo", false)] (.var 0)) (.cons (.isx "InvalidProgram" [("InvalidNumber", false), ("InvalidKind", false), ("InvalidValue", false), ("InvalidProgram", true), ("InvalidName", false), ("InvalidBill", false), ("InvalidPaper", false), ("InvalidRows", false), ("InvalidText", false), ("InvalidUnit", false), ("InvalidList", false), ("InvalidDeed", false), ("InvalidFlag", false), ("Unlike", false), ("TooMany", false), ("NothingToUndo", false), ("NothingToRedo", false)] (.var 0)) .nil)))))))
    (.cons (.set 1 (.op .add (.cons (.var 1) (.cons (.new (.lst (.cons (.isx "InvalidName" [("InvalidNumber", false), ("InvalidKind", false), ("InvalidValue", false), ("InvalidProgram", false), ("InvalidName", true), ("InvalidBill", false), ("InvalidPaper", false), ("InvalidRows", false), ("InvalidText", false), ("InvalidUnit", false), ("InvalidList", false), ("InvalidDeed", false), ("InvalidFlag", false), ("Unlike", false), ("TooMany", false), ("NothingToUndo", false), ("NothingToRedo", false)] (.var 0)) (.cons (.isx "InvalidBill" [("InvalidNumber", false), ("InvalidKind", false), ("InvalidValue", false), ("InvalidProgram", false), ("InvalidName", false), ("InvalidBill", true), ("InvalidPaper", false), ("InvalidRows", false), ("InvalidText", false), ("InvalidUnit", false), ("InvalidList", false), ("InvalidDeed", false), ("InvalidFlag", false), ("Unlike", false), ("TooMany", false), ("NothingToUndo", false), ("NothingToRedo", false)] (.var 0)) (.cons (.isx "InvalidPaper" [("InvalidNumber", false), ("InvalidKind", false), ("InvalidValue", false), ("InvalidProgram", false), ("InvalidName", false), ("InvalidBill", false), ("InvalidPaper", true), ("InvalidRows", false), ("InvalidText", false), ("InvalidUnit", false), ("InvalidList", false), ("InvalidDeed", false), ("InvalidFlag", false), ("Unlike", false), ("TooMany", false), ("NothingToUndo", false), ("NothingToRedo", false)] (.var 0)) (.cons (.isx "InvalidRows" [("InvalidNumber", false), ("InvalidKind", false), ("InvalidValue", false), ("InvalidProgram", false), ("InvalidName", false), ("InvalidBill", false), ("InvalidPaper", false), ("InvalidRows", true), ("InvalidText", false), ("InvalidUnit", false), ("InvalidList", false), ("InvalidDeed", false), ("InvalidFlag", false), ("Unlike", false), ("TooMany", false), ("NothingToUndo", false), ("NothingToRedo", false)] (.var 0)) .nil)))))) .nil))))
    (.cons (.set 1 (.op .add (.cons (.var 1) (.cons (.new (.lst (.cons (.isx "InvalidText" [("InvalidNumber", false), ("InvalidKind", false), ("InvalidValue", false), ("InvalidProgram", false), ("InvalidName", false), ("InvalidBill", false), ("InvalidPaper", false), ("InvalidRows", false), ("InvalidText", true), ("InvalidUnit", false), ("InvalidList", false), ("InvalidDeed", false), ("InvalidFlag", false), ("Unlike", false), ("TooMany", false), ("NothingToUndo", false), ("NothingToRedo", false)] (.var 0)) (.cons (.isx "InvalidUnit" [("InvalidNumber", false), ("InvalidKind", false), ("InvalidValue", false), ("InvalidProgram", false), ("InvalidName", false), ("InvalidBill", false), ("InvalidPaper", false), ("InvalidRows", false), ("InvalidText", false), ("InvalidUnit", true), ("InvalidList", false), ("InvalidDeed", false), ("InvalidFlag", false), ("Unlike", false), ("TooMany", false), ("NothingToUndo", false), ("NothingToRedo", false)] (.var 0)) (.cons (.isx "InvalidList" [("InvalidNumber", false), ("InvalidKind", false), ("InvalidValue", false), ("InvalidProgram", false), ("InvalidName", false), ("InvalidBill", false), ("InvalidPaper", false), ("InvalidRows", false), ("InvalidText", false), ("InvalidUnit", false), ("InvalidList", true), ("InvalidDeed", false), ("InvalidFlag", false), ("Unlike", false), ("TooMany", false), ("NothingToUndo", false), ("NothingToRedo", false)] (.var 0)) (.cons (.isx "InvalidDeed" [("InvalidNumber", false), ("InvalidKind", false), ("InvalidValue", false), ("InvalidProgram", false), ("InvalidName", false), ("InvalidBill", false), ("InvalidPaper", false), ("InvalidRows", false), ("InvalidText", false), ("InvalidUnit", false), ("InvalidList", false), ("InvalidDeed", true), ("InvalidFlag", false), ("Unlike", false), ("TooMany", false), ("NothingToUndo", false), ("NothingToRedo", false)] (.var 0)) .nil)))))) .nil))))
    (.cons (.set 1 (.op .add (.cons (.var 1) (.cons (.new (.lst (.cons (.isx "InvalidFlag" [("InvalidNumber", false), ("InvalidKind", false), ("InvalidValue", false), ("InvalidProgram", false), ("InvalidName", false), ("InvalidBill", false), ("InvalidPaper", false), ("InvalidRows", false), ("InvalidText", false), ("InvalidUnit", false), ("InvalidList", false), ("InvalidDeed", false), ("InvalidFlag", true), ("Unlike", false), ("TooMany", false), ("NothingToUndo", false), ("NothingToRedo", false)] (.var 0)) (.cons (.isx "Unlike" [("InvalidNumber", false), ("InvalidKind", false), ("InvalidValue", false), ("InvalidProgram", false), ("InvalidName", false), ("InvalidBill", false), ("InvalidPaper", false), ("InvalidRows", false), ("InvalidText", false), ("InvalidUnit", false), ("InvalidList", false), ("InvalidDeed", false), ("InvalidFlag", false), ("Unlike", true), ("TooMany", false), ("NothingToUndo", false), ("NothingToRedo", false)] (.var 0)) (.cons (.isx "TooMany" [("InvalidNumber", false), ("InvalidKind", false), ("InvalidValue", false), ("InvalidProgram", false), ("InvalidName", false), ("InvalidBill", false), ("InvalidPaper", false), ("InvalidRows", false), ("InvalidText", false), ("InvalidUnit", false), ("InvalidList", false), ("InvalidDeed", false), ("InvalidFlag", false), ("Unlike", false), ("TooMany", true), ("NothingToUndo", false), ("NothingToRedo", false)] (.var 0)) .nil))))) .nil))))
    (.cons (.ret (.op .add (.cons (.var 1) (.cons (.new (.lst (.cons (.isx "NothingToUndo" [("InvalidNumber", false), ("InvalidKind", false), ("InvalidValue", false), ("InvalidProgram", false), ("InvalidName", false), ("InvalidBill", false), ("InvalidPaper", false), ("InvalidRows", false), ("InvalidText", false), ("InvalidUnit", false), ("InvalidList", false), ("InvalidDeed", false), ("InvalidFlag", false), ("Unlike", false), ("TooMany", false), ("NothingToUndo", true), ("NothingToRedo", false)] (.var 0)) (.cons (.isx "NothingToRedo" [("InvalidNumber", false), ("InvalidKind", false), ("InvalidValue", false), ("InvalidProgram", false), ("InvalidName", false), ("InvalidBill", false), ("InvalidPaper", false), ("InvalidRows", false), ("InvalidText", false), ("InvalidUnit", false), ("InvalidList", false), ("InvalidDeed", false), ("InvalidFlag", false), ("Unlike", false), ("TooMany", false), ("NothingToUndo", false), ("NothingToRedo", true)] (.var 0)) .nil)))) .nil))))
    .nil)))))
abbrev s7 : Stmt := top 27
abbrev n7 : List Str := ["_law_script", "_law_generator_here", "_law_value", "_law_which", "_law_bare", "_law_error", "_law_field", "_law_place"]
def l7_0 : Sts := (.cons (.set 5 (.ife (.op .lt (.cons (.var 3) (.cons (.con (.int 8)) .nil))) (.call 4 (.cons (.var 3) (.cons (.var 2) .nil))) (.call 5 (.cons (.var 3) (.cons (.var 2) .nil)))))
    (.cons (.iff (.or (.op .ne (.cons (.call 6 (.cons (.var 5) .nil)) (.cons (.new (.comp (.op .eq (.cons (.var 7) (.cons (.var 3) .nil))) (.one 7) (.range (.cons (.con (.int 17)) .nil)) none [7])) .nil))) (.or (.op .not (.cons (.isx "BillError" [("InvalidNumber", true), ("InvalidKind", true), ("InvalidValue", true), ("InvalidProgram", true), ("InvalidName", true), ("InvalidBill", true), ("InvalidPaper", true), ("InvalidRows", true), ("InvalidText", true), ("InvalidUnit", true), ("InvalidList", true), ("InvalidDeed", true), ("InvalidFlag", true), ("Unlike", true), ("TooMany", true), ("NothingToUndo", true), ("NothingToRedo", true)] (.var 5)) .nil)) (.op .not (.cons (.isv ((["InvalidNumber", "InvalidKind", "InvalidValue", "InvalidProgram", "InvalidName", "InvalidBill", "InvalidPaper", "InvalidRows", "InvalidText", "InvalidUnit", "InvalidList", "InvalidDeed", "InvalidFlag", "Unlike", "TooMany"] : List Str) ++ (["BillError", "NothingToUndo", "NothingToRedo"] : List Str)) (.var 5)) .nil)))) (.cons (.ret (.con (.bool false)))
    .nil) .nil)
    (.cons (.iff (.op (.isi "list") (.cons (.var 2) .nil)) (.cons (.app 2 (.var 3))
    .nil) .nil)
    (.cons (.iff (.op .not (.cons (.op .eq (.cons (.fld ["InvalidNumber", "InvalidKind", "InvalidValue", "InvalidProgram", "InvalidName", "InvalidBill", "InvalidPaper", "InvalidRows", "InvalidText", "InvalidUnit", "InvalidList", "InvalidDeed", "InvalidFlag", "Unlike", "TooMany"] (.var 5)) (.cons (.var 2) .nil))) .nil)) (.cons (.ret (.con (.bool false)))
    .nil) .nil)
    .nil))))
def b7 : Sts := (.cons (.set 1 (.call 1 (.cons (.var 0) (.cons (.con (.int 0)) .nil))))
    (.cons (.set 2 (.pick (.cons (.call 3 (.cons (.var 1) (.cons (.op .pow (.cons (.con (.int 10)) (.cons (.con (.int 20)) .nil))) .nil))) (.cons (.op .mul (.cons (.con (.str "ab")) (.cons (.call 3 (.cons (.var 1) (.cons (.con (.int 3)) .nil))) .nil))) (.cons (.mk (.lst (.cons (.con (.int 1)) (.cons (.con .none) .nil)))) (.cons (.con .none) (.cons (.tup (.cons (.con (.int 2)) (.cons (.tup (.cons (.con (.int 3)) .nil)) .nil))) .nil))))) (.call 3 (.cons (.var 1) (.cons (.con (.int 5)) .nil)))))
    (.cons (.forr (.one 3) (.range (.cons (.con (.int 15)) .nil)) l7_0)
    (.cons (.set 4 (.new (.lst (.cons (.fld ["InvalidNumber", "InvalidKind", "InvalidValue", "InvalidProgram", "InvalidName", "InvalidBill", "InvalidPaper", "InvalidRows", "InvalidText", "InvalidUnit", "InvalidList", "InvalidDeed", "InvalidFlag", "Unlike", "TooMany"] (.mkE "InvalidNumber" (.con .none))) (.cons (.fld ["InvalidNumber", "InvalidKind", "InvalidValue", "InvalidProgram", "InvalidName", "InvalidBill", "InvalidPaper", "InvalidRows", "InvalidText", "InvalidUnit", "InvalidList", "InvalidDeed", "InvalidFlag", "Unlike", "TooMany"] (.mkE "InvalidKind" (.con .none))) (.cons (.fld ["InvalidNumber", "InvalidKind", "InvalidValue", "InvalidProgram", "InvalidName", "InvalidBill", "InvalidPaper", "InvalidRows", "InvalidText", "InvalidUnit", "InvalidList", "InvalidDeed", "InvalidFlag", "Unlike", "TooMany"] (.mkE "InvalidValue" (.con .none))) (.cons (.fld ["InvalidNumber", "InvalidKind", "InvalidValue", "InvalidProgram", "InvalidName", "InvalidBill", "InvalidPaper", "InvalidRows", "InvalidText", "InvalidUnit", "InvalidList", "InvalidDeed", "InvalidFlag", "Unlike", "TooMany"] (.mkE "InvalidProgram" (.con .none))) (.cons (.fld ["InvalidNumber", "InvalidKind", "InvalidValue", "InvalidProgram", "InvalidName", "InvalidBill", "InvalidPaper", "InvalidRows", "InvalidText", "InvalidUnit", "InvalidList", "InvalidDeed", "InvalidFlag", "Unlike", "TooMany"] (.mkE "InvalidName" (.con .none))) (.cons (.fld ["InvalidNumber", "InvalidKind", "InvalidValue", "InvalidProgram", "InvalidName", "InvalidBill", "InvalidPaper", "InvalidRows", "InvalidText", "InvalidUnit", "InvalidList", "InvalidDeed", "InvalidFlag", "Unlike", "TooMany"] (.mkE "InvalidBill" (.con .none))) .nil)))))))))
    (.cons (.set 4 (.op .add (.cons (.var 4) (.cons (.new (.lst (.cons (.fld ["InvalidNumber", "InvalidKind", "InvalidValue", "InvalidProgram", "InvalidName", "InvalidBill", "InvalidPaper", "InvalidRows", "InvalidText", "InvalidUnit", "InvalidList", "InvalidDeed", "InvalidFlag", "Unlike", "TooMany"] (.mkE "InvalidPaper" (.con .none))) (.cons (.fld ["InvalidNumber", "InvalidKind", "InvalidValue", "InvalidProgram", "InvalidName", "InvalidBill", "InvalidPaper", "InvalidRows", "InvalidText", "InvalidUnit", "InvalidList", "InvalidDeed", "InvalidFlag", "Unlike", "TooMany"] (.mkE "InvalidRows" (.con .none))) (.cons (.fld ["InvalidNumber", "InvalidKind", "InvalidValue", "InvalidProgram", "InvalidName", "InvalidBill", "InvalidPaper", "InvalidRows", "InvalidText", "InvalidUnit", "InvalidList", "InvalidDeed", "InvalidFlag", "Unlike", "TooMany"] (.mkE "InvalidText" (.con .none))) (.cons (.fld ["InvalidNumber", "InvalidKind", "InvalidValue", "InvalidProgram", "InvalidName", "InvalidBill", "InvalidPaper", "InvalidRows", "InvalidText", "InvalidUnit", "InvalidList", "InvalidDeed", "InvalidFlag", "Unlike", "TooMany"] (.mkE "InvalidUnit" (.con .none))) (.cons (.fld ["InvalidNumber", "InvalidKind", "InvalidValue", "InvalidProgram", "InvalidName", "InvalidBill", "InvalidPaper", "InvalidRows", "InvalidText", "InvalidUnit", "InvalidList", "InvalidDeed", "InvalidFlag", "Unlike", "TooMany"] (.mkE "InvalidList" (.con .none))) .nil))))))) .nil))))
    (.cons (.set 4 (.op .add (.cons (.var 4) (.cons (.new (.lst (.cons (.fld ["InvalidNumber", "InvalidKind", "InvalidValue", "InvalidProgram", "InvalidName", "InvalidBill", "InvalidPaper", "InvalidRows", "InvalidText", "InvalidUnit", "InvalidList", "InvalidDeed", "InvalidFlag", "Unlike", "TooMany"] (.mkE "InvalidDeed" (.con .none))) (.cons (.fld ["InvalidNumber", "InvalidKind", "InvalidValue", "InvalidProgram", "InvalidName", "InvalidBill", "InvalidPaper", "InvalidRows", "InvalidText", "InvalidUnit", "InvalidList", "InvalidDeed", "InvalidFlag", "Unlike", "TooMany"] (.mkE "InvalidFlag" (.con .none))) (.cons (.fld ["InvalidNumber", "InvalidKind", "InvalidValue", "InvalidProgram", "InvalidName", "InvalidBill", "InvalidPaper", "InvalidRows", "InvalidText", "InvalidUnit", "InvalidList", "InvalidDeed", "InvalidFlag", "Unlike", "TooMany"] (.mkE "Unlike" (.con .none))) (.cons (.fld ["InvalidNumber", "InvalidKind", "InvalidValue", "InvalidProgram", "InvalidName", "InvalidBill", "InvalidPaper", "InvalidRows", "InvalidText", "InvalidUnit", "InvalidList", "InvalidDeed", "InvalidFlag", "Unlike", "TooMany"] (.mkE "TooMany" (.con .none))) .nil)))))) .nil))))
    (.cons (.iff (.or (.op .ne (.cons (.new (.comp (.var 6) (.one 6) (.val (.var 4)) (some (.op .notN (.cons (.var 6) .nil))) [6])) (.cons (.new (.lst .nil)) .nil))) (.or (.op .ne (.cons (.fld ["InvalidNumber", "InvalidKind", "InvalidValue", "InvalidProgram", "InvalidName", "InvalidBill", "InvalidPaper", "InvalidRows", "InvalidText", "InvalidUnit", "InvalidList", "InvalidDeed", "InvalidFlag", "Unlike", "TooMany"] (.mkE "TooMany" (.con (.int 7)))) (.cons (.con (.int 7)) .nil))) (.op .ne (.cons (.fld ["InvalidNumber", "InvalidKind", "InvalidValue", "InvalidProgram", "InvalidName", "InvalidBill", "InvalidPaper", "InvalidRows", "InvalidText", "InvalidUnit", "InvalidList", "InvalidDeed", "InvalidFlag", "Unlike", "TooMany"] (.mkE "InvalidName" (.tup (.cons (.con (.int 1)) .nil)))) (.cons (.tup (.cons (.con (.int 1)) .nil)) .nil))))) (.cons (.ret (.con (.bool false)))
    .nil) .nil)
    (.cons (.iff (.or (.op .ne (.cons (.call 6 (.cons (.mkB "NothingToUndo") .nil)) (.cons (.new (.comp (.op .eq (.cons (.var 7) (.cons (.con (.int 15)) .nil))) (.one 7) (.range (.cons (.con (.int 17)) .nil)) none [7])) .nil))) (.op .ne (.cons (.call 6 (.cons (.mkB "NothingToRedo") .nil)) (.cons (.new (.comp (.op .eq (.cons (.var 7) (.cons (.con (.int 16)) .nil))) (.one 7) (.range (.cons (.con (.int 17)) .nil)) none [7])) .nil)))) (.cons (.ret (.con (.bool false)))
    .nil) .nil)
    (.cons (.ret (.and (.isx "BillError" [("InvalidNumber", true), ("InvalidKind", true), ("InvalidValue", true), ("InvalidProgram", true), ("InvalidName", true), ("InvalidBill", true), ("InvalidPaper", true), ("InvalidRows", true), ("InvalidText", true), ("InvalidUnit", true), ("InvalidList", true), ("InvalidDeed", true), ("InvalidFlag", true), ("Unlike", true), ("TooMany", true), ("NothingToUndo", true), ("NothingToRedo", true)] (.mkB "NothingToUndo")) (.and (.isx "BillError" [("InvalidNumber", true), ("InvalidKind", true), ("InvalidValue", true), ("InvalidProgram", true), ("InvalidName", true), ("InvalidBill", true), ("InvalidPaper", true), ("InvalidRows", true), ("InvalidText", true), ("InvalidUnit", true), ("InvalidList", true), ("InvalidDeed", true), ("InvalidFlag", true), ("Unlike", true), ("TooMany", true), ("NothingToUndo", true), ("NothingToRedo", true)] (.mkB "NothingToRedo")) (.isv ((["InvalidNumber", "InvalidKind", "InvalidValue", "InvalidProgram", "InvalidName", "InvalidBill", "InvalidPaper", "InvalidRows", "InvalidText", "InvalidUnit", "InvalidList", "InvalidDeed", "InvalidFlag", "Unlike", "TooMany"] : List Str) ++ (["BillError", "NothingToUndo", "NothingToRedo"] : List Str)) (.mkB "BillError")))))
    .nil)))))))))
def sg : Sg := ⟨[], [("_law_cell", 0), ("_law_generator", 1), ("_law_hash", 2), ("_law_random", 3), ("_law_first", 4), ("_law_second", 5), ("_law_flags", 6), ("law", 7)], [], ["len", "sum", "int", "max", "range", "isinstance", "ValueError", "list"], ["InvalidNumber", "InvalidKind", "InvalidValue", "InvalidProgram", "InvalidName", "InvalidBill", "InvalidPaper", "InvalidRows", "InvalidText", "InvalidUnit", "InvalidList", "InvalidDeed", "InvalidFlag", "Unlike", "TooMany"], [("InvalidNumber", [("InvalidNumber", true), ("InvalidKind", false), ("InvalidValue", false), ("InvalidProgram", false), ("InvalidName", false), ("InvalidBill", false), ("InvalidPaper", false), ("InvalidRows", false), ("InvalidText", false), ("InvalidUnit", false), ("InvalidList", false), ("InvalidDeed", false), ("InvalidFlag", false), ("Unlike", false), ("TooMany", false), ("NothingToUndo", false), ("NothingToRedo", false)]), ("InvalidKind", [("InvalidNumber", false), ("InvalidKind", true), ("InvalidValue", false), ("InvalidProgram", false), ("InvalidName", false), ("InvalidBill", false), ("InvalidPaper", false), ("InvalidRows", false), ("InvalidText", false), ("InvalidUnit", false), ("InvalidList", false), ("InvalidDeed", false), ("InvalidFlag", false), ("Unlike", false), ("TooMany", false), ("NothingToUndo", false), ("NothingToRedo", false)]), ("InvalidValue", [("InvalidNumber", false), ("InvalidKind", false), ("InvalidValue", true), ("InvalidProgram", false), ("InvalidName", false), ("InvalidBill", false), ("InvalidPaper", false), ("InvalidRows", false), ("InvalidText", false), ("InvalidUnit", false), ("InvalidList", false), ("InvalidDeed", false), ("InvalidFlag", false), ("Unlike", false), ("TooMany", false), ("NothingToUndo", false), ("NothingToRedo", false)]), ("InvalidProgram", [("InvalidNumber", false), ("InvalidKind", false), ("InvalidValue", false), ("InvalidProgram", true), ("InvalidName", false), ("InvalidBill", false), ("InvalidPaper", false), ("InvalidRows", false), ("InvalidText", false), ("InvalidUnit", false), ("InvalidList", false), ("InvalidDeed", false), ("InvalidFlag", false), ("Unlike", false), ("TooMany", false), ("NothingToUndo", false), ("NothingToRedo", false)]), ("InvalidName", [("InvalidNumber", false), ("InvalidKind", false), ("InvalidValue", false), ("InvalidProgram", false), ("InvalidName", true), ("InvalidBill", false), ("InvalidPaper", false), ("InvalidRows", false), ("InvalidText", false), ("InvalidUnit", false), ("InvalidList", false), ("InvalidDeed", false), ("InvalidFlag", false), ("Unlike", false), ("TooMany", false), ("NothingToUndo", false), ("NothingToRedo", false)]), ("InvalidBill", [("InvalidNumber", false), ("InvalidKind", false), ("InvalidValue", false), ("InvalidProgram", false), ("InvalidName", false), ("InvalidBill", true), ("InvalidPaper", false), ("InvalidRows", false), ("InvalidText", false), ("InvalidUnit", false), ("InvalidList", false), ("InvalidDeed", false), ("InvalidFlag", false), ("Unlike", false), ("TooMany", false), ("NothingToUndo", false), ("NothingToRedo", false)]), ("InvalidPaper", [("InvalidNumber", false), ("InvalidKind", false), ("InvalidValue", false), ("InvalidProgram", false), ("InvalidName", false), ("InvalidBill", false), ("InvalidPaper", true), ("InvalidRows", false), ("InvalidText", false), ("InvalidUnit", false), ("InvalidList", false), ("InvalidDeed", false), ("InvalidFlag", false), ("Unlike", false), ("TooMany", false), ("NothingToUndo", false), ("NothingToRedo", false)]), ("InvalidRows", [("InvalidNumber", false), ("InvalidKind", false), ("InvalidValue", false), ("InvalidProgram", false), ("InvalidName", false), ("InvalidBill", false), ("InvalidPaper", false), ("InvalidRows", true), ("InvalidText", false), ("InvalidUnit", false), ("InvalidList", false), ("InvalidDeed", false), ("InvalidFlag", false), ("Unlike", false), ("TooMany", false), ("NothingToUndo", false), ("NothingToRedo", false)]), ("InvalidText", [("InvalidNumber", false), ("InvalidKind", false), ("InvalidValue", false), ("InvalidProgram", false), ("InvalidName", false), ("InvalidBill", false), ("InvalidPaper", false), ("InvalidRows", false), ("InvalidText", true), ("InvalidUnit", false), ("InvalidList", false), ("InvalidDeed", false), ("InvalidFlag", false), ("Unlike", false), ("TooMany", false), ("NothingToUndo", false), ("NothingToRedo", false)]), ("InvalidUnit", [("InvalidNumber", false), ("InvalidKind", false), ("InvalidValue", false), ("InvalidProgram", false), ("InvalidName", false), ("InvalidBill", false), ("InvalidPaper", false), ("InvalidRows", false), ("InvalidText", false), ("InvalidUnit", true), ("InvalidList", false), ("InvalidDeed", false), ("InvalidFlag", false), ("Unlike", false), ("TooMany", false), ("NothingToUndo", false), ("NothingToRedo", false)]), ("InvalidList", [("InvalidNumber", false), ("InvalidKind", false), ("InvalidValue", false), ("InvalidProgram", false), ("InvalidName", false), ("InvalidBill", false), ("InvalidPaper", false), ("InvalidRows", false), ("InvalidText", false), ("InvalidUnit", false), ("InvalidList", true), ("InvalidDeed", false), ("InvalidFlag", false), ("Unlike", false), ("TooMany", false), ("NothingToUndo", false), ("NothingToRedo", false)]), ("InvalidDeed", [("InvalidNumber", false), ("InvalidKind", false), ("InvalidValue", false), ("InvalidProgram", false), ("InvalidName", false), ("InvalidBill", false), ("InvalidPaper", false), ("InvalidRows", false), ("InvalidText", false), ("InvalidUnit", false), ("InvalidList", false), ("InvalidDeed", true), ("InvalidFlag", false), ("Unlike", false), ("TooMany", false), ("NothingToUndo", false), ("NothingToRedo", false)]), ("InvalidFlag", [("InvalidNumber", false), ("InvalidKind", false), ("InvalidValue", false), ("InvalidProgram", false), ("InvalidName", false), ("InvalidBill", false), ("InvalidPaper", false), ("InvalidRows", false), ("InvalidText", false), ("InvalidUnit", false), ("InvalidList", false), ("InvalidDeed", false), ("InvalidFlag", true), ("Unlike", false), ("TooMany", false), ("NothingToUndo", false), ("NothingToRedo", false)]), ("Unlike", [("InvalidNumber", false), ("InvalidKind", false), ("InvalidValue", false), ("InvalidProgram", false), ("InvalidName", false), ("InvalidBill", false), ("InvalidPaper", false), ("InvalidRows", false), ("InvalidText", false), ("InvalidUnit", false), ("InvalidList", false), ("InvalidDeed", false), ("InvalidFlag", false), ("Unlike", true), ("TooMany", false), ("NothingToUndo", false), ("NothingToRedo", false)]), ("TooMany", [("InvalidNumber", false), ("InvalidKind", false), ("InvalidValue", false), ("InvalidProgram", false), ("InvalidName", false), ("InvalidBill", false), ("InvalidPaper", false), ("InvalidRows", false), ("InvalidText", false), ("InvalidUnit", false), ("InvalidList", false), ("InvalidDeed", false), ("InvalidFlag", false), ("Unlike", false), ("TooMany", true), ("NothingToUndo", false), ("NothingToRedo", false)]), ("NothingToUndo", [("InvalidNumber", false), ("InvalidKind", false), ("InvalidValue", false), ("InvalidProgram", false), ("InvalidName", false), ("InvalidBill", false), ("InvalidPaper", false), ("InvalidRows", false), ("InvalidText", false), ("InvalidUnit", false), ("InvalidList", false), ("InvalidDeed", false), ("InvalidFlag", false), ("Unlike", false), ("TooMany", false), ("NothingToUndo", true), ("NothingToRedo", false)]), ("NothingToRedo", [("InvalidNumber", false), ("InvalidKind", false), ("InvalidValue", false), ("InvalidProgram", false), ("InvalidName", false), ("InvalidBill", false), ("InvalidPaper", false), ("InvalidRows", false), ("InvalidText", false), ("InvalidUnit", false), ("InvalidList", false), ("InvalidDeed", false), ("InvalidFlag", false), ("Unlike", false), ("TooMany", false), ("NothingToUndo", false), ("NothingToRedo", true)]), ("BillError", [("InvalidNumber", true), ("InvalidKind", true), ("InvalidValue", true), ("InvalidProgram", true), ("InvalidName", true), ("InvalidBill", true), ("InvalidPaper", true), ("InvalidRows", true), ("InvalidText", true), ("InvalidUnit", true), ("InvalidList", true), ("InvalidDeed", true), ("InvalidFlag", true), ("Unlike", true), ("TooMany", true), ("NothingToUndo", true), ("NothingToRedo", true)])], [], ["BillError", "NothingToUndo", "NothingToRedo"]⟩
def prog : List Fn := [⟨2, 2, b0, false⟩, ⟨2, 3, b1, true⟩, ⟨2, 3, b2, false⟩, ⟨2, 4, b3, false⟩, ⟨2, 2, b4, false⟩, ⟨2, 2, b5, false⟩, ⟨1, 2, b6, false⟩, ⟨1, 8, b7, false⟩]
set_option maxHeartbeats 4000000 in
noncomputable def t0 : TrB sg n0 (L2.defScope s0) (L2.defBody s0) b0 := (.cons (.iff (.cmp rfl rfl (.var rfl (by decide +kernel) (by decide +kernel)) (.bcall (q := 0) rfl (by decide +kernel) (by decide +kernel) (.cons (fun _ => rfl) (.var rfl (by decide +kernel) (by decide +kernel)) .nil))) (.cons (.ret (.idx (fun _ _ => rfl) (.var rfl (by decide +kernel) (by decide +kernel)) (.var rfl (by decide +kernel) (by decide +kernel))))
    .nil) .nil)
    (.cons (.ret (.bin rfl (.bcall (q := 6) rfl (by decide +kernel) (by decide +kernel) (.cons (fun _ => rfl) (.new (.slHi (.var rfl (by decide +kernel) (by decide +kernel)) .int)) .nil)) .int))
    .nil))
theorem c0 : L2.FnScope n0 ["_law_script", "_law_index"] (L2.defScope s0) := ⟨rfl, rfl, rfl, by decide +kernel, rfl, by decide +kernel, by decide +kernel⟩
set_option maxHeartbeats 4000000 in
noncomputable def t1 : TrB sg n1 (L2.defScope s1) (L2.defBody s1) b1 := (.cons (.set rfl (by decide +kernel) (.call (by decide +kernel) (by decide +kernel) (by decide +kernel) (.cons (fun _ => rfl) (.var rfl (by decide +kernel) (by decide +kernel)) (.cons (fun _ => rfl) (.var rfl (by decide +kernel) (by decide +kernel)) .nil))) (fun _ _ => rfl))
    (.cons (.ret (.mk (.lst (.cons (fun _ => rfl) (.bin rfl (.bcall (q := 1) rfl (by decide +kernel) (by decide +kernel) (.cons (fun _ => rfl) (.bcall (q := 4) rfl (by decide +kernel) (by decide +kernel) (.cons (fun _ => rfl) (.bin rfl (.var rfl (by decide +kernel) (by decide +kernel)) (.bin rfl .int .int)) (.cons (fun _ => rfl) .int .nil))) .nil)) (.bin rfl (.bin rfl .int .int) .int)) (.cons (fun _ => rfl) (.bin rfl (.bcall (q := 1) rfl (by decide +kernel) (by decide +kernel) (.cons (fun _ => rfl) (.var rfl (by decide +kernel) (by decide +kernel)) .nil)) .int) (.cons (fun _ => rfl) (.bin rfl .int (.var rfl (by decide +kernel) (by decide +kernel))) .nil))))))
    .nil))
theorem c1 : L2.FnScope n1 ["_law_script", "_law_index"] (L2.defScope s1) := ⟨rfl, rfl, rfl, by decide +kernel, rfl, by decide +kernel, by decide +kernel⟩
set_option maxHeartbeats 4000000 in
noncomputable def t2 : TrB sg n2 (L2.defScope s2) (L2.defBody s2) b2 := (.cons (.set rfl (by decide +kernel) (.bin rfl (.bcall (q := 1) rfl (by decide +kernel) (by decide +kernel) (.cons (fun _ => rfl) (.bin rfl (.bin rfl (.bin rfl (.bin rfl (.var rfl (by decide +kernel) (by decide +kernel)) .int) (.bin rfl (.bin rfl .int (.var rfl (by decide +kernel) (by decide +kernel))) (.var rfl (by decide +kernel) (by decide +kernel)))) (.bin rfl .int (.var rfl (by decide +kernel) (by decide +kernel)))) .int) .nil)) .int) (fun _ _ => rfl))
    (.cons (.set rfl (by decide +kernel) (.bin rfl (.bcall (q := 1) rfl (by decide +kernel) (by decide +kernel) (.cons (fun _ => rfl) (.bin rfl (.bin rfl (.bin rfl (.var rfl (by decide +kernel) (by decide +kernel)) (.var rfl (by decide +kernel) (by decide +kernel))) (.bin rfl .int (.var rfl (by decide +kernel) (by decide +kernel)))) .int) .nil)) .int) (fun _ _ => rfl))
    (.cons (.ret (.bin rfl (.bcall (q := 1) rfl (by decide +kernel) (by decide +kernel) (.cons (fun _ => rfl) (.bin rfl (.var rfl (by decide +kernel) (by decide +kernel)) .int) .nil)) .int))
    .nil)))
theorem c2 : L2.FnScope n2 ["_law_seed", "_law_index"] (L2.defScope s2) := ⟨rfl, rfl, rfl, by decide +kernel, rfl, by decide +kernel, by decide +kernel⟩
set_option maxHeartbeats 4000000 in
noncomputable def t3 : TrB sg n3 (L2.defScope s3) (L2.defBody s3) b3 := (.cons (.iff (.cmp rfl rfl (.idx (fun _ _ => rfl) (.var rfl (by decide +kernel) (by decide +kernel)) .int) .int) (.cons (.set rfl (by decide +kernel) (.bin rfl (.bcall (q := 1) rfl (by decide +kernel) (by decide +kernel) (.cons (fun _ => rfl) (.idx (fun _ _ => rfl) (.var rfl (by decide +kernel) (by decide +kernel)) .int) .nil)) (.var rfl (by decide +kernel) (by decide +kernel))) (fun _ _ => rfl))
    (.cons (.put rfl (by decide +kernel) (by decide +kernel) .int (.bin rfl (.idx (fun _ _ => rfl) (.var rfl (by decide +kernel) (by decide +kernel)) .int) (.var rfl (by decide +kernel) (by decide +kernel))) (fun _ _ => rfl) (fun _ => rfl) (fun _ => rfl) (fun _ => rfl))
    (.cons (.ret (.var rfl (by decide +kernel) (by decide +kernel)))
    .nil))) .nil)
    (.cons (.set rfl (by decide +kernel) .int (fun _ _ => rfl))
    (.cons (.forr (fun _ _ => rfl) (.one rfl (by decide +kernel)) (.range1 (by decide +kernel) (.bin rfl .int (.bin rfl (.bitlen (fun _ => rfl) rfl (.var rfl (by decide +kernel) (by decide +kernel))) .int)) (fun _ => rfl)) (.cons (.put rfl (by decide +kernel) (by decide +kernel) .int (.bin rfl (.idx (fun _ _ => rfl) (.var rfl (by decide +kernel) (by decide +kernel)) .int) .int) (fun _ _ => rfl) (fun _ => rfl) (fun _ => rfl) (fun _ => rfl))
    (.cons (.set rfl (by decide +kernel) (.bin rfl (.bin rfl (.var rfl (by decide +kernel) (by decide +kernel)) .int) (.call (by decide +kernel) (by decide +kernel) (by decide +kernel) (.cons (fun _ => rfl) (.idx (fun _ _ => rfl) (.var rfl (by decide +kernel) (by decide +kernel)) .int) (.cons (fun _ => rfl) (.idx (fun _ _ => rfl) (.var rfl (by decide +kernel) (by decide +kernel)) .int) .nil)))) (fun _ _ => rfl))
    .nil)))
    (.cons (.ret (.bin rfl (.bcall (q := 1) rfl (by decide +kernel) (by decide +kernel) (.cons (fun _ => rfl) (.var rfl (by decide +kernel) (by decide +kernel)) .nil)) (.var rfl (by decide +kernel) (by decide +kernel))))
    .nil))))
theorem c3 : L2.FnScope n3 ["_law_generator_here", "_law_bound"] (L2.defScope s3) := ⟨rfl, rfl, rfl, by decide +kernel, rfl, by decide +kernel, by decide +kernel⟩
set_option maxHeartbeats 4000000 in
noncomputable def t4 : TrB sg n4 (L2.defScope s4) (L2.defBody s4) b4 := (.cons (.iff (.cmp rfl rfl (.var rfl (by decide +kernel) (by decide +kernel)) .int) (.cons (.ret (.mke (by decide +kernel) (by decide +kernel) (by decide +kernel) (fun _ => rfl) (.var rfl (by decide +kernel) (by decide +kernel))))
    .nil) .nil)
    (.cons (.iff (.cmp rfl rfl (.var rfl (by decide +kernel) (by decide +kernel)) .int) (.cons (.ret (.mke (by decide +kernel) (by decide +kernel) (by decide +kernel) (fun _ => rfl) (.var rfl (by decide +kernel) (by decide +kernel))))
    .nil) .nil)
    (.cons (.iff (.cmp rfl rfl (.var rfl (by decide +kernel) (by decide +kernel)) .int) (.cons (.ret (.mke (by decide +kernel) (by decide +kernel) (by decide +kernel) (fun _ => rfl) (.var rfl (by decide +kernel) (by decide +kernel))))
    .nil) .nil)
    (.cons (.iff (.cmp rfl rfl (.var rfl (by decide +kernel) (by decide +kernel)) .int) (.cons (.ret (.mke (by decide +kernel) (by decide +kernel) (by decide +kernel) (fun _ => rfl) (.var rfl (by decide +kernel) (by decide +kernel))))
    .nil) .nil)
    (.cons (.iff (.cmp rfl rfl (.var rfl (by decide +kernel) (by decide +kernel)) .int) (.cons (.ret (.mke (by decide +kernel) (by decide +kernel) (by decide +kernel) (fun _ => rfl) (.var rfl (by decide +kernel) (by decide +kernel))))
    .nil) .nil)
    (.cons (.iff (.cmp rfl rfl (.var rfl (by decide +kernel) (by decide +kernel)) .int) (.cons (.ret (.mke (by decide +kernel) (by decide +kernel) (by decide +kernel) (fun _ => rfl) (.var rfl (by decide +kernel) (by decide +kernel))))
    .nil) .nil)
    (.cons (.iff (.cmp rfl rfl (.var rfl (by decide +kernel) (by decide +kernel)) .int) (.cons (.ret (.mke (by decide +kernel) (by decide +kernel) (by decide +kernel) (fun _ => rfl) (.var rfl (by decide +kernel) (by decide +kernel))))
    .nil) .nil)
    (.cons (.iff (.cmp rfl rfl (.var rfl (by decide +kernel) (by decide +kernel)) .int) (.cons (.ret (.mke (by decide +kernel) (by decide +kernel) (by decide +kernel) (fun _ => rfl) (.var rfl (by decide +kernel) (by decide +kernel))))
    .nil) .nil)
    (.cons (.ret .non)
    .nil)))))))))
theorem c4 : L2.FnScope n4 ["_law_which", "_law_value"] (L2.defScope s4) := ⟨rfl, rfl, rfl, by decide +kernel, rfl, by decide +kernel, by decide +kernel⟩
set_option maxHeartbeats 4000000 in
noncomputable def t5 : TrB sg n5 (L2.defScope s5) (L2.defBody s5) b5 := (.cons (.iff (.cmp rfl rfl (.var rfl (by decide +kernel) (by decide +kernel)) .int) (.cons (.ret (.mke (by decide +kernel) (by decide +kernel) (by decide +kernel) (fun _ => rfl) (.var rfl (by decide +kernel) (by decide +kernel))))
    .nil) .nil)
    (.cons (.iff (.cmp rfl rfl (.var rfl (by decide +kernel) (by decide +kernel)) .int) (.cons (.ret (.mke (by decide +kernel) (by decide +kernel) (by decide +kernel) (fun _ => rfl) (.var rfl (by decide +kernel) (by decide +kernel))))
    .nil) .nil)
    (.cons (.iff (.cmp rfl rfl (.var rfl (by decide +kernel) (by decide +kernel)) .int) (.cons (.ret (.mke (by decide +kernel) (by decide +kernel) (by decide +kernel) (fun _ => rfl) (.var rfl (by decide +kernel) (by decide +kernel))))
    .nil) .nil)
    (.cons (.iff (.cmp rfl rfl (.var rfl (by decide +kernel) (by decide +kernel)) .int) (.cons (.ret (.mke (by decide +kernel) (by decide +kernel) (by decide +kernel) (fun _ => rfl) (.var rfl (by decide +kernel) (by decide +kernel))))
    .nil) .nil)
    (.cons (.iff (.cmp rfl rfl (.var rfl (by decide +kernel) (by decide +kernel)) .int) (.cons (.ret (.mke (by decide +kernel) (by decide +kernel) (by decide +kernel) (fun _ => rfl) (.var rfl (by decide +kernel) (by decide +kernel))))
    .nil) .nil)
    (.cons (.iff (.cmp rfl rfl (.var rfl (by decide +kernel) (by decide +kernel)) .int) (.cons (.ret (.mke (by decide +kernel) (by decide +kernel) (by decide +kernel) (fun _ => rfl) (.var rfl (by decide +kernel) (by decide +kernel))))
    .nil) .nil)
    (.cons (.iff (.cmp rfl rfl (.var rfl (by decide +kernel) (by decide +kernel)) .int) (.cons (.ret (.mke (by decide +kernel) (by decide +kernel) (by decide +kernel) (fun _ => rfl) (.var rfl (by decide +kernel) (by decide +kernel))))
    .nil) .nil)
    (.cons (.ret .non)
    .nil))))))))
theorem c5 : L2.FnScope n5 ["_law_which", "_law_value"] (L2.defScope s5) := ⟨rfl, rfl, rfl, by decide +kernel, rfl, by decide +kernel, by decide +kernel⟩
set_option maxHeartbeats 4000000 in
noncomputable def t6 : TrB sg n6 (L2.defScope s6) (L2.defBody s6) b6 := (.cons (.set rfl (by decide +kernel) (.new (.lst (.cons (fun _ => rfl) (.isx (.head _) (by decide +kernel) (by decide +kernel) (by decide +kernel) (fun _ => rfl) (.var rfl (by decide +kernel) (by decide +kernel))) (.cons (fun _ => rfl) (.isx (.tail _ (.head _)) (by decide +kernel) (by decide +kernel) (by decide +kernel) (fun _ => rfl) (.var rfl (by decide +kernel) (by decide +kernel))) (.cons (fun _ => rfl) (.isx (.tail _ (.tail _ (.head _))) (by decide +kernel) (by decide +kernel) (by decide +kernel) (fun _ => rfl) (.var rfl (by decide +kernel) (by decide +kernel))) (.cons (fun _ => rfl) (.isx (.tail _ (.tail _ (.tail _ (.head _)))) (by decide +kernel) (by decide +kernel) (by decide +kernel) (fun _ => rfl) (.var rfl (by decide +kernel) (by decide +kernel))) .nil)))))) (fun _ _ => rfl))
    (.cons (.set rfl (by decide +kernel) (.bin rfl (.var rfl (by decide +kernel) (by decide +kernel)) (.new (.lst (.cons (fun _ => rfl) (.isx (.tail _ (.tail _ (.tail _ (.tail _ (.head _))))) (by decide +kernel) (by decide +kernel) (by decide +kernel) (fun _ => rfl) (.var rfl (by decide +kernel) (by decide +kernel))) (.cons (fun _ => rfl) (.isx (.tail _ (.tail _ (.tail _ (.tail _ (.tail _ (.head _)))))) (by decide +kernel) (by decide +kernel) (by decide +kernel) (fun _ => rfl) (.var rfl (by decide +kernel) (by decide +kernel))) (.cons (fun _ => rfl) (.isx (.tail _ (.tail _ (.tail _ (.tail _ (.tail _ (.tail _ (.head _))))))) (by decide +kernel) (by decide +kernel) (by decide +kernel) (fun _ => rfl) (.var rfl (by decide +kernel) (by decide +kernel))) (.cons (fun _ => rfl) (.isx (.tail _ (.tail _ (.tail _ (.tail _ (.tail _ (.tail _ (.tail _ (.head _)))))))) (by decide +kernel) (by decide +kernel) (by decide +kernel) (fun _ => rfl) (.var rfl (by decide +kernel) (by decide +kernel))) .nil))))))) (fun _ _ => rfl))
    (.cons (.set rfl (by decide +kernel) (.bin rfl (.var rfl (by decide +kernel) (by decide +kernel)) (.new (.lst (.cons (fun _ => rfl) (.isx (.tail _ (.tail _ (.tail _ (.tail _ (.tail _ (.tail _ (.tail _ (.tail _ (.head _))))))))) (by decide +kernel) (by decide +kernel) (by decide +kernel) (fun _ => rfl) (.var rfl (by decide +kernel) (by decide +kernel))) (.cons (fun _ => rfl) (.isx (.tail _ (.tail _ (.tail _ (.tail _ (.tail _ (.tail _ (.tail _ (.tail _ (.tail _ (.head _)))))))))) (by decide +kernel) (by decide +kernel) (by decide +kernel) (fun _ => rfl) (.var rfl (by decide +kernel) (by decide +kernel))) (.cons (fun _ => rfl) (.isx (.tail _ (.tail _ (.tail _ (.tail _ (.tail _ (.tail _ (.tail _ (.tail _ (.tail _ (.tail _ (.head _))))))))))) (by decide +kernel) (by decide +kernel) (by decide +kernel) (fun _ => rfl) (.var rfl (by decide +kernel) (by decide +kernel))) (.cons (fun _ => rfl) (.isx (.tail _ (.tail _ (.tail _ (.tail _ (.tail _ (.tail _ (.tail _ (.tail _ (.tail _ (.tail _ (.tail _ (.head _)))))))))))) (by decide +kernel) (by decide +kernel) (by decide +kernel) (fun _ => rfl) (.var rfl (by decide +kernel) (by decide +kernel))) .nil))))))) (fun _ _ => rfl))
    (.cons (.set rfl (by decide +kernel) (.bin rfl (.var rfl (by decide +kernel) (by decide +kernel)) (.new (.lst (.cons (fun _ => rfl) (.isx (.tail _ (.tail _ (.tail _ (.tail _ (.tail _ (.tail _ (.tail _ (.tail _ (.tail _ (.tail _ (.tail _ (.tail _ (.head _))))))))))))) (by decide +kernel) (by decide +kernel) (by decide +kernel) (fun _ => rfl) (.var rfl (by decide +kernel) (by decide +kernel))) (.cons (fun _ => rfl) (.isx (.tail _ (.tail _ (.tail _ (.tail _ (.tail _ (.tail _ (.tail _ (.tail _ (.tail _ (.tail _ (.tail _ (.tail _ (.tail _ (.head _)))))))))))))) (by decide +kernel) (by decide +kernel) (by decide +kernel) (fun _ => rfl) (.var rfl (by decide +kernel) (by decide +kernel))) (.cons (fun _ => rfl) (.isx (.tail _ (.tail _ (.tail _ (.tail _ (.tail _ (.tail _ (.tail _ (.tail _ (.tail _ (.tail _ (.tail _ (.tail _ (.tail _ (.tail _ (.head _))))))))))))))) (by decide +kernel) (by decide +kernel) (by decide +kernel) (fun _ => rfl) (.var rfl (by decide +kernel) (by decide +kernel))) .nil)))))) (fun _ _ => rfl))
    (.cons (.ret (.bin rfl (.var rfl (by decide +kernel) (by decide +kernel)) (.new (.lst (.cons (fun _ => rfl) (.isx (.tail _ (.tail _ (.tail _ (.tail _ (.tail _ (.tail _ (.tail _ (.tail _ (.tail _ (.tail _ (.tail _ (.tail _ (.tail _ (.tail _ (.tail _ (.head _)))))))))))))))) (by decide +kernel) (by decide +kernel) (by decide +kernel) (fun _ => rfl) (.var rfl (by decide +kernel) (by decide +kernel))) (.cons (fun _ => rfl) (.isx (.tail _ (.tail _ (.tail _ (.tail _ (.tail _ (.tail _ (.tail _ (.tail _ (.tail _ (.tail _ (.tail _ (.tail _ (.tail _ (.tail _ (.tail _ (.tail _ (.head _))))))))))))))))) (by decide +kernel) (by decide +kernel) (by decide +kernel) (fun _ => rfl) (.var rfl (by decide +kernel) (by decide +kernel))) .nil))))))
    .nil)))))
theorem c6 : L2.FnScope n6 ["_law_error"] (L2.defScope s6) := ⟨rfl, rfl, rfl, by decide +kernel, rfl, by decide +kernel, by decide +kernel⟩
set_option maxHeartbeats 4000000 in
noncomputable def t7 : TrB sg n7 (L2.defScope s7) (L2.defBody s7) b7 := (.cons (.set rfl (by decide +kernel) (.call (by decide +kernel) (by decide +kernel) (by decide +kernel) (.cons (fun _ => rfl) (.var rfl (by decide +kernel) (by decide +kernel)) (.cons (fun _ => rfl) .int .nil))) (fun _ _ => rfl))
    (.cons (.set rfl (by decide +kernel) (.pick (fun _ _ => rfl) (.cons (fun _ => rfl) (.call (by decide +kernel) (by decide +kernel) (by decide +kernel) (.cons (fun _ => rfl) (.var rfl (by decide +kernel) (by decide +kernel)) (.cons (fun _ => rfl) (.bin rfl .int .int) .nil))) (.cons (fun _ => rfl) (.bin rfl .str (.call (by decide +kernel) (by decide +kernel) (by decide +kernel) (.cons (fun _ => rfl) (.var rfl (by decide +kernel) (by decide +kernel)) (.cons (fun _ => rfl) .int .nil)))) (.cons (fun _ => rfl) (.mk (.lst (.cons (fun _ => rfl) .int (.cons (fun _ => rfl) .non .nil)))) (.cons (fun _ => rfl) .non (.cons (fun _ => rfl) (.tup (.cons (fun _ => rfl) .int (.cons (fun _ => rfl) (.tup (.cons (fun _ => rfl) .int .nil)) .nil))) .nil))))) (.call (by decide +kernel) (by decide +kernel) (by decide +kernel) (.cons (fun _ => rfl) (.var rfl (by decide +kernel) (by decide +kernel)) (.cons (fun _ => rfl) .int .nil)))) (fun _ _ => rfl))
    (.cons (.forr (fun _ _ => rfl) (.one rfl (by decide +kernel)) (.range1 (by decide +kernel) .int (fun _ => rfl)) (.cons (.set rfl (by decide +kernel) (.ife (.cmp rfl rfl (.var rfl (by decide +kernel) (by decide +kernel)) .int) (.call (by decide +kernel) (by decide +kernel) (by decide +kernel) (.cons (fun _ => rfl) (.var rfl (by decide +kernel) (by decide +kernel)) (.cons (fun _ => rfl) (.var rfl (by decide +kernel) (by decide +kernel)) .nil))) (.call (by decide +kernel) (by decide +kernel) (by decide +kernel) (.cons (fun _ => rfl) (.var rfl (by decide +kernel) (by decide +kernel)) (.cons (fun _ => rfl) (.var rfl (by decide +kernel) (by decide +kernel)) .nil)))) (fun _ _ => rfl))
    (.cons (.iff (.bool (.or (.cmp rfl rfl (.call (by decide +kernel) (by decide +kernel) (by decide +kernel) (.cons (fun _ => rfl) (.var rfl (by decide +kernel) (by decide +kernel)) .nil)) (.new (.comp (own := [("_law_place", 7)]) (by decide +kernel) rfl (fun _ _ => rfl) (.range1 (by decide +kernel) .int (fun _ => rfl)) (.one rfl (by decide +kernel)) (.cmp rfl rfl (.var rfl (by decide +kernel) (by decide +kernel)) (.var rfl (by decide +kernel) (by decide +kernel)))))) (.or (.not (.val (fun _ _ => rfl) (.isx (.tail _ (.tail _ (.tail _ (.tail _ (.tail _ (.tail _ (.tail _ (.tail _ (.tail _ (.tail _ (.tail _ (.tail _ (.tail _ (.tail _ (.tail _ (.tail _ (.tail _ (.head _)))))))))))))))))) (by decide +kernel) (by decide +kernel) (by decide +kernel) (fun _ => rfl) (.var rfl (by decide +kernel) (by decide +kernel))))) (.or1 (.not (.val (fun _ _ => rfl) (.isv (isv_pre _ _) (by decide +kernel) (by decide +kernel) (fun _ => rfl) (.var rfl (by decide +kernel) (by decide +kernel))))))))) (.cons (.ret .bl)
    .nil) .nil)
    (.cons (.iff (.val (fun _ _ => rfl) (.isi (T := "list") (by decide +kernel) (by decide +kernel) (by decide +kernel) (by decide +kernel) (fun _ => rfl) (.var rfl (by decide +kernel) (by decide +kernel)))) (.cons (.app rfl (by decide +kernel) (by decide +kernel) (fun _ => rfl) (fun _ => rfl) (fun _ => rfl) rfl (fun _ => rfl) (.var rfl (by decide +kernel) (by decide +kernel)))
    .nil) .nil)
    (.cons (.iff (.not (.cmp rfl rfl (.fld (fun _ h => h) (fun _ => rfl) (.var rfl (by decide +kernel) (by decide +kernel))) (.var rfl (by decide +kernel) (by decide +kernel)))) (.cons (.ret .bl)
    .nil) .nil)
    .nil)))))
    (.cons (.set rfl (by decide +kernel) (.new (.lst (.cons (fun _ => rfl) (.fld (fun _ h => h) (fun _ => rfl) (.mke0 (by decide +kernel) (by decide +kernel) (by decide +kernel))) (.cons (fun _ => rfl) (.fld (fun _ h => h) (fun _ => rfl) (.mke0 (by decide +kernel) (by decide +kernel) (by decide +kernel))) (.cons (fun _ => rfl) (.fld (fun _ h => h) (fun _ => rfl) (.mke0 (by decide +kernel) (by decide +kernel) (by decide +kernel))) (.cons (fun _ => rfl) (.fld (fun _ h => h) (fun _ => rfl) (.mke0 (by decide +kernel) (by decide +kernel) (by decide +kernel))) (.cons (fun _ => rfl) (.fld (fun _ h => h) (fun _ => rfl) (.mke0 (by decide +kernel) (by decide +kernel) (by decide +kernel))) (.cons (fun _ => rfl) (.fld (fun _ h => h) (fun _ => rfl) (.mke0 (by decide +kernel) (by decide +kernel) (by decide +kernel))) .nil)))))))) (fun _ _ => rfl))
    (.cons (.set rfl (by decide +kernel) (.bin rfl (.var rfl (by decide +kernel) (by decide +kernel)) (.new (.lst (.cons (fun _ => rfl) (.fld (fun _ h => h) (fun _ => rfl) (.mke0 (by decide +kernel) (by decide +kernel) (by decide +kernel))) (.cons (fun _ => rfl) (.fld (fun _ h => h) (fun _ => rfl) (.mke0 (by decide +kernel) (by decide +kernel) (by decide +kernel))) (.cons (fun _ => rfl) (.fld (fun _ h => h) (fun _ => rfl) (.mke0 (by decide +kernel) (by decide +kernel) (by decide +kernel))) (.cons (fun _ => rfl) (.fld (fun _ h => h) (fun _ => rfl) (.mke0 (by decide +kernel) (by decide +kernel) (by decide +kernel))) (.cons (fun _ => rfl) (.fld (fun _ h => h) (fun _ => rfl) (.mke0 (by decide +kernel) (by decide +kernel) (by decide +kernel))) .nil)))))))) (fun _ _ => rfl))
    (.cons (.set rfl (by decide +kernel) (.bin rfl (.var rfl (by decide +kernel) (by decide +kernel)) (.new (.lst (.cons (fun _ => rfl) (.fld (fun _ h => h) (fun _ => rfl) (.mke0 (by decide +kernel) (by decide +kernel) (by decide +kernel))) (.cons (fun _ => rfl) (.fld (fun _ h => h) (fun _ => rfl) (.mke0 (by decide +kernel) (by decide +kernel) (by decide +kernel))) (.cons (fun _ => rfl) (.fld (fun _ h => h) (fun _ => rfl) (.mke0 (by decide +kernel) (by decide +kernel) (by decide +kernel))) (.cons (fun _ => rfl) (.fld (fun _ h => h) (fun _ => rfl) (.mke0 (by decide +kernel) (by decide +kernel) (by decide +kernel))) .nil))))))) (fun _ _ => rfl))
    (.cons (.iff (.bool (.or (.cmp rfl rfl (.new (.compIf (own := [("_law_field", 6)]) (by decide +kernel) rfl (fun _ _ => rfl) (.val (.var rfl (by decide +kernel) (by decide +kernel))) (.one rfl (by decide +kernel)) (.isc rfl (.var rfl (by decide +kernel) (by decide +kernel))) (.var rfl (by decide +kernel) (by decide +kernel)))) (.new (.lst .nil))) (.or (.cmp rfl rfl (.fld (fun _ h => h) (fun _ => rfl) (.mkeK (by decide +kernel) (by decide +kernel) (by decide +kernel) .int)) .int) (.or1 (.cmp rfl rfl (.fld (fun _ h => h) (fun _ => rfl) (.mkeK (by decide +kernel) (by decide +kernel) (by decide +kernel) (.tup (.cons (fun _ => rfl) .int .nil)))) (.tup (.cons (fun _ => rfl) .int .nil))))))) (.cons (.ret .bl)
    .nil) .nil)
    (.cons (.iff (.bool (.or (.cmp rfl rfl (.call (by decide +kernel) (by decide +kernel) (by decide +kernel) (.cons (fun _ => rfl) (.mkb (by decide +kernel) (by decide +kernel) (by decide +kernel)) .nil)) (.new (.comp (own := [("_law_place", 7)]) (by decide +kernel) rfl (fun _ _ => rfl) (.range1 (by decide +kernel) .int (fun _ => rfl)) (.one rfl (by decide +kernel)) (.cmp rfl rfl (.var rfl (by decide +kernel) (by decide +kernel)) .int)))) (.or1 (.cmp rfl rfl (.call (by decide +kernel) (by decide +kernel) (by decide +kernel) (.cons (fun _ => rfl) (.mkb (by decide +kernel) (by decide +kernel) (by decide +kernel)) .nil)) (.new (.comp (own := [("_law_place", 7)]) (by decide +kernel) rfl (fun _ _ => rfl) (.range1 (by decide +kernel) .int (fun _ => rfl)) (.one rfl (by decide +kernel)) (.cmp rfl rfl (.var rfl (by decide +kernel) (by decide +kernel)) .int))))))) (.cons (.ret .bl)
    .nil) .nil)
    (.cons (.ret (.and (.isx (.tail _ (.tail _ (.tail _ (.tail _ (.tail _ (.tail _ (.tail _ (.tail _ (.tail _ (.tail _ (.tail _ (.tail _ (.tail _ (.tail _ (.tail _ (.tail _ (.tail _ (.head _)))))))))))))))))) (by decide +kernel) (by decide +kernel) (by decide +kernel) (fun _ => rfl) (.mkb (by decide +kernel) (by decide +kernel) (by decide +kernel))) (.and (.isx (.tail _ (.tail _ (.tail _ (.tail _ (.tail _ (.tail _ (.tail _ (.tail _ (.tail _ (.tail _ (.tail _ (.tail _ (.tail _ (.tail _ (.tail _ (.tail _ (.tail _ (.head _)))))))))))))))))) (by decide +kernel) (by decide +kernel) (by decide +kernel) (fun _ => rfl) (.mkb (by decide +kernel) (by decide +kernel) (by decide +kernel))) (.one (.isv (isv_pre _ _) (by decide +kernel) (by decide +kernel) (fun _ => rfl) (.mkb (by decide +kernel) (by decide +kernel) (by decide +kernel)))))))
    .nil)))))))))
theorem c7 : L2.FnScope n7 ["_law_script"] (L2.defScope s7) := ⟨rfl, rfl, rfl, by decide +kernel, rfl, by decide +kernel, by decide +kernel⟩
set_option maxHeartbeats 4000000 in
theorem all_mk {l : PySem.W.OpenLaw} {w : World} {K : PySem.W.Frag} {h : Heap} {mg : Str → Option Value} {fa f0 f1 f2 f3 f4 f5 f6 f7 : Addr} (X : K.In h) (E : h.Ns mainGlobals mg) (hfa : mg "law" = some (.ref fa))
    {od0 an0 od1 an1 od2 an2 od3 an3 od4 an4 od5 an5 od6 an6 od7 an7 : Option Addr} {sl0 sl1 sl2 sl3 sl4 sl5 sl6 sl7 : Array (Option Value)} {oc0 kV0 dc0 pm0 cd0 ct0 oc1 kV1 dc1 pm1 cd1 ct1 oc2 kV2 dc2 pm2 cd2 ct2 oc3 kV3 dc3 pm3 cd3 ct3 oc4 kV4 dc4 pm4 cd4 ct4 oc5 kV5 dc5 pm5 cd5 ct5 oc6 kV6 dc6 pm6 cd6 ct6 oc7 kV7 dc7 pm7 cd7 ct7 : Value}
    (a0 : PySem.W.nsIn K mainGlobals "_law_cell" = some (some (.ref f0))) (l0 : K.lookup f0 = some ⟨oc0, od0, .func (PySem.W.fnOf "_law_cell" "_law_cell" (L2.defArgs s0) (L2.defBody s0) (L2.defScope s0) .none kV0 dc0 pm0 an0 cd0 ct0), sl0⟩) (e0 : PySem.W.codeIn K cd0 "_law_cell" = true) (k0 : PySem.W.keepIn K (.ref f0) = true)
    (a1 : PySem.W.nsIn K mainGlobals "_law_generator" = some (some (.ref f1))) (l1 : K.lookup f1 = some ⟨oc1, od1, .func (PySem.W.fnOf "_law_generator" "_law_generator" (L2.defArgs s1) (L2.defBody s1) (L2.defScope s1) .none kV1 dc1 pm1 an1 cd1 ct1), sl1⟩) (e1 : PySem.W.codeIn K cd1 "_law_generator" = true) (k1 : PySem.W.keepIn K (.ref f1) = true)
    (a2 : PySem.W.nsIn K mainGlobals "_law_hash" = some (some (.ref f2))) (l2 : K.lookup f2 = some ⟨oc2, od2, .func (PySem.W.fnOf "_law_hash" "_law_hash" (L2.defArgs s2) (L2.defBody s2) (L2.defScope s2) .none kV2 dc2 pm2 an2 cd2 ct2), sl2⟩) (e2 : PySem.W.codeIn K cd2 "_law_hash" = true) (k2 : PySem.W.keepIn K (.ref f2) = true)
    (a3 : PySem.W.nsIn K mainGlobals "_law_random" = some (some (.ref f3))) (l3 : K.lookup f3 = some ⟨oc3, od3, .func (PySem.W.fnOf "_law_random" "_law_random" (L2.defArgs s3) (L2.defBody s3) (L2.defScope s3) .none kV3 dc3 pm3 an3 cd3 ct3), sl3⟩) (e3 : PySem.W.codeIn K cd3 "_law_random" = true) (k3 : PySem.W.keepIn K (.ref f3) = true)
    (a4 : PySem.W.nsIn K mainGlobals "_law_first" = some (some (.ref f4))) (l4 : K.lookup f4 = some ⟨oc4, od4, .func (PySem.W.fnOf "_law_first" "_law_first" (L2.defArgs s4) (L2.defBody s4) (L2.defScope s4) .none kV4 dc4 pm4 an4 cd4 ct4), sl4⟩) (e4 : PySem.W.codeIn K cd4 "_law_first" = true) (k4 : PySem.W.keepIn K (.ref f4) = true)
    (a5 : PySem.W.nsIn K mainGlobals "_law_second" = some (some (.ref f5))) (l5 : K.lookup f5 = some ⟨oc5, od5, .func (PySem.W.fnOf "_law_second" "_law_second" (L2.defArgs s5) (L2.defBody s5) (L2.defScope s5) .none kV5 dc5 pm5 an5 cd5 ct5), sl5⟩) (e5 : PySem.W.codeIn K cd5 "_law_second" = true) (k5 : PySem.W.keepIn K (.ref f5) = true)
    (a6 : PySem.W.nsIn K mainGlobals "_law_flags" = some (some (.ref f6))) (l6 : K.lookup f6 = some ⟨oc6, od6, .func (PySem.W.fnOf "_law_flags" "_law_flags" (L2.defArgs s6) (L2.defBody s6) (L2.defScope s6) .none kV6 dc6 pm6 an6 cd6 ct6), sl6⟩) (e6 : PySem.W.codeIn K cd6 "_law_flags" = true) (k6 : PySem.W.keepIn K (.ref f6) = true)
    (a7 : PySem.W.nsIn K mainGlobals "law" = some (some (.ref f7))) (l7 : K.lookup f7 = some ⟨oc7, od7, .func (PySem.W.fnOf "law" "law" (L2.defArgs s7) (L2.defBody s7) (L2.defScope s7) .none kV7 dc7 pm7 an7 cd7 ct7), sl7⟩) (e7 : PySem.W.codeIn K cd7 "law" = true) (k7 : PySem.W.keepIn K (.ref f7) = true)
    (z0 : PySem.W.nsIn K mainGlobals "len" = some none)
    (z1 : PySem.W.nsIn K mainGlobals "sum" = some none)
    (z2 : PySem.W.nsIn K mainGlobals "int" = some none)
    (z3 : PySem.W.nsIn K mainGlobals "max" = some none)
    (z4 : PySem.W.nsIn K mainGlobals "range" = some none)
    (z5 : PySem.W.nsIn K mainGlobals "isinstance" = some none)
    (z6 : PySem.W.nsIn K mainGlobals "ValueError" = some none)
    (z7 : PySem.W.nsIn K mainGlobals "list" = some none)
    (q_sup : PySem.W.nsIn K mainGlobals "super" = some none) (q_no : PySem.W.nsIn K cStatics "thirdparty.any" = some none) (q_top : (l.prog.main.scope.names.lookup ("super" : Str)).isSome = false) (q_sp : PySem.W.specialIn K (.builtin "object.__class__") "__get__" = some (some (.builtin "getset_descriptor.__get__"))) (q_tk : PySem.W.takesIn K (.builtin "object.__class__") = some true)
    {B0_ : Addr} {B0_nm B0_q : Str} {B0_N : Addr} {B0_bs B0_bm : List Value} {B0_sn : List Str} {B0_sub : List Value} {B0_ab : Bool} {B0_col : Option Bool} {B0_dd : Option Addr} {B0_k0 B0_k1 B0_k2 B0_k3 B0_k5 : Option Value}
    (y0A : PySem.W.nsIn K mainGlobals "BillError" = some (some (.ref B0_))) (y0L : K.lookup B0_ = some (excClassObj B0_nm B0_q B0_ B0_N B0_bs B0_bm true B0_sn B0_sub B0_ab B0_col B0_dd B0_k0 B0_k1 B0_k2 B0_k3 B0_k5 "ValueError.__new__")) (y0I : PySem.W.findIn K (.ref B0_) "__init__" = some (some (.builtin "ValueError.__init__")))
    (y0E : PySem.W.subIn K (.ref B0_) (.type "BaseException") = some true) (y0H : PySem.W.hasDictIn K B0_ = true) (y0T : PySem.W.typeIn K (.ref B0_) = some (.type "type")) (y0R : PySem.HandSPX.refsVE B0_bm = true) (y0X : PySem.W.excTail PySem.ErX.bmVE B0_bm = true) (y0C : PySem.W.isClsIn K B0_ = true)
    {C0_ C0_f : Addr} {C0_nm C0_q : Str} {C0_N : Addr} {C0_bs : List Value} {C0_sn : List Str} {C0_sub : List Value} {C0_ab : Bool} {C0_col : Option Bool} {C0_dd : Option Addr} {C0_k0 C0_k1 C0_k2 C0_k3 C0_k5 : Option Value}
    {C0_oc : Value} {C0_od : Option Addr} {C0_fq : Str} {C0_dT : Addr} {C0_doc C0_pm : Value} {C0_an : Option Addr} {C0_cda C0_cc : Addr} {C0_ct : Value} {C0_osl C0_ccs C0_csl C0_tsl : Array (Option Value)} {C0_ccl C0_cl C0_tcl : Value} {C0_cdd C0_cld C0_tdd : Option Addr} {C0_vs : Array Value} {C0_file : Str} {C0_tf : Tok} {C0_tn : Nat}
    (x0A : PySem.W.nsIn K mainGlobals "InvalidNumber" = some (some (.ref C0_))) (x0L : K.lookup C0_ = some (excClassObj C0_nm C0_q C0_ C0_N C0_bs (.ref B0_ :: B0_bm) true C0_sn C0_sub C0_ab C0_col C0_dd C0_k0 C0_k1 C0_k2 C0_k3 C0_k5 "ValueError.__new__")) (x0m : PySem.W.mroIn K C0_ (.ref C0_) = some true) (x0v : PySem.W.subIn K (.ref C0_) (.type "ValueError") = some true) (x0s : PySem.W.findIn K (.ref C0_) "__setattr__" = some (some (.builtin "object.__setattr__"))) (x0g : PySem.W.findIn K (.ref C0_) "__getattribute__" = some (some (.builtin "BaseException.__getattribute__"))) (x0h : PySem.W.findIn K (.ref C0_) "__getattr__" = some none) (x0n : PySem.W.findIn K (.ref C0_) "value" = some none) (x0i : PySem.W.findIn K (.ref C0_) "__init__" = some (some (.ref C0_f))) (x0t : PySem.W.typeIn K (.ref C0_f) = some (.type "function")) (x0k : PySem.W.keepIn K (.ref C0_) = true) (x0e : PySem.W.subIn K (.ref C0_) (.type "BaseException") = some true) (x0y : PySem.W.typeIn K (.ref C0_) = some (.type "type")) (x0d : PySem.W.hasDictIn K C0_ = true) (x0c : PySem.W.findIn K (.ref C0_) "__class__" = some (some (.builtin "object.__class__"))) (x0o : PySem.W.mroIn K C0_ (.type "object") = some true) (x0z : PySem.W.isClsIn K C0_ = true) (x0F : K.lookup C0_f = some ⟨C0_oc, C0_od, .func (PySem.W.ksFn "__init__" C0_fq (PySem.ErX.iA ⟨6, 17, 6, 21⟩ ⟨6, 23, 6, 28⟩ ⟨6, 29, 6, 33⟩) (PySem.ErX.iB ⟨7, 8, 7, 13⟩ ⟨7, 8, 7, 15⟩ ⟨7, 8, 7, 24⟩ ⟨7, 8, 7, 26⟩ ⟨7, 8, 7, 26⟩ ⟨8, 8, 8, 12⟩ ⟨8, 8, 8, 18⟩ ⟨8, 21, 8, 26⟩ ⟨8, 8, 8, 26⟩) PySem.ErX.iS (.ref C0_dT) .none C0_doc C0_pm C0_an (.ref C0_cda) C0_ct C0_cc), C0_osl⟩) (x0D : PySem.W.codeIn K (.ref C0_cda) C0_fq = true) (x0K : K.lookup C0_cda = some ⟨C0_ccl, C0_cdd, .fields C0_vs, C0_ccs⟩) (x0V : C0_vs[2]? = some (.str C0_file C0_tf)) (x0P : ((l.prog.main.file : Str) == C0_file) = true) (x0Q : K.lookup C0_cc = some ⟨C0_cl, C0_cld, .cell (some (.ref C0_)), C0_csl⟩) (x0U : K.lookup C0_dT = some ⟨C0_tcl, C0_tdd, .seq #[.none] C0_tn, C0_tsl⟩)
    {C1_ C1_f : Addr} {C1_nm C1_q : Str} {C1_N : Addr} {C1_bs : List Value} {C1_sn : List Str} {C1_sub : List Value} {C1_ab : Bool} {C1_col : Option Bool} {C1_dd : Option Addr} {C1_k0 C1_k1 C1_k2 C1_k3 C1_k5 : Option Value}
    {C1_oc : Value} {C1_od : Option Addr} {C1_fq : Str} {C1_dT : Addr} {C1_doc C1_pm : Value} {C1_an : Option Addr} {C1_cda C1_cc : Addr} {C1_ct : Value} {C1_osl C1_ccs C1_csl C1_tsl : Array (Option Value)} {C1_ccl C1_cl C1_tcl : Value} {C1_cdd C1_cld C1_tdd : Option Addr} {C1_vs : Array Value} {C1_file : Str} {C1_tf : Tok} {C1_tn : Nat}
    (x1A : PySem.W.nsIn K mainGlobals "InvalidKind" = some (some (.ref C1_))) (x1L : K.lookup C1_ = some (excClassObj C1_nm C1_q C1_ C1_N C1_bs (.ref B0_ :: B0_bm) true C1_sn C1_sub C1_ab C1_col C1_dd C1_k0 C1_k1 C1_k2 C1_k3 C1_k5 "ValueError.__new__")) (x1m : PySem.W.mroIn K C1_ (.ref C1_) = some true) (x1v : PySem.W.subIn K (.ref C1_) (.type "ValueError") = some true) (x1s : PySem.W.findIn K (.ref C1_) "__setattr__" = some (some (.builtin "object.__setattr__"))) (x1g : PySem.W.findIn K (.ref C1_) "__getattribute__" = some (some (.builtin "BaseException.__getattribute__"))) (x1h : PySem.W.findIn K (.ref C1_) "__getattr__" = some none) (x1n : PySem.W.findIn K (.ref C1_) "value" = some none) (x1i : PySem.W.findIn K (.ref C1_) "__init__" = some (some (.ref C1_f))) (x1t : PySem.W.typeIn K (.ref C1_f) = some (.type "function")) (x1k : PySem.W.keepIn K (.ref C1_) = true) (x1e : PySem.W.subIn K (.ref C1_) (.type "BaseException") = some true) (x1y : PySem.W.typeIn K (.ref C1_) = some (.type "type")) (x1d : PySem.W.hasDictIn K C1_ = true) (x1c : PySem.W.findIn K (.ref C1_) "__class__" = some (some (.builtin "object.__class__"))) (x1o : PySem.W.mroIn K C1_ (.type "object") = some true) (x1z : PySem.W.isClsIn K C1_ = true) (x1F : K.lookup C1_f = some ⟨C1_oc, C1_od, .func (PySem.W.ksFn "__init__" C1_fq (PySem.ErX.iA ⟨11, 17, 11, 21⟩ ⟨11, 23, 11, 28⟩ ⟨11, 29, 11, 33⟩) (PySem.ErX.iB ⟨12, 8, 12, 13⟩ ⟨12, 8, 12, 15⟩ ⟨12, 8, 12, 24⟩ ⟨12, 8, 12, 26⟩ ⟨12, 8, 12, 26⟩ ⟨13, 8, 13, 12⟩ ⟨13, 8, 13, 18⟩ ⟨13, 21, 13, 26⟩ ⟨13, 8, 13, 26⟩) PySem.ErX.iS (.ref C1_dT) .none C1_doc C1_pm C1_an (.ref C1_cda) C1_ct C1_cc), C1_osl⟩) (x1D : PySem.W.codeIn K (.ref C1_cda) C1_fq = true) (x1K : K.lookup C1_cda = some ⟨C1_ccl, C1_cdd, .fields C1_vs, C1_ccs⟩) (x1V : C1_vs[2]? = some (.str C1_file C1_tf)) (x1P : ((l.prog.main.file : Str) == C1_file) = true) (x1Q : K.lookup C1_cc = some ⟨C1_cl, C1_cld, .cell (some (.ref C1_)), C1_csl⟩) (x1U : K.lookup C1_dT = some ⟨C1_tcl, C1_tdd, .seq #[.none] C1_tn, C1_tsl⟩)
    {C2_ C2_f : Addr} {C2_nm C2_q : Str} {C2_N : Addr} {C2_bs : List Value} {C2_sn : List Str} {C2_sub : List Value} {C2_ab : Bool} {C2_col : Option Bool} {C2_dd : Option Addr} {C2_k0 C2_k1 C2_k2 C2_k3 C2_k5 : Option Value}
    {C2_oc : Value} {C2_od : Option Addr} {C2_fq : Str} {C2_dT : Addr} {C2_doc C2_pm : Value} {C2_an : Option Addr} {C2_cda C2_cc : Addr} {C2_ct : Value} {C2_osl C2_ccs C2_csl C2_tsl : Array (Option Value)} {C2_ccl C2_cl C2_tcl : Value} {C2_cdd C2_cld C2_tdd : Option Addr} {C2_vs : Array Value} {C2_file : Str} {C2_tf : Tok} {C2_tn : Nat}
    (x2A : PySem.W.nsIn K mainGlobals "InvalidValue" = some (some (.ref C2_))) (x2L : K.lookup C2_ = some (excClassObj C2_nm C2_q C2_ C2_N C2_bs (.ref B0_ :: B0_bm) true C2_sn C2_sub C2_ab C2_col C2_dd C2_k0 C2_k1 C2_k2 C2_k3 C2_k5 "ValueError.__new__")) (x2m : PySem.W.mroIn K C2_ (.ref C2_) = some true) (x2v : PySem.W.subIn K (.ref C2_) (.type "ValueError") = some true) (x2s : PySem.W.findIn K (.ref C2_) "__setattr__" = some (some (.builtin "object.__setattr__"))) (x2g : PySem.W.findIn K (.ref C2_) "__getattribute__" = some (some (.builtin "BaseException.__getattribute__"))) (x2h : PySem.W.findIn K (.ref C2_) "__getattr__" = some none) (x2n : PySem.W.findIn K (.ref C2_) "value" = some none) (x2i : PySem.W.findIn K (.ref C2_) "__init__" = some (some (.ref C2_f))) (x2t : PySem.W.typeIn K (.ref C2_f) = some (.type "function")) (x2k : PySem.W.keepIn K (.ref C2_) = true) (x2e : PySem.W.subIn K (.ref C2_) (.type "BaseException") = some true) (x2y : PySem.W.typeIn K (.ref C2_) = some (.type "type")) (x2d : PySem.W.hasDictIn K C2_ = true) (x2c : PySem.W.findIn K (.ref C2_) "__class__" = some (some (.builtin "object.__class__"))) (x2o : PySem.W.mroIn K C2_ (.type "object") = some true) (x2z : PySem.W.isClsIn K C2_ = true) (x2F : K.lookup C2_f = some ⟨C2_oc, C2_od, .func (PySem.W.ksFn "__init__" C2_fq (PySem.ErX.iA ⟨16, 17, 16, 21⟩ ⟨16, 23, 16, 28⟩ ⟨16, 29, 16, 33⟩) (PySem.ErX.iB ⟨17, 8, 17, 13⟩ ⟨17, 8, 17, 15⟩ ⟨17, 8, 17, 24⟩ ⟨17, 8, 17, 26⟩ ⟨17, 8, 17, 26⟩ ⟨18, 8, 18, 12⟩ ⟨18, 8, 18, 18⟩ ⟨18, 21, 18, 26⟩ ⟨18, 8, 18, 26⟩) PySem.ErX.iS (.ref C2_dT) .none C2_doc C2_pm C2_an (.ref C2_cda) C2_ct C2_cc), C2_osl⟩) (x2D : PySem.W.codeIn K (.ref C2_cda) C2_fq = true) (x2K : K.lookup C2_cda = some ⟨C2_ccl, C2_cdd, .fields C2_vs, C2_ccs⟩) (x2V : C2_vs[2]? = some (.str C2_file C2_tf)) (x2P : ((l.prog.main.file : Str) == C2_file) = true) (x2Q : K.lookup C2_cc = some ⟨C2_cl, C2_cld, .cell (some (.ref C2_)), C2_csl⟩) (x2U : K.lookup C2_dT = some ⟨C2_tcl, C2_tdd, .seq #[.none] C2_tn, C2_tsl⟩)
    {C3_ C3_f : Addr} {C3_nm C3_q : Str} {C3_N : Addr} {C3_bs : List Value} {C3_sn : List Str} {C3_sub : List Value} {C3_ab : Bool} {C3_col : Option Bool} {C3_dd : Option Addr} {C3_k0 C3_k1 C3_k2 C3_k3 C3_k5 : Option Value}
    {C3_oc : Value} {C3_od : Option Addr} {C3_fq : Str} {C3_dT : Addr} {C3_doc C3_pm : Value} {C3_an : Option Addr} {C3_cda C3_cc : Addr} {C3_ct : Value} {C3_osl C3_ccs C3_csl C3_tsl : Array (Option Value)} {C3_ccl C3_cl C3_tcl : Value} {C3_cdd C3_cld C3_tdd : Option Addr} {C3_vs : Array Value} {C3_file : Str} {C3_tf : Tok} {C3_tn : Nat}
    (x3A : PySem.W.nsIn K mainGlobals "InvalidProgram" = some (some (.ref C3_))) (x3L : K.lookup C3_ = some (excClassObj C3_nm C3_q C3_ C3_N C3_bs (.ref B0_ :: B0_bm) true C3_sn C3_sub C3_ab C3_col C3_dd C3_k0 C3_k1 C3_k2 C3_k3 C3_k5 "ValueError.__new__")) (x3m : PySem.W.mroIn K C3_ (.ref C3_) = some true) (x3v : PySem.W.subIn K (.ref C3_) (.type "ValueError") = some true) (x3s : PySem.W.findIn K (.ref C3_) "__setattr__" = some (some (.builtin "object.__setattr__"))) (x3g : PySem.W.findIn K (.ref C3_) "__getattribute__" = some (some (.builtin "BaseException.__getattribute__"))) (x3h : PySem.W.findIn K (.ref C3_) "__getattr__" = some none) (x3n : PySem.W.findIn K (.ref C3_) "value" = some none) (x3i : PySem.W.findIn K (.ref C3_) "__init__" = some (some (.ref C3_f))) (x3t : PySem.W.typeIn K (.ref C3_f) = some (.type "function")) (x3k : PySem.W.keepIn K (.ref C3_) = true) (x3e : PySem.W.subIn K (.ref C3_) (.type "BaseException") = some true) (x3y : PySem.W.typeIn K (.ref C3_) = some (.type "type")) (x3d : PySem.W.hasDictIn K C3_ = true) (x3c : PySem.W.findIn K (.ref C3_) "__class__" = some (some (.builtin "object.__class__"))) (x3o : PySem.W.mroIn K C3_ (.type "object") = some true) (x3z : PySem.W.isClsIn K C3_ = true) (x3F : K.lookup C3_f = some ⟨C3_oc, C3_od, .func (PySem.W.ksFn "__init__" C3_fq (PySem.ErX.iA ⟨21, 17, 21, 21⟩ ⟨21, 23, 21, 28⟩ ⟨21, 29, 21, 33⟩) (PySem.ErX.iB ⟨22, 8, 22, 13⟩ ⟨22, 8, 22, 15⟩ ⟨22, 8, 22, 24⟩ ⟨22, 8, 22, 26⟩ ⟨22, 8, 22, 26⟩ ⟨23, 8, 23, 12⟩ ⟨23, 8, 23, 18⟩ ⟨23, 21, 23, 26⟩ ⟨23, 8, 23, 26⟩) PySem.ErX.iS (.ref C3_dT) .none C3_doc C3_pm C3_an (.ref C3_cda) C3_ct C3_cc), C3_osl⟩) (x3D : PySem.W.codeIn K (.ref C3_cda) C3_fq = true) (x3K : K.lookup C3_cda = some ⟨C3_ccl, C3_cdd, .fields C3_vs, C3_ccs⟩) (x3V : C3_vs[2]? = some (.str C3_file C3_tf)) (x3P : ((l.prog.main.file : Str) == C3_file) = true) (x3Q : K.lookup C3_cc = some ⟨C3_cl, C3_cld, .cell (some (.ref C3_)), C3_csl⟩) (x3U : K.lookup C3_dT = some ⟨C3_tcl, C3_tdd, .seq #[.none] C3_tn, C3_tsl⟩)
    {C4_ C4_f : Addr} {C4_nm C4_q : Str} {C4_N : Addr} {C4_bs : List Value} {C4_sn : List Str} {C4_sub : List Value} {C4_ab : Bool} {C4_col : Option Bool} {C4_dd : Option Addr} {C4_k0 C4_k1 C4_k2 C4_k3 C4_k5 : Option Value}
    {C4_oc : Value} {C4_od : Option Addr} {C4_fq : Str} {C4_dT : Addr} {C4_doc C4_pm : Value} {C4_an : Option Addr} {C4_cda C4_cc : Addr} {C4_ct : Value} {C4_osl C4_ccs C4_csl C4_tsl : Array (Option Value)} {C4_ccl C4_cl C4_tcl : Value} {C4_cdd C4_cld C4_tdd : Option Addr} {C4_vs : Array Value} {C4_file : Str} {C4_tf : Tok} {C4_tn : Nat}
    (x4A : PySem.W.nsIn K mainGlobals "InvalidName" = some (some (.ref C4_))) (x4L : K.lookup C4_ = some (excClassObj C4_nm C4_q C4_ C4_N C4_bs (.ref B0_ :: B0_bm) true C4_sn C4_sub C4_ab C4_col C4_dd C4_k0 C4_k1 C4_k2 C4_k3 C4_k5 "ValueError.__new__")) (x4m : PySem.W.mroIn K C4_ (.ref C4_) = some true) (x4v : PySem.W.subIn K (.ref C4_) (.type "ValueError") = some true) (x4s : PySem.W.findIn K (.ref C4_) "__setattr__" = some (some (.builtin "object.__setattr__"))) (x4g : PySem.W.findIn K (.ref C4_) "__getattribute__" = some (some (.builtin "BaseException.__getattribute__"))) (x4h : PySem.W.findIn K (.ref C4_) "__getattr__" = some none) (x4n : PySem.W.findIn K (.ref C4_) "value" = some none) (x4i : PySem.W.findIn K (.ref C4_) "__init__" = some (some (.ref C4_f))) (x4t : PySem.W.typeIn K (.ref C4_f) = some (.type "function")) (x4k : PySem.W.keepIn K (.ref C4_) = true) (x4e : PySem.W.subIn K (.ref C4_) (.type "BaseException") = some true) (x4y : PySem.W.typeIn K (.ref C4_) = some (.type "type")) (x4d : PySem.W.hasDictIn K C4_ = true) (x4c : PySem.W.findIn K (.ref C4_) "__class__" = some (some (.builtin "object.__class__"))) (x4o : PySem.W.mroIn K C4_ (.type "object") = some true) (x4z : PySem.W.isClsIn K C4_ = true) (x4F : K.lookup C4_f = some ⟨C4_oc, C4_od, .func (PySem.W.ksFn "__init__" C4_fq (PySem.ErX.iA ⟨26, 17, 26, 21⟩ ⟨26, 23, 26, 28⟩ ⟨26, 29, 26, 33⟩) (PySem.ErX.iB ⟨27, 8, 27, 13⟩ ⟨27, 8, 27, 15⟩ ⟨27, 8, 27, 24⟩ ⟨27, 8, 27, 26⟩ ⟨27, 8, 27, 26⟩ ⟨28, 8, 28, 12⟩ ⟨28, 8, 28, 18⟩ ⟨28, 21, 28, 26⟩ ⟨28, 8, 28, 26⟩) PySem.ErX.iS (.ref C4_dT) .none C4_doc C4_pm C4_an (.ref C4_cda) C4_ct C4_cc), C4_osl⟩) (x4D : PySem.W.codeIn K (.ref C4_cda) C4_fq = true) (x4K : K.lookup C4_cda = some ⟨C4_ccl, C4_cdd, .fields C4_vs, C4_ccs⟩) (x4V : C4_vs[2]? = some (.str C4_file C4_tf)) (x4P : ((l.prog.main.file : Str) == C4_file) = true) (x4Q : K.lookup C4_cc = some ⟨C4_cl, C4_cld, .cell (some (.ref C4_)), C4_csl⟩) (x4U : K.lookup C4_dT = some ⟨C4_tcl, C4_tdd, .seq #[.none] C4_tn, C4_tsl⟩)
    {C5_ C5_f : Addr} {C5_nm C5_q : Str} {C5_N : Addr} {C5_bs : List Value} {C5_sn : List Str} {C5_sub : List Value} {C5_ab : Bool} {C5_col : Option Bool} {C5_dd : Option Addr} {C5_k0 C5_k1 C5_k2 C5_k3 C5_k5 : Option Value}
    {C5_oc : Value} {C5_od : Option Addr} {C5_fq : Str} {C5_dT : Addr} {C5_doc C5_pm : Value} {C5_an : Option Addr} {C5_cda C5_cc : Addr} {C5_ct : Value} {C5_osl C5_ccs C5_csl C5_tsl : Array (Option Value)} {C5_ccl C5_cl C5_tcl : Value} {C5_cdd C5_cld C5_tdd : Option Addr} {C5_vs : Array Value} {C5_file : Str} {C5_tf : Tok} {C5_tn : Nat}
    (x5A : PySem.W.nsIn K mainGlobals "InvalidBill" = some (some (.ref C5_))) (x5L : K.lookup C5_ = some (excClassObj C5_nm C5_q C5_ C5_N C5_bs (.ref B0_ :: B0_bm) true C5_sn C5_sub C5_ab C5_col C5_dd C5_k0 C5_k1 C5_k2 C5_k3 C5_k5 "ValueError.__new__")) (x5m : PySem.W.mroIn K C5_ (.ref C5_) = some true) (x5v : PySem.W.subIn K (.ref C5_) (.type "ValueError") = some true) (x5s : PySem.W.findIn K (.ref C5_) "__setattr__" = some (some (.builtin "object.__setattr__"))) (x5g : PySem.W.findIn K (.ref C5_) "__getattribute__" = some (some (.builtin "BaseException.__getattribute__"))) (x5h : PySem.W.findIn K (.ref C5_) "__getattr__" = some none) (x5n : PySem.W.findIn K (.ref C5_) "value" = some none) (x5i : PySem.W.findIn K (.ref C5_) "__init__" = some (some (.ref C5_f))) (x5t : PySem.W.typeIn K (.ref C5_f) = some (.type "function")) (x5k : PySem.W.keepIn K (.ref C5_) = true) (x5e : PySem.W.subIn K (.ref C5_) (.type "BaseException") = some true) (x5y : PySem.W.typeIn K (.ref C5_) = some (.type "type")) (x5d : PySem.W.hasDictIn K C5_ = true) (x5c : PySem.W.findIn K (.ref C5_) "__class__" = some (some (.builtin "object.__class__"))) (x5o : PySem.W.mroIn K C5_ (.type "object") = some true) (x5z : PySem.W.isClsIn K C5_ = true) (x5F : K.lookup C5_f = some ⟨C5_oc, C5_od, .func (PySem.W.ksFn "__init__" C5_fq (PySem.ErX.iA ⟨31, 17, 31, 21⟩ ⟨31, 23, 31, 28⟩ ⟨31, 29, 31, 33⟩) (PySem.ErX.iB ⟨32, 8, 32, 13⟩ ⟨32, 8, 32, 15⟩ ⟨32, 8, 32, 24⟩ ⟨32, 8, 32, 26⟩ ⟨32, 8, 32, 26⟩ ⟨33, 8, 33, 12⟩ ⟨33, 8, 33, 18⟩ ⟨33, 21, 33, 26⟩ ⟨33, 8, 33, 26⟩) PySem.ErX.iS (.ref C5_dT) .none C5_doc C5_pm C5_an (.ref C5_cda) C5_ct C5_cc), C5_osl⟩) (x5D : PySem.W.codeIn K (.ref C5_cda) C5_fq = true) (x5K : K.lookup C5_cda = some ⟨C5_ccl, C5_cdd, .fields C5_vs, C5_ccs⟩) (x5V : C5_vs[2]? = some (.str C5_file C5_tf)) (x5P : ((l.prog.main.file : Str) == C5_file) = true) (x5Q : K.lookup C5_cc = some ⟨C5_cl, C5_cld, .cell (some (.ref C5_)), C5_csl⟩) (x5U : K.lookup C5_dT = some ⟨C5_tcl, C5_tdd, .seq #[.none] C5_tn, C5_tsl⟩)
    {C6_ C6_f : Addr} {C6_nm C6_q : Str} {C6_N : Addr} {C6_bs : List Value} {C6_sn : List Str} {C6_sub : List Value} {C6_ab : Bool} {C6_col : Option Bool} {C6_dd : Option Addr} {C6_k0 C6_k1 C6_k2 C6_k3 C6_k5 : Option Value}
    {C6_oc : Value} {C6_od : Option Addr} {C6_fq : Str} {C6_dT : Addr} {C6_doc C6_pm : Value} {C6_an : Option Addr} {C6_cda C6_cc : Addr} {C6_ct : Value} {C6_osl C6_ccs C6_csl C6_tsl : Array (Option Value)} {C6_ccl C6_cl C6_tcl : Value} {C6_cdd C6_cld C6_tdd : Option Addr} {C6_vs : Array Value} {C6_file : Str} {C6_tf : Tok} {C6_tn : Nat}
    (x6A : PySem.W.nsIn K mainGlobals "InvalidPaper" = some (some (.ref C6_))) (x6L : K.lookup C6_ = some (excClassObj C6_nm C6_q C6_ C6_N C6_bs (.ref B0_ :: B0_bm) true C6_sn C6_sub C6_ab C6_col C6_dd C6_k0 C6_k1 C6_k2 C6_k3 C6_k5 "ValueError.__new__")) (x6m : PySem.W.mroIn K C6_ (.ref C6_) = some true) (x6v : PySem.W.subIn K (.ref C6_) (.type "ValueError") = some true) (x6s : PySem.W.findIn K (.ref C6_) "__setattr__" = some (some (.builtin "object.__setattr__"))) (x6g : PySem.W.findIn K (.ref C6_) "__getattribute__" = some (some (.builtin "BaseException.__getattribute__"))) (x6h : PySem.W.findIn K (.ref C6_) "__getattr__" = some none) (x6n : PySem.W.findIn K (.ref C6_) "value" = some none) (x6i : PySem.W.findIn K (.ref C6_) "__init__" = some (some (.ref C6_f))) (x6t : PySem.W.typeIn K (.ref C6_f) = some (.type "function")) (x6k : PySem.W.keepIn K (.ref C6_) = true) (x6e : PySem.W.subIn K (.ref C6_) (.type "BaseException") = some true) (x6y : PySem.W.typeIn K (.ref C6_) = some (.type "type")) (x6d : PySem.W.hasDictIn K C6_ = true) (x6c : PySem.W.findIn K (.ref C6_) "__class__" = some (some (.builtin "object.__class__"))) (x6o : PySem.W.mroIn K C6_ (.type "object") = some true) (x6z : PySem.W.isClsIn K C6_ = true) (x6F : K.lookup C6_f = some ⟨C6_oc, C6_od, .func (PySem.W.ksFn "__init__" C6_fq (PySem.ErX.iA ⟨36, 17, 36, 21⟩ ⟨36, 23, 36, 28⟩ ⟨36, 29, 36, 33⟩) (PySem.ErX.iB ⟨37, 8, 37, 13⟩ ⟨37, 8, 37, 15⟩ ⟨37, 8, 37, 24⟩ ⟨37, 8, 37, 26⟩ ⟨37, 8, 37, 26⟩ ⟨38, 8, 38, 12⟩ ⟨38, 8, 38, 18⟩ ⟨38, 21, 38, 26⟩ ⟨38, 8, 38, 26⟩) PySem.ErX.iS (.ref C6_dT) .none C6_doc C6_pm C6_an (.ref C6_cda) C6_ct C6_cc), C6_osl⟩) (x6D : PySem.W.codeIn K (.ref C6_cda) C6_fq = true) (x6K : K.lookup C6_cda = some ⟨C6_ccl, C6_cdd, .fields C6_vs, C6_ccs⟩) (x6V : C6_vs[2]? = some (.str C6_file C6_tf)) (x6P : ((l.prog.main.file : Str) == C6_file) = true) (x6Q : K.lookup C6_cc = some ⟨C6_cl, C6_cld, .cell (some (.ref C6_)), C6_csl⟩) (x6U : K.lookup C6_dT = some ⟨C6_tcl, C6_tdd, .seq #[.none] C6_tn, C6_tsl⟩)
    {C7_ C7_f : Addr} {C7_nm C7_q : Str} {C7_N : Addr} {C7_bs : List Value} {C7_sn : List Str} {C7_sub : List Value} {C7_ab : Bool} {C7_col : Option Bool} {C7_dd : Option Addr} {C7_k0 C7_k1 C7_k2 C7_k3 C7_k5 : Option Value}
    {C7_oc : Value} {C7_od : Option Addr} {C7_fq : Str} {C7_dT : Addr} {C7_doc C7_pm : Value} {C7_an : Option Addr} {C7_cda C7_cc : Addr} {C7_ct : Value} {C7_osl C7_ccs C7_csl C7_tsl : Array (Option Value)} {C7_ccl C7_cl C7_tcl : Value} {C7_cdd C7_cld C7_tdd : Option Addr} {C7_vs : Array Value} {C7_file : Str} {C7_tf : Tok} {C7_tn : Nat}
    (x7A : PySem.W.nsIn K mainGlobals "InvalidRows" = some (some (.ref C7_))) (x7L : K.lookup C7_ = some (excClassObj C7_nm C7_q C7_ C7_N C7_bs (.ref B0_ :: B0_bm) true C7_sn C7_sub C7_ab C7_col C7_dd C7_k0 C7_k1 C7_k2 C7_k3 C7_k5 "ValueError.__new__")) (x7m : PySem.W.mroIn K C7_ (.ref C7_) = some true) (x7v : PySem.W.subIn K (.ref C7_) (.type "ValueError") = some true) (x7s : PySem.W.findIn K (.ref C7_) "__setattr__" = some (some (.builtin "object.__setattr__"))) (x7g : PySem.W.findIn K (.ref C7_) "__getattribute__" = some (some (.builtin "BaseException.__getattribute__"))) (x7h : PySem.W.findIn K (.ref C7_) "__getattr__" = some none) (x7n : PySem.W.findIn K (.ref C7_) "value" = some none) (x7i : PySem.W.findIn K (.ref C7_) "__init__" = some (some (.ref C7_f))) (x7t : PySem.W.typeIn K (.ref C7_f) = some (.type "function")) (x7k : PySem.W.keepIn K (.ref C7_) = true) (x7e : PySem.W.subIn K (.ref C7_) (.type "BaseException") = some true) (x7y : PySem.W.typeIn K (.ref C7_) = some (.type "type")) (x7d : PySem.W.hasDictIn K C7_ = true) (x7c : PySem.W.findIn K (.ref C7_) "__class__" = some (some (.builtin "object.__class__"))) (x7o : PySem.W.mroIn K C7_ (.type "object") = some true) (x7z : PySem.W.isClsIn K C7_ = true) (x7F : K.lookup C7_f = some ⟨C7_oc, C7_od, .func (PySem.W.ksFn "__init__" C7_fq (PySem.ErX.iA ⟨41, 17, 41, 21⟩ ⟨41, 23, 41, 28⟩ ⟨41, 29, 41, 33⟩) (PySem.ErX.iB ⟨42, 8, 42, 13⟩ ⟨42, 8, 42, 15⟩ ⟨42, 8, 42, 24⟩ ⟨42, 8, 42, 26⟩ ⟨42, 8, 42, 26⟩ ⟨43, 8, 43, 12⟩ ⟨43, 8, 43, 18⟩ ⟨43, 21, 43, 26⟩ ⟨43, 8, 43, 26⟩) PySem.ErX.iS (.ref C7_dT) .none C7_doc C7_pm C7_an (.ref C7_cda) C7_ct C7_cc), C7_osl⟩) (x7D : PySem.W.codeIn K (.ref C7_cda) C7_fq = true) (x7K : K.lookup C7_cda = some ⟨C7_ccl, C7_cdd, .fields C7_vs, C7_ccs⟩) (x7V : C7_vs[2]? = some (.str C7_file C7_tf)) (x7P : ((l.prog.main.file : Str) == C7_file) = true) (x7Q : K.lookup C7_cc = some ⟨C7_cl, C7_cld, .cell (some (.ref C7_)), C7_csl⟩) (x7U : K.lookup C7_dT = some ⟨C7_tcl, C7_tdd, .seq #[.none] C7_tn, C7_tsl⟩)
    {C8_ C8_f : Addr} {C8_nm C8_q : Str} {C8_N : Addr} {C8_bs : List Value} {C8_sn : List Str} {C8_sub : List Value} {C8_ab : Bool} {C8_col : Option Bool} {C8_dd : Option Addr} {C8_k0 C8_k1 C8_k2 C8_k3 C8_k5 : Option Value}
    {C8_oc : Value} {C8_od : Option Addr} {C8_fq : Str} {C8_dT : Addr} {C8_doc C8_pm : Value} {C8_an : Option Addr} {C8_cda C8_cc : Addr} {C8_ct : Value} {C8_osl C8_ccs C8_csl C8_tsl : Array (Option Value)} {C8_ccl C8_cl C8_tcl : Value} {C8_cdd C8_cld C8_tdd : Option Addr} {C8_vs : Array Value} {C8_file : Str} {C8_tf : Tok} {C8_tn : Nat}
    (x8A : PySem.W.nsIn K mainGlobals "InvalidText" = some (some (.ref C8_))) (x8L : K.lookup C8_ = some (excClassObj C8_nm C8_q C8_ C8_N C8_bs (.ref B0_ :: B0_bm) true C8_sn C8_sub C8_ab C8_col C8_dd C8_k0 C8_k1 C8_k2 C8_k3 C8_k5 "ValueError.__new__")) (x8m : PySem.W.mroIn K C8_ (.ref C8_) = some true) (x8v : PySem.W.subIn K (.ref C8_) (.type "ValueError") = some true) (x8s : PySem.W.findIn K (.ref C8_) "__setattr__" = some (some (.builtin "object.__setattr__"))) (x8g : PySem.W.findIn K (.ref C8_) "__getattribute__" = some (some (.builtin "BaseException.__getattribute__"))) (x8h : PySem.W.findIn K (.ref C8_) "__getattr__" = some none) (x8n : PySem.W.findIn K (.ref C8_) "value" = some none) (x8i : PySem.W.findIn K (.ref C8_) "__init__" = some (some (.ref C8_f))) (x8t : PySem.W.typeIn K (.ref C8_f) = some (.type "function")) (x8k : PySem.W.keepIn K (.ref C8_) = true) (x8e : PySem.W.subIn K (.ref C8_) (.type "BaseException") = some true) (x8y : PySem.W.typeIn K (.ref C8_) = some (.type "type")) (x8d : PySem.W.hasDictIn K C8_ = true) (x8c : PySem.W.findIn K (.ref C8_) "__class__" = some (some (.builtin "object.__class__"))) (x8o : PySem.W.mroIn K C8_ (.type "object") = some true) (x8z : PySem.W.isClsIn K C8_ = true) (x8F : K.lookup C8_f = some ⟨C8_oc, C8_od, .func (PySem.W.ksFn "__init__" C8_fq (PySem.ErX.iA ⟨46, 17, 46, 21⟩ ⟨46, 23, 46, 28⟩ ⟨46, 29, 46, 33⟩) (PySem.ErX.iB ⟨47, 8, 47, 13⟩ ⟨47, 8, 47, 15⟩ ⟨47, 8, 47, 24⟩ ⟨47, 8, 47, 26⟩ ⟨47, 8, 47, 26⟩ ⟨48, 8, 48, 12⟩ ⟨48, 8, 48, 18⟩ ⟨48, 21, 48, 26⟩ ⟨48, 8, 48, 26⟩) PySem.ErX.iS (.ref C8_dT) .none C8_doc C8_pm C8_an (.ref C8_cda) C8_ct C8_cc), C8_osl⟩) (x8D : PySem.W.codeIn K (.ref C8_cda) C8_fq = true) (x8K : K.lookup C8_cda = some ⟨C8_ccl, C8_cdd, .fields C8_vs, C8_ccs⟩) (x8V : C8_vs[2]? = some (.str C8_file C8_tf)) (x8P : ((l.prog.main.file : Str) == C8_file) = true) (x8Q : K.lookup C8_cc = some ⟨C8_cl, C8_cld, .cell (some (.ref C8_)), C8_csl⟩) (x8U : K.lookup C8_dT = some ⟨C8_tcl, C8_tdd, .seq #[.none] C8_tn, C8_tsl⟩)
    {C9_ C9_f : Addr} {C9_nm C9_q : Str} {C9_N : Addr} {C9_bs : List Value} {C9_sn : List Str} {C9_sub : List Value} {C9_ab : Bool} {C9_col : Option Bool} {C9_dd : Option Addr} {C9_k0 C9_k1 C9_k2 C9_k3 C9_k5 : Option Value}
    {C9_oc : Value} {C9_od : Option Addr} {C9_fq : Str} {C9_dT : Addr} {C9_doc C9_pm : Value} {C9_an : Option Addr} {C9_cda C9_cc : Addr} {C9_ct : Value} {C9_osl C9_ccs C9_csl C9_tsl : Array (Option Value)} {C9_ccl C9_cl C9_tcl : Value} {C9_cdd C9_cld C9_tdd : Option Addr} {C9_vs : Array Value} {C9_file : Str} {C9_tf : Tok} {C9_tn : Nat}
    (x9A : PySem.W.nsIn K mainGlobals "InvalidUnit" = some (some (.ref C9_))) (x9L : K.lookup C9_ = some (excClassObj C9_nm C9_q C9_ C9_N C9_bs (.ref B0_ :: B0_bm) true C9_sn C9_sub C9_ab C9_col C9_dd C9_k0 C9_k1 C9_k2 C9_k3 C9_k5 "ValueError.__new__")) (x9m : PySem.W.mroIn K C9_ (.ref C9_) = some true) (x9v : PySem.W.subIn K (.ref C9_) (.type "ValueError") = some true) (x9s : PySem.W.findIn K (.ref C9_) "__setattr__" = some (some (.builtin "object.__setattr__"))) (x9g : PySem.W.findIn K (.ref C9_) "__getattribute__" = some (some (.builtin "BaseException.__getattribute__"))) (x9h : PySem.W.findIn K (.ref C9_) "__getattr__" = some none) (x9n : PySem.W.findIn K (.ref C9_) "value" = some none) (x9i : PySem.W.findIn K (.ref C9_) "__init__" = some (some (.ref C9_f))) (x9t : PySem.W.typeIn K (.ref C9_f) = some (.type "function")) (x9k : PySem.W.keepIn K (.ref C9_) = true) (x9e : PySem.W.subIn K (.ref C9_) (.type "BaseException") = some true) (x9y : PySem.W.typeIn K (.ref C9_) = some (.type "type")) (x9d : PySem.W.hasDictIn K C9_ = true) (x9c : PySem.W.findIn K (.ref C9_) "__class__" = some (some (.builtin "object.__class__"))) (x9o : PySem.W.mroIn K C9_ (.type "object") = some true) (x9z : PySem.W.isClsIn K C9_ = true) (x9F : K.lookup C9_f = some ⟨C9_oc, C9_od, .func (PySem.W.ksFn "__init__" C9_fq (PySem.ErX.iA ⟨51, 17, 51, 21⟩ ⟨51, 23, 51, 28⟩ ⟨51, 29, 51, 33⟩) (PySem.ErX.iB ⟨52, 8, 52, 13⟩ ⟨52, 8, 52, 15⟩ ⟨52, 8, 52, 24⟩ ⟨52, 8, 52, 26⟩ ⟨52, 8, 52, 26⟩ ⟨53, 8, 53, 12⟩ ⟨53, 8, 53, 18⟩ ⟨53, 21, 53, 26⟩ ⟨53, 8, 53, 26⟩) PySem.ErX.iS (.ref C9_dT) .none C9_doc C9_pm C9_an (.ref C9_cda) C9_ct C9_cc), C9_osl⟩) (x9D : PySem.W.codeIn K (.ref C9_cda) C9_fq = true) (x9K : K.lookup C9_cda = some ⟨C9_ccl, C9_cdd, .fields C9_vs, C9_ccs⟩) (x9V : C9_vs[2]? = some (.str C9_file C9_tf)) (x9P : ((l.prog.main.file : Str) == C9_file) = true) (x9Q : K.lookup C9_cc = some ⟨C9_cl, C9_cld, .cell (some (.ref C9_)), C9_csl⟩) (x9U : K.lookup C9_dT = some ⟨C9_tcl, C9_tdd, .seq #[.none] C9_tn, C9_tsl⟩)
    {C10_ C10_f : Addr} {C10_nm C10_q : Str} {C10_N : Addr} {C10_bs : List Value} {C10_sn : List Str} {C10_sub : List Value} {C10_ab : Bool} {C10_col : Option Bool} {C10_dd : Option Addr} {C10_k0 C10_k1 C10_k2 C10_k3 C10_k5 : Option Value}
    {C10_oc : Value} {C10_od : Option Addr} {C10_fq : Str} {C10_dT : Addr} {C10_doc C10_pm : Value} {C10_an : Option Addr} {C10_cda C10_cc : Addr} {C10_ct : Value} {C10_osl C10_ccs C10_csl C10_tsl : Array (Option Value)} {C10_ccl C10_cl C10_tcl : Value} {C10_cdd C10_cld C10_tdd : Option Addr} {C10_vs : Array Value} {C10_file : Str} {C10_tf : Tok} {C10_tn : Nat}
    (x10A : PySem.W.nsIn K mainGlobals "InvalidList" = some (some (.ref C10_))) (x10L : K.lookup C10_ = some (excClassObj C10_nm C10_q C10_ C10_N C10_bs (.ref B0_ :: B0_bm) true C10_sn C10_sub C10_ab C10_col C10_dd C10_k0 C10_k1 C10_k2 C10_k3 C10_k5 "ValueError.__new__")) (x10m : PySem.W.mroIn K C10_ (.ref C10_) = some true) (x10v : PySem.W.subIn K (.ref C10_) (.type "ValueError") = some true) (x10s : PySem.W.findIn K (.ref C10_) "__setattr__" = some (some (.builtin "object.__setattr__"))) (x10g : PySem.W.findIn K (.ref C10_) "__getattribute__" = some (some (.builtin "BaseException.__getattribute__"))) (x10h : PySem.W.findIn K (.ref C10_) "__getattr__" = some none) (x10n : PySem.W.findIn K (.ref C10_) "value" = some none) (x10i : PySem.W.findIn K (.ref C10_) "__init__" = some (some (.ref C10_f))) (x10t : PySem.W.typeIn K (.ref C10_f) = some (.type "function")) (x10k : PySem.W.keepIn K (.ref C10_) = true) (x10e : PySem.W.subIn K (.ref C10_) (.type "BaseException") = some true) (x10y : PySem.W.typeIn K (.ref C10_) = some (.type "type")) (x10d : PySem.W.hasDictIn K C10_ = true) (x10c : PySem.W.findIn K (.ref C10_) "__class__" = some (some (.builtin "object.__class__"))) (x10o : PySem.W.mroIn K C10_ (.type "object") = some true) (x10z : PySem.W.isClsIn K C10_ = true) (x10F : K.lookup C10_f = some ⟨C10_oc, C10_od, .func (PySem.W.ksFn "__init__" C10_fq (PySem.ErX.iA ⟨56, 17, 56, 21⟩ ⟨56, 23, 56, 28⟩ ⟨56, 29, 56, 33⟩) (PySem.ErX.iB ⟨57, 8, 57, 13⟩ ⟨57, 8, 57, 15⟩ ⟨57, 8, 57, 24⟩ ⟨57, 8, 57, 26⟩ ⟨57, 8, 57, 26⟩ ⟨58, 8, 58, 12⟩ ⟨58, 8, 58, 18⟩ ⟨58, 21, 58, 26⟩ ⟨58, 8, 58, 26⟩) PySem.ErX.iS (.ref C10_dT) .none C10_doc C10_pm C10_an (.ref C10_cda) C10_ct C10_cc), C10_osl⟩) (x10D : PySem.W.codeIn K (.ref C10_cda) C10_fq = true) (x10K : K.lookup C10_cda = some ⟨C10_ccl, C10_cdd, .fields C10_vs, C10_ccs⟩) (x10V : C10_vs[2]? = some (.str C10_file C10_tf)) (x10P : ((l.prog.main.file : Str) == C10_file) = true) (x10Q : K.lookup C10_cc = some ⟨C10_cl, C10_cld, .cell (some (.ref C10_)), C10_csl⟩) (x10U : K.lookup C10_dT = some ⟨C10_tcl, C10_tdd, .seq #[.none] C10_tn, C10_tsl⟩)
    {C11_ C11_f : Addr} {C11_nm C11_q : Str} {C11_N : Addr} {C11_bs : List Value} {C11_sn : List Str} {C11_sub : List Value} {C11_ab : Bool} {C11_col : Option Bool} {C11_dd : Option Addr} {C11_k0 C11_k1 C11_k2 C11_k3 C11_k5 : Option Value}
    {C11_oc : Value} {C11_od : Option Addr} {C11_fq : Str} {C11_dT : Addr} {C11_doc C11_pm : Value} {C11_an : Option Addr} {C11_cda C11_cc : Addr} {C11_ct : Value} {C11_osl C11_ccs C11_csl C11_tsl : Array (Option Value)} {C11_ccl C11_cl C11_tcl : Value} {C11_cdd C11_cld C11_tdd : Option Addr} {C11_vs : Array Value} {C11_file : Str} {C11_tf : Tok} {C11_tn : Nat}
    (x11A : PySem.W.nsIn K mainGlobals "InvalidDeed" = some (some (.ref C11_))) (x11L : K.lookup C11_ = some (excClassObj C11_nm C11_q C11_ C11_N C11_bs (.ref B0_ :: B0_bm) true C11_sn C11_sub C11_ab C11_col C11_dd C11_k0 C11_k1 C11_k2 C11_k3 C11_k5 "ValueError.__new__")) (x11m : PySem.W.mroIn K C11_ (.ref C11_) = some true) (x11v : PySem.W.subIn K (.ref C11_) (.type "ValueError") = some true) (x11s : PySem.W.findIn K (.ref C11_) "__setattr__" = some (some (.builtin "object.__setattr__"))) (x11g : PySem.W.findIn K (.ref C11_) "__getattribute__" = some (some (.builtin "BaseException.__getattribute__"))) (x11h : PySem.W.findIn K (.ref C11_) "__getattr__" = some none) (x11n : PySem.W.findIn K (.ref C11_) "value" = some none) (x11i : PySem.W.findIn K (.ref C11_) "__init__" = some (some (.ref C11_f))) (x11t : PySem.W.typeIn K (.ref C11_f) = some (.type "function")) (x11k : PySem.W.keepIn K (.ref C11_) = true) (x11e : PySem.W.subIn K (.ref C11_) (.type "BaseException") = some true) (x11y : PySem.W.typeIn K (.ref C11_) = some (.type "type")) (x11d : PySem.W.hasDictIn K C11_ = true) (x11c : PySem.W.findIn K (.ref C11_) "__class__" = some (some (.builtin "object.__class__"))) (x11o : PySem.W.mroIn K C11_ (.type "object") = some true) (x11z : PySem.W.isClsIn K C11_ = true) (x11F : K.lookup C11_f = some ⟨C11_oc, C11_od, .func (PySem.W.ksFn "__init__" C11_fq (PySem.ErX.iA ⟨61, 17, 61, 21⟩ ⟨61, 23, 61, 28⟩ ⟨61, 29, 61, 33⟩) (PySem.ErX.iB ⟨62, 8, 62, 13⟩ ⟨62, 8, 62, 15⟩ ⟨62, 8, 62, 24⟩ ⟨62, 8, 62, 26⟩ ⟨62, 8, 62, 26⟩ ⟨63, 8, 63, 12⟩ ⟨63, 8, 63, 18⟩ ⟨63, 21, 63, 26⟩ ⟨63, 8, 63, 26⟩) PySem.ErX.iS (.ref C11_dT) .none C11_doc C11_pm C11_an (.ref C11_cda) C11_ct C11_cc), C11_osl⟩) (x11D : PySem.W.codeIn K (.ref C11_cda) C11_fq = true) (x11K : K.lookup C11_cda = some ⟨C11_ccl, C11_cdd, .fields C11_vs, C11_ccs⟩) (x11V : C11_vs[2]? = some (.str C11_file C11_tf)) (x11P : ((l.prog.main.file : Str) == C11_file) = true) (x11Q : K.lookup C11_cc = some ⟨C11_cl, C11_cld, .cell (some (.ref C11_)), C11_csl⟩) (x11U : K.lookup C11_dT = some ⟨C11_tcl, C11_tdd, .seq #[.none] C11_tn, C11_tsl⟩)
    {C12_ C12_f : Addr} {C12_nm C12_q : Str} {C12_N : Addr} {C12_bs : List Value} {C12_sn : List Str} {C12_sub : List Value} {C12_ab : Bool} {C12_col : Option Bool} {C12_dd : Option Addr} {C12_k0 C12_k1 C12_k2 C12_k3 C12_k5 : Option Value}
    {C12_oc : Value} {C12_od : Option Addr} {C12_fq : Str} {C12_dT : Addr} {C12_doc C12_pm : Value} {C12_an : Option Addr} {C12_cda C12_cc : Addr} {C12_ct : Value} {C12_osl C12_ccs C12_csl C12_tsl : Array (Option Value)} {C12_ccl C12_cl C12_tcl : Value} {C12_cdd C12_cld C12_tdd : Option Addr} {C12_vs : Array Value} {C12_file : Str} {C12_tf : Tok} {C12_tn : Nat}
    (x12A : PySem.W.nsIn K mainGlobals "InvalidFlag" = some (some (.ref C12_))) (x12L : K.lookup C12_ = some (excClassObj C12_nm C12_q C12_ C12_N C12_bs (.ref B0_ :: B0_bm) true C12_sn C12_sub C12_ab C12_col C12_dd C12_k0 C12_k1 C12_k2 C12_k3 C12_k5 "ValueError.__new__")) (x12m : PySem.W.mroIn K C12_ (.ref C12_) = some true) (x12v : PySem.W.subIn K (.ref C12_) (.type "ValueError") = some true) (x12s : PySem.W.findIn K (.ref C12_) "__setattr__" = some (some (.builtin "object.__setattr__"))) (x12g : PySem.W.findIn K (.ref C12_) "__getattribute__" = some (some (.builtin "BaseException.__getattribute__"))) (x12h : PySem.W.findIn K (.ref C12_) "__getattr__" = some none) (x12n : PySem.W.findIn K (.ref C12_) "value" = some none) (x12i : PySem.W.findIn K (.ref C12_) "__init__" = some (some (.ref C12_f))) (x12t : PySem.W.typeIn K (.ref C12_f) = some (.type "function")) (x12k : PySem.W.keepIn K (.ref C12_) = true) (x12e : PySem.W.subIn K (.ref C12_) (.type "BaseException") = some true) (x12y : PySem.W.typeIn K (.ref C12_) = some (.type "type")) (x12d : PySem.W.hasDictIn K C12_ = true) (x12c : PySem.W.findIn K (.ref C12_) "__class__" = some (some (.builtin "object.__class__"))) (x12o : PySem.W.mroIn K C12_ (.type "object") = some true) (x12z : PySem.W.isClsIn K C12_ = true) (x12F : K.lookup C12_f = some ⟨C12_oc, C12_od, .func (PySem.W.ksFn "__init__" C12_fq (PySem.ErX.iA ⟨66, 17, 66, 21⟩ ⟨66, 23, 66, 28⟩ ⟨66, 29, 66, 33⟩) (PySem.ErX.iB ⟨67, 8, 67, 13⟩ ⟨67, 8, 67, 15⟩ ⟨67, 8, 67, 24⟩ ⟨67, 8, 67, 26⟩ ⟨67, 8, 67, 26⟩ ⟨68, 8, 68, 12⟩ ⟨68, 8, 68, 18⟩ ⟨68, 21, 68, 26⟩ ⟨68, 8, 68, 26⟩) PySem.ErX.iS (.ref C12_dT) .none C12_doc C12_pm C12_an (.ref C12_cda) C12_ct C12_cc), C12_osl⟩) (x12D : PySem.W.codeIn K (.ref C12_cda) C12_fq = true) (x12K : K.lookup C12_cda = some ⟨C12_ccl, C12_cdd, .fields C12_vs, C12_ccs⟩) (x12V : C12_vs[2]? = some (.str C12_file C12_tf)) (x12P : ((l.prog.main.file : Str) == C12_file) = true) (x12Q : K.lookup C12_cc = some ⟨C12_cl, C12_cld, .cell (some (.ref C12_)), C12_csl⟩) (x12U : K.lookup C12_dT = some ⟨C12_tcl, C12_tdd, .seq #[.none] C12_tn, C12_tsl⟩)
    {C13_ C13_f : Addr} {C13_nm C13_q : Str} {C13_N : Addr} {C13_bs : List Value} {C13_sn : List Str} {C13_sub : List Value} {C13_ab : Bool} {C13_col : Option Bool} {C13_dd : Option Addr} {C13_k0 C13_k1 C13_k2 C13_k3 C13_k5 : Option Value}
    {C13_oc : Value} {C13_od : Option Addr} {C13_fq : Str} {C13_dT : Addr} {C13_doc C13_pm : Value} {C13_an : Option Addr} {C13_cda C13_cc : Addr} {C13_ct : Value} {C13_osl C13_ccs C13_csl C13_tsl : Array (Option Value)} {C13_ccl C13_cl C13_tcl : Value} {C13_cdd C13_cld C13_tdd : Option Addr} {C13_vs : Array Value} {C13_file : Str} {C13_tf : Tok} {C13_tn : Nat}
    (x13A : PySem.W.nsIn K mainGlobals "Unlike" = some (some (.ref C13_))) (x13L : K.lookup C13_ = some (excClassObj C13_nm C13_q C13_ C13_N C13_bs (.ref B0_ :: B0_bm) true C13_sn C13_sub C13_ab C13_col C13_dd C13_k0 C13_k1 C13_k2 C13_k3 C13_k5 "ValueError.__new__")) (x13m : PySem.W.mroIn K C13_ (.ref C13_) = some true) (x13v : PySem.W.subIn K (.ref C13_) (.type "ValueError") = some true) (x13s : PySem.W.findIn K (.ref C13_) "__setattr__" = some (some (.builtin "object.__setattr__"))) (x13g : PySem.W.findIn K (.ref C13_) "__getattribute__" = some (some (.builtin "BaseException.__getattribute__"))) (x13h : PySem.W.findIn K (.ref C13_) "__getattr__" = some none) (x13n : PySem.W.findIn K (.ref C13_) "value" = some none) (x13i : PySem.W.findIn K (.ref C13_) "__init__" = some (some (.ref C13_f))) (x13t : PySem.W.typeIn K (.ref C13_f) = some (.type "function")) (x13k : PySem.W.keepIn K (.ref C13_) = true) (x13e : PySem.W.subIn K (.ref C13_) (.type "BaseException") = some true) (x13y : PySem.W.typeIn K (.ref C13_) = some (.type "type")) (x13d : PySem.W.hasDictIn K C13_ = true) (x13c : PySem.W.findIn K (.ref C13_) "__class__" = some (some (.builtin "object.__class__"))) (x13o : PySem.W.mroIn K C13_ (.type "object") = some true) (x13z : PySem.W.isClsIn K C13_ = true) (x13F : K.lookup C13_f = some ⟨C13_oc, C13_od, .func (PySem.W.ksFn "__init__" C13_fq (PySem.ErX.iA ⟨71, 17, 71, 21⟩ ⟨71, 23, 71, 28⟩ ⟨71, 29, 71, 33⟩) (PySem.ErX.iB ⟨72, 8, 72, 13⟩ ⟨72, 8, 72, 15⟩ ⟨72, 8, 72, 24⟩ ⟨72, 8, 72, 26⟩ ⟨72, 8, 72, 26⟩ ⟨73, 8, 73, 12⟩ ⟨73, 8, 73, 18⟩ ⟨73, 21, 73, 26⟩ ⟨73, 8, 73, 26⟩) PySem.ErX.iS (.ref C13_dT) .none C13_doc C13_pm C13_an (.ref C13_cda) C13_ct C13_cc), C13_osl⟩) (x13D : PySem.W.codeIn K (.ref C13_cda) C13_fq = true) (x13K : K.lookup C13_cda = some ⟨C13_ccl, C13_cdd, .fields C13_vs, C13_ccs⟩) (x13V : C13_vs[2]? = some (.str C13_file C13_tf)) (x13P : ((l.prog.main.file : Str) == C13_file) = true) (x13Q : K.lookup C13_cc = some ⟨C13_cl, C13_cld, .cell (some (.ref C13_)), C13_csl⟩) (x13U : K.lookup C13_dT = some ⟨C13_tcl, C13_tdd, .seq #[.none] C13_tn, C13_tsl⟩)
    {C14_ C14_f : Addr} {C14_nm C14_q : Str} {C14_N : Addr} {C14_bs : List Value} {C14_sn : List Str} {C14_sub : List Value} {C14_ab : Bool} {C14_col : Option Bool} {C14_dd : Option Addr} {C14_k0 C14_k1 C14_k2 C14_k3 C14_k5 : Option Value}
    {C14_oc : Value} {C14_od : Option Addr} {C14_fq : Str} {C14_dT : Addr} {C14_doc C14_pm : Value} {C14_an : Option Addr} {C14_cda C14_cc : Addr} {C14_ct : Value} {C14_osl C14_ccs C14_csl C14_tsl : Array (Option Value)} {C14_ccl C14_cl C14_tcl : Value} {C14_cdd C14_cld C14_tdd : Option Addr} {C14_vs : Array Value} {C14_file : Str} {C14_tf : Tok} {C14_tn : Nat}
    (x14A : PySem.W.nsIn K mainGlobals "TooMany" = some (some (.ref C14_))) (x14L : K.lookup C14_ = some (excClassObj C14_nm C14_q C14_ C14_N C14_bs (.ref B0_ :: B0_bm) true C14_sn C14_sub C14_ab C14_col C14_dd C14_k0 C14_k1 C14_k2 C14_k3 C14_k5 "ValueError.__new__")) (x14m : PySem.W.mroIn K C14_ (.ref C14_) = some true) (x14v : PySem.W.subIn K (.ref C14_) (.type "ValueError") = some true) (x14s : PySem.W.findIn K (.ref C14_) "__setattr__" = some (some (.builtin "object.__setattr__"))) (x14g : PySem.W.findIn K (.ref C14_) "__getattribute__" = some (some (.builtin "BaseException.__getattribute__"))) (x14h : PySem.W.findIn K (.ref C14_) "__getattr__" = some none) (x14n : PySem.W.findIn K (.ref C14_) "value" = some none) (x14i : PySem.W.findIn K (.ref C14_) "__init__" = some (some (.ref C14_f))) (x14t : PySem.W.typeIn K (.ref C14_f) = some (.type "function")) (x14k : PySem.W.keepIn K (.ref C14_) = true) (x14e : PySem.W.subIn K (.ref C14_) (.type "BaseException") = some true) (x14y : PySem.W.typeIn K (.ref C14_) = some (.type "type")) (x14d : PySem.W.hasDictIn K C14_ = true) (x14c : PySem.W.findIn K (.ref C14_) "__class__" = some (some (.builtin "object.__class__"))) (x14o : PySem.W.mroIn K C14_ (.type "object") = some true) (x14z : PySem.W.isClsIn K C14_ = true) (x14F : K.lookup C14_f = some ⟨C14_oc, C14_od, .func (PySem.W.ksFn "__init__" C14_fq (PySem.ErX.iA ⟨76, 17, 76, 21⟩ ⟨76, 23, 76, 28⟩ ⟨76, 29, 76, 33⟩) (PySem.ErX.iB ⟨77, 8, 77, 13⟩ ⟨77, 8, 77, 15⟩ ⟨77, 8, 77, 24⟩ ⟨77, 8, 77, 26⟩ ⟨77, 8, 77, 26⟩ ⟨78, 8, 78, 12⟩ ⟨78, 8, 78, 18⟩ ⟨78, 21, 78, 26⟩ ⟨78, 8, 78, 26⟩) PySem.ErX.iS (.ref C14_dT) .none C14_doc C14_pm C14_an (.ref C14_cda) C14_ct C14_cc), C14_osl⟩) (x14D : PySem.W.codeIn K (.ref C14_cda) C14_fq = true) (x14K : K.lookup C14_cda = some ⟨C14_ccl, C14_cdd, .fields C14_vs, C14_ccs⟩) (x14V : C14_vs[2]? = some (.str C14_file C14_tf)) (x14P : ((l.prog.main.file : Str) == C14_file) = true) (x14Q : K.lookup C14_cc = some ⟨C14_cl, C14_cld, .cell (some (.ref C14_)), C14_csl⟩) (x14U : K.lookup C14_dT = some ⟨C14_tcl, C14_tdd, .seq #[.none] C14_tn, C14_tsl⟩)
    {U0_ : Addr} (u0A : PySem.W.nsIn K mainGlobals "BillError" = some (some (.ref U0_))) (u0q : PySem.W.excIn K U0_ PySem.ErX.bmVE "ValueError.__new__" = true) (u0k : PySem.W.keepIn K (.ref U0_) = true) (u0e : PySem.W.subIn K (.ref U0_) (.type "BaseException") = some true) (u0v : PySem.W.subIn K (.ref U0_) (.type "ValueError") = some true) (u0m : PySem.W.mroIn K U0_ (.ref U0_) = some true) (u0g : PySem.W.findIn K (.ref U0_) "__getattribute__" = some (some (.builtin "BaseException.__getattribute__"))) (u0h : PySem.W.findIn K (.ref U0_) "__getattr__" = some none) (u0c : PySem.W.findIn K (.ref U0_) "__class__" = some (some (.builtin "object.__class__"))) (u0o : PySem.W.mroIn K U0_ (.type "object") = some true) (u0i : PySem.W.findIn K (.ref U0_) "__init__" = some (some (.builtin "ValueError.__init__"))) (u0z : PySem.W.isClsIn K U0_ = true) (u0y : PySem.W.typeIn K (.ref U0_) = some (.type "type"))
    {U1_ : Addr} (u1A : PySem.W.nsIn K mainGlobals "NothingToUndo" = some (some (.ref U1_))) (u1q : PySem.W.excIn K U1_ PySem.ErX.bmVE "ValueError.__new__" = true) (u1k : PySem.W.keepIn K (.ref U1_) = true) (u1e : PySem.W.subIn K (.ref U1_) (.type "BaseException") = some true) (u1v : PySem.W.subIn K (.ref U1_) (.type "ValueError") = some true) (u1m : PySem.W.mroIn K U1_ (.ref U1_) = some true) (u1g : PySem.W.findIn K (.ref U1_) "__getattribute__" = some (some (.builtin "BaseException.__getattribute__"))) (u1h : PySem.W.findIn K (.ref U1_) "__getattr__" = some none) (u1c : PySem.W.findIn K (.ref U1_) "__class__" = some (some (.builtin "object.__class__"))) (u1o : PySem.W.mroIn K U1_ (.type "object") = some true) (u1i : PySem.W.findIn K (.ref U1_) "__init__" = some (some (.builtin "ValueError.__init__"))) (u1z : PySem.W.isClsIn K U1_ = true) (u1y : PySem.W.typeIn K (.ref U1_) = some (.type "type"))
    {U2_ : Addr} (u2A : PySem.W.nsIn K mainGlobals "NothingToRedo" = some (some (.ref U2_))) (u2q : PySem.W.excIn K U2_ PySem.ErX.bmVE "ValueError.__new__" = true) (u2k : PySem.W.keepIn K (.ref U2_) = true) (u2e : PySem.W.subIn K (.ref U2_) (.type "BaseException") = some true) (u2v : PySem.W.subIn K (.ref U2_) (.type "ValueError") = some true) (u2m : PySem.W.mroIn K U2_ (.ref U2_) = some true) (u2g : PySem.W.findIn K (.ref U2_) "__getattribute__" = some (some (.builtin "BaseException.__getattribute__"))) (u2h : PySem.W.findIn K (.ref U2_) "__getattr__" = some none) (u2c : PySem.W.findIn K (.ref U2_) "__class__" = some (some (.builtin "object.__class__"))) (u2o : PySem.W.mroIn K U2_ (.type "object") = some true) (u2i : PySem.W.findIn K (.ref U2_) "__init__" = some (some (.builtin "ValueError.__init__"))) (u2z : PySem.W.isClsIn K U2_ = true) (u2y : PySem.W.typeIn K (.ref U2_) = some (.type "type"))
    (w0_1 : PySem.W.subIn K (.ref C1_) (.ref C0_) = some false) (w0_2 : PySem.W.subIn K (.ref C2_) (.ref C0_) = some false) (w0_3 : PySem.W.subIn K (.ref C3_) (.ref C0_) = some false) (w0_4 : PySem.W.subIn K (.ref C4_) (.ref C0_) = some false) (w0_5 : PySem.W.subIn K (.ref C5_) (.ref C0_) = some false) (w0_6 : PySem.W.subIn K (.ref C6_) (.ref C0_) = some false) (w0_7 : PySem.W.subIn K (.ref C7_) (.ref C0_) = some false) (w0_8 : PySem.W.subIn K (.ref C8_) (.ref C0_) = some false) (w0_9 : PySem.W.subIn K (.ref C9_) (.ref C0_) = some false) (w0_10 : PySem.W.subIn K (.ref C10_) (.ref C0_) = some false) (w0_11 : PySem.W.subIn K (.ref C11_) (.ref C0_) = some false) (w0_12 : PySem.W.subIn K (.ref C12_) (.ref C0_) = some false) (w0_13 : PySem.W.subIn K (.ref C13_) (.ref C0_) = some false) (w0_14 : PySem.W.subIn K (.ref C14_) (.ref C0_) = some false) (w0_15 : PySem.W.subIn K (.ref U1_) (.ref C0_) = some false) (w0_16 : PySem.W.subIn K (.ref U2_) (.ref C0_) = some false) (w1_0 : PySem.W.subIn K (.ref C0_) (.ref C1_) = some false) (w1_2 : PySem.W.subIn K (.ref C2_) (.ref C1_) = some false) (w1_3 : PySem.W.subIn K (.ref C3_) (.ref C1_) = some false) (w1_4 : PySem.W.subIn K (.ref C4_) (.ref C1_) = some false) (w1_5 : PySem.W.subIn K (.ref C5_) (.ref C1_) = some false) (w1_6 : PySem.W.subIn K (.ref C6_) (.ref C1_) = some false) (w1_7 : PySem.W.subIn K (.ref C7_) (.ref C1_) = some false) (w1_8 : PySem.W.subIn K (.ref C8_) (.ref C1_) = some false) (w1_9 : PySem.W.subIn K (.ref C9_) (.ref C1_) = some false) (w1_10 : PySem.W.subIn K (.ref C10_) (.ref C1_) = some false) (w1_11 : PySem.W.subIn K (.ref C11_) (.ref C1_) = some false) (w1_12 : PySem.W.subIn K (.ref C12_) (.ref C1_) = some false) (w1_13 : PySem.W.subIn K (.ref C13_) (.ref C1_) = some false) (w1_14 : PySem.W.subIn K (.ref C14_) (.ref C1_) = some false) (w1_15 : PySem.W.subIn K (.ref U1_) (.ref C1_) = some false) (w1_16 : PySem.W.subIn K (.ref U2_) (.ref C1_) = some false) (w2_0 : PySem.W.subIn K (.ref C0_) (.ref C2_) = some false) (w2_1 : PySem.W.subIn K (.ref C1_) (.ref C2_) = some false) (w2_3 : PySem.W.subIn K (.ref C3_) (.ref C2_) = some false) (w2_4 : PySem.W.subIn K (.ref C4_) (.ref C2_) = some false) (w2_5 : PySem.W.subIn K (.ref C5_) (.ref C2_) = some false) (w2_6 : PySem.W.subIn K (.ref C6_) (.ref C2_) = some false) (w2_7 : PySem.W.subIn K (.ref C7_) (.ref C2_) = some false) (w2_8 : PySem.W.subIn K (.ref C8_) (.ref C2_) = some false) (w2_9 : PySem.W.subIn K (.ref C9_) (.ref C2_) = some false) (w2_10 : PySem.W.subIn K (.ref C10_) (.ref C2_) = some false) (w2_11 : PySem.W.subIn K (.ref C11_) (.ref C2_) = some false) (w2_12 : PySem.W.subIn K (.ref C12_) (.ref C2_) = some false) (w2_13 : PySem.W.subIn K (.ref C13_) (.ref C2_) = some false) (w2_14 : PySem.W.subIn K (.ref C14_) (.ref C2_) = some false) (w2_15 : PySem.W.subIn K (.ref U1_) (.ref C2_) = some false) (w2_16 : PySem.W.subIn K (.ref U2_) (.ref C2_) = some false) (w3_0 : PySem.W.subIn K (.ref C0_) (.ref C3_) = some false) (w3_1 : PySem.W.subIn K (.ref C1_) (.ref C3_) = some false) (w3_2 : PySem.W.subIn K (.ref C2_) (.ref C3_) = some false) (w3_4 : PySem.W.subIn K (.ref C4_) (.ref C3_) = some false) (w3_5 : PySem.W.subIn K (.ref C5_) (.ref C3_) = some false) (w3_6 : PySem.W.subIn K (.ref C6_) (.ref C3_) = some false) (w3_7 : PySem.W.subIn K (.ref C7_) (.ref C3_) = some false) (w3_8 : PySem.W.subIn K (.ref C8_) (.ref C3_) = some false) (w3_9 : PySem.W.subIn K (.ref C9_) (.ref C3_) = some false) (w3_10 : PySem.W.subIn K (.ref C10_) (.ref C3_) = some false) (w3_11 : PySem.W.subIn K (.ref C11_) (.ref C3_) = some false) (w3_12 : PySem.W.subIn K (.ref C12_) (.ref C3_) = some false) (w3_13 : PySem.W.subIn K (.ref C13_) (.ref C3_) = some false) (w3_14 : PySem.W.subIn K (.ref C14_) (.ref C3_) = some false) (w3_15 : PySem.W.subIn K (.ref U1_) (.ref C3_) = some false) (w3_16 : PySem.W.subIn K (.ref U2_) (.ref C3_) = some false) (w4_0 : PySem.W.subIn K (.ref C0_) (.ref C4_) = some false) (w4_1 : PySem.W.subIn K (.ref C1_) (.ref C4_) = some false) (w4_2 : PySem.W.subIn K (.ref C2_) (.ref C4_) = some false) (w4_3 : PySem.W.subIn K (.ref C3_) (.ref C4_) = some false) (w4_5 : PySem.W.subIn K (.ref C5_) (.ref C4_) = some false) (w4_6 : PySem.W.subIn K (.ref C6_) (.ref C4_) = some false) (w4_7 : PySem.W.subIn K (.ref C7_) (.ref C4_) = some false) (w4_8 : PySem.W.subIn K (.ref C8_) (.ref C4_) = some false) (w4_9 : PySem.W.subIn K (.ref C9_) (.ref C4_) = some false) (w4_10 : PySem.W.subIn K (.ref C10_) (.ref C4_) = some false) (w4_11 : PySem.W.subIn K (.ref C11_) (.ref C4_) = some false) (w4_12 : PySem.W.subIn K (.ref C12_) (.ref C4_) = some false) (w4_13 : PySem.W.subIn K (.ref C13_) (.ref C4_) = some false) (w4_14 : PySem.W.subIn K (.ref C14_) (.ref C4_) = some false) (w4_15 : PySem.W.subIn K (.ref U1_) (.ref C4_) = some false) (w4_16 : PySem.W.subIn K (.ref U2_) (.ref C4_) = some false) (w5_0 : PySem.W.subIn K (.ref C0_) (.ref C5_) = some false) (w5_1 : PySem.W.subIn K (.ref C1_) (.ref C5_) = some false) (w5_2 : PySem.W.subIn K (.ref C2_) (.ref C5_) = some false) (w5_3 : PySem.W.subIn K (.ref C3_) (.ref C5_) = some false) (w5_4 : PySem.W.subIn K (.ref C4_) (.ref C5_) = some false) (w5_6 : PySem.W.subIn K (.ref C6_) (.ref C5_) = some false) (w5_7 : PySem.W.subIn K (.ref C7_) (.ref C5_) = some false) (w5_8 : PySem.W.subIn K (.ref C8_) (.ref C5_) = some false) (w5_9 : PySem.W.subIn K (.ref C9_) (.ref C5_) = some false) (w5_10 : PySem.W.subIn K (.ref C10_) (.ref C5_) = some false) (w5_11 : PySem.W.subIn K (.ref C11_) (.ref C5_) = some false) (w5_12 : PySem.W.subIn K (.ref C12_) (.ref C5_) = some false) (w5_13 : PySem.W.subIn K (.ref C13_) (.ref C5_) = some false) (w5_14 : PySem.W.subIn K (.ref C14_) (.ref C5_) = some false) (w5_15 : PySem.W.subIn K (.ref U1_) (.ref C5_) = some false) (w5_16 : PySem.W.subIn K (.ref U2_) (.ref C5_) = some false) (w6_0 : PySem.W.subIn K (.ref C0_) (.ref C6_) = some false) (w6_1 : PySem.W.subIn K (.ref C1_) (.ref C6_) = some false) (w6_2 : PySem.W.subIn K (.ref C2_) (.ref C6_) = some false) (w6_3 : PySem.W.subIn K (.ref C3_) (.ref C6_) = some false) (w6_4 : PySem.W.subIn K (.ref C4_) (.ref C6_) = some false) (w6_5 : PySem.W.subIn K (.ref C5_) (.ref C6_) = some false) (w6_7 : PySem.W.subIn K (.ref C7_) (.ref C6_) = some false) (w6_8 : PySem.W.subIn K (.ref C8_) (.ref C6_) = some false) (w6_9 : PySem.W.subIn K (.ref C9_) (.ref C6_) = some false) (w6_10 : PySem.W.subIn K (.ref C10_) (.ref C6_) = some false) (w6_11 : PySem.W.subIn K (.ref C11_) (.ref C6_) = some false) (w6_12 : PySem.W.subIn K (.ref C12_) (.ref C6_) = some false) (w6_13 : PySem.W.subIn K (.ref C13_) (.ref C6_) = some false) (w6_14 : PySem.W.subIn K (.ref C14_) (.ref C6_) = some false) (w6_15 : PySem.W.subIn K (.ref U1_) (.ref C6_) = some false) (w6_16 : PySem.W.subIn K (.ref U2_) (.ref C6_) = some false) (w7_0 : PySem.W.subIn K (.ref C0_) (.ref C7_) = some false) (w7_1 : PySem.W.subIn K (.ref C1_) (.ref C7_) = some false) (w7_2 : PySem.W.subIn K (.ref C2_) (.ref C7_) = some false) (w7_3 : PySem.W.subIn K (.ref C3_) (.ref C7_) = some false) (w7_4 : PySem.W.subIn K (.ref C4_) (.ref C7_) = some false) (w7_5 : PySem.W.subIn K (.ref C5_) (.ref C7_) = some false) (w7_6 : PySem.W.subIn K (.ref C6_) (.ref C7_) = some false) (w7_8 : PySem.W.subIn K (.ref C8_) (.ref C7_) = some false) (w7_9 : PySem.W.subIn K (.ref C9_) (.ref C7_) = some false) (w7_10 : PySem.W.subIn K (.ref C10_) (.ref C7_) = some false) (w7_11 : PySem.W.subIn K (.ref C11_) (.ref C7_) = some false) (w7_12 : PySem.W.subIn K (.ref C12_) (.ref C7_) = some false) (w7_13 : PySem.W.subIn K (.ref C13_) (.ref C7_) = some false) (w7_14 : PySem.W.subIn K (.ref C14_) (.ref C7_) = some false) (w7_15 : PySem.W.subIn K (.ref U1_) (.ref C7_) = some false) (w7_16 : PySem.W.subIn K (.ref U2_) (.ref C7_) = some false) (w8_0 : PySem.W.subIn K (.ref C0_) (.ref C8_) = some false) (w8_1 : PySem.W.subIn K (.ref C1_) (.ref C8_) = some false) (w8_2 : PySem.W.subIn K (.ref C2_) (.ref C8_) = some false) (w8_3 : PySem.W.subIn K (.ref C3_) (.ref C8_) = some false) (w8_4 : PySem.W.subIn K (.ref C4_) (.ref C8_) = some false) (w8_5 : PySem.W.subIn K (.ref C5_) (.ref C8_) = some false) (w8_6 : PySem.W.subIn K (.ref C6_) (.ref C8_) = some false) (w8_7 : PySem.W.subIn K (.ref C7_) (.ref C8_) = some false) (w8_9 : PySem.W.subIn K (.ref C9_) (.ref C8_) = some false) (w8_10 : PySem.W.subIn K (.ref C10_) (.ref C8_) = some false) (w8_11 : PySem.W.subIn K (.ref C11_) (.ref C8_) = some false) (w8_12 : PySem.W.subIn K (.ref C12_) (.ref C8_) = some false) (w8_13 : PySem.W.subIn K (.ref C13_) (.ref C8_) = some false) (w8_14 : PySem.W.subIn K (.ref C14_) (.ref C8_) = some false) (w8_15 : PySem.W.subIn K (.ref U1_) (.ref C8_) = some false) (w8_16 : PySem.W.subIn K (.ref U2_) (.ref C8_) = some false) (w9_0 : PySem.W.subIn K (.ref C0_) (.ref C9_) = some false) (w9_1 : PySem.W.subIn K (.ref C1_) (.ref C9_) = some false) (w9_2 : PySem.W.subIn K (.ref C2_) (.ref C9_) = some false) (w9_3 : PySem.W.subIn K (.ref C3_) (.ref C9_) = some false) (w9_4 : PySem.W.subIn K (.ref C4_) (.ref C9_) = some false) (w9_5 : PySem.W.subIn K (.ref C5_) (.ref C9_) = some false) (w9_6 : PySem.W.subIn K (.ref C6_) (.ref C9_) = some false) (w9_7 : PySem.W.subIn K (.ref C7_) (.ref C9_) = some false) (w9_8 : PySem.W.subIn K (.ref C8_) (.ref C9_) = some false) (w9_10 : PySem.W.subIn K (.ref C10_) (.ref C9_) = some false) (w9_11 : PySem.W.subIn K (.ref C11_) (.ref C9_) = some false) (w9_12 : PySem.W.subIn K (.ref C12_) (.ref C9_) = some false) (w9_13 : PySem.W.subIn K (.ref C13_) (.ref C9_) = some false) (w9_14 : PySem.W.subIn K (.ref C14_) (.ref C9_) = some false) (w9_15 : PySem.W.subIn K (.ref U1_) (.ref C9_) = some false) (w9_16 : PySem.W.subIn K (.ref U2_) (.ref C9_) = some false) (w10_0 : PySem.W.subIn K (.ref C0_) (.ref C10_) = some false) (w10_1 : PySem.W.subIn K (.ref C1_) (.ref C10_) = some false) (w10_2 : PySem.W.subIn K (.ref C2_) (.ref C10_) = some false) (w10_3 : PySem.W.subIn K (.ref C3_) (.ref C10_) = some false) (w10_4 : PySem.W.subIn K (.ref C4_) (.ref C10_) = some false) (w10_5 : PySem.W.subIn K (.ref C5_) (.ref C10_) = some false) (w10_6 : PySem.W.subIn K (.ref C6_) (.ref C10_) = some false) (w10_7 : PySem.W.subIn K (.ref C7_) (.ref C10_) = some false) (w10_8 : PySem.W.subIn K (.ref C8_) (.ref C10_) = some false) (w10_9 : PySem.W.subIn K (.ref C9_) (.ref C10_) = some false) (w10_11 : PySem.W.subIn K (.ref C11_) (.ref C10_) = some false) (w10_12 : PySem.W.subIn K (.ref C12_) (.ref C10_) = some false) (w10_13 : PySem.W.subIn K (.ref C13_) (.ref C10_) = some false) (w10_14 : PySem.W.subIn K (.ref C14_) (.ref C10_) = some false) (w10_15 : PySem.W.subIn K (.ref U1_) (.ref C10_) = some false) (w10_16 : PySem.W.subIn K (.ref U2_) (.ref C10_) = some false) (w11_0 : PySem.W.subIn K (.ref C0_) (.ref C11_) = some false) (w11_1 : PySem.W.subIn K (.ref C1_) (.ref C11_) = some false) (w11_2 : PySem.W.subIn K (.ref C2_) (.ref C11_) = some false) (w11_3 : PySem.W.subIn K (.ref C3_) (.ref C11_) = some false) (w11_4 : PySem.W.subIn K (.ref C4_) (.ref C11_) = some false) (w11_5 : PySem.W.subIn K (.ref C5_) (.ref C11_) = some false) (w11_6 : PySem.W.subIn K (.ref C6_) (.ref C11_) = some false) (w11_7 : PySem.W.subIn K (.ref C7_) (.ref C11_) = some false) (w11_8 : PySem.W.subIn K (.ref C8_) (.ref C11_) = some false) (w11_9 : PySem.W.subIn K (.ref C9_) (.ref C11_) = some false) (w11_10 : PySem.W.subIn K (.ref C10_) (.ref C11_) = some false) (w11_12 : PySem.W.subIn K (.ref C12_) (.ref C11_) = some false) (w11_13 : PySem.W.subIn K (.ref C13_) (.ref C11_) = some false) (w11_14 : PySem.W.subIn K (.ref C14_) (.ref C11_) = some false) (w11_15 : PySem.W.subIn K (.ref U1_) (.ref C11_) = some false) (w11_16 : PySem.W.subIn K (.ref U2_) (.ref C11_) = some false) (w12_0 : PySem.W.subIn K (.ref C0_) (.ref C12_) = some false) (w12_1 : PySem.W.subIn K (.ref C1_) (.ref C12_) = some false) (w12_2 : PySem.W.subIn K (.ref C2_) (.ref C12_) = some false) (w12_3 : PySem.W.subIn K (.ref C3_) (.ref C12_) = some false) (w12_4 : PySem.W.subIn K (.ref C4_) (.ref C12_) = some false) (w12_5 : PySem.W.subIn K (.ref C5_) (.ref C12_) = some false) (w12_6 : PySem.W.subIn K (.ref C6_) (.ref C12_) = some false) (w12_7 : PySem.W.subIn K (.ref C7_) (.ref C12_) = some false) (w12_8 : PySem.W.subIn K (.ref C8_) (.ref C12_) = some false) (w12_9 : PySem.W.subIn K (.ref C9_) (.ref C12_) = some false) (w12_10 : PySem.W.subIn K (.ref C10_) (.ref C12_) = some false) (w12_11 : PySem.W.subIn K (.ref C11_) (.ref C12_) = some false) (w12_13 : PySem.W.subIn K (.ref C13_) (.ref C12_) = some false) (w12_14 : PySem.W.subIn K (.ref C14_) (.ref C12_) = some false) (w12_15 : PySem.W.subIn K (.ref U1_) (.ref C12_) = some false) (w12_16 : PySem.W.subIn K (.ref U2_) (.ref C12_) = some false) (w13_0 : PySem.W.subIn K (.ref C0_) (.ref C13_) = some false) (w13_1 : PySem.W.subIn K (.ref C1_) (.ref C13_) = some false) (w13_2 : PySem.W.subIn K (.ref C2_) (.ref C13_) = some false) (w13_3 : PySem.W.subIn K (.ref C3_) (.ref C13_) = some false) (w13_4 : PySem.W.subIn K (.ref C4_) (.ref C13_) = some false) (w13_5 : PySem.W.subIn K (.ref C5_) (.ref C13_) = some false) (w13_6 : PySem.W.subIn K (.ref C6_) (.ref C13_) = some false) (w13_7 : PySem.W.subIn K (.ref C7_) (.ref C13_) = some false) (w13_8 : PySem.W.subIn K (.ref C8_) (.ref C13_) = some false) (w13_9 : PySem.W.subIn K (.ref C9_) (.ref C13_) = some false) (w13_10 : PySem.W.subIn K (.ref C10_) (.ref C13_) = some false) (w13_11 : PySem.W.subIn K (.ref C11_) (.ref C13_) = some false) (w13_12 : PySem.W.subIn K (.ref C12_) (.ref C13_) = some false) (w13_14 : PySem.W.subIn K (.ref C14_) (.ref C13_) = some false) (w13_15 : PySem.W.subIn K (.ref U1_) (.ref C13_) = some false) (w13_16 : PySem.W.subIn K (.ref U2_) (.ref C13_) = some false) (w14_0 : PySem.W.subIn K (.ref C0_) (.ref C14_) = some false) (w14_1 : PySem.W.subIn K (.ref C1_) (.ref C14_) = some false) (w14_2 : PySem.W.subIn K (.ref C2_) (.ref C14_) = some false) (w14_3 : PySem.W.subIn K (.ref C3_) (.ref C14_) = some false) (w14_4 : PySem.W.subIn K (.ref C4_) (.ref C14_) = some false) (w14_5 : PySem.W.subIn K (.ref C5_) (.ref C14_) = some false) (w14_6 : PySem.W.subIn K (.ref C6_) (.ref C14_) = some false) (w14_7 : PySem.W.subIn K (.ref C7_) (.ref C14_) = some false) (w14_8 : PySem.W.subIn K (.ref C8_) (.ref C14_) = some false) (w14_9 : PySem.W.subIn K (.ref C9_) (.ref C14_) = some false) (w14_10 : PySem.W.subIn K (.ref C10_) (.ref C14_) = some false) (w14_11 : PySem.W.subIn K (.ref C11_) (.ref C14_) = some false) (w14_12 : PySem.W.subIn K (.ref C12_) (.ref C14_) = some false) (w14_13 : PySem.W.subIn K (.ref C13_) (.ref C14_) = some false) (w14_15 : PySem.W.subIn K (.ref U1_) (.ref C14_) = some false) (w14_16 : PySem.W.subIn K (.ref U2_) (.ref C14_) = some false) (w15_0 : PySem.W.subIn K (.ref C0_) (.ref U1_) = some false) (w15_1 : PySem.W.subIn K (.ref C1_) (.ref U1_) = some false) (w15_2 : PySem.W.subIn K (.ref C2_) (.ref U1_) = some false) (w15_3 : PySem.W.subIn K (.ref C3_) (.ref U1_) = some false) (w15_4 : PySem.W.subIn K (.ref C4_) (.ref U1_) = some false) (w15_5 : PySem.W.subIn K (.ref C5_) (.ref U1_) = some false) (w15_6 : PySem.W.subIn K (.ref C6_) (.ref U1_) = some false) (w15_7 : PySem.W.subIn K (.ref C7_) (.ref U1_) = some false) (w15_8 : PySem.W.subIn K (.ref C8_) (.ref U1_) = some false) (w15_9 : PySem.W.subIn K (.ref C9_) (.ref U1_) = some false) (w15_10 : PySem.W.subIn K (.ref C10_) (.ref U1_) = some false) (w15_11 : PySem.W.subIn K (.ref C11_) (.ref U1_) = some false) (w15_12 : PySem.W.subIn K (.ref C12_) (.ref U1_) = some false) (w15_13 : PySem.W.subIn K (.ref C13_) (.ref U1_) = some false) (w15_14 : PySem.W.subIn K (.ref C14_) (.ref U1_) = some false) (w15_16 : PySem.W.subIn K (.ref U2_) (.ref U1_) = some false) (w16_0 : PySem.W.subIn K (.ref C0_) (.ref U2_) = some false) (w16_1 : PySem.W.subIn K (.ref C1_) (.ref U2_) = some false) (w16_2 : PySem.W.subIn K (.ref C2_) (.ref U2_) = some false) (w16_3 : PySem.W.subIn K (.ref C3_) (.ref U2_) = some false) (w16_4 : PySem.W.subIn K (.ref C4_) (.ref U2_) = some false) (w16_5 : PySem.W.subIn K (.ref C5_) (.ref U2_) = some false) (w16_6 : PySem.W.subIn K (.ref C6_) (.ref U2_) = some false) (w16_7 : PySem.W.subIn K (.ref C7_) (.ref U2_) = some false) (w16_8 : PySem.W.subIn K (.ref C8_) (.ref U2_) = some false) (w16_9 : PySem.W.subIn K (.ref C9_) (.ref U2_) = some false) (w16_10 : PySem.W.subIn K (.ref C10_) (.ref U2_) = some false) (w16_11 : PySem.W.subIn K (.ref C11_) (.ref U2_) = some false) (w16_12 : PySem.W.subIn K (.ref C12_) (.ref U2_) = some false) (w16_13 : PySem.W.subIn K (.ref C13_) (.ref U2_) = some false) (w16_14 : PySem.W.subIn K (.ref C14_) (.ref U2_) = some false) (w16_15 : PySem.W.subIn K (.ref U1_) (.ref U2_) = some false) (w17_0 : PySem.W.subIn K (.ref C0_) (.ref B0_) = some true) (w17_1 : PySem.W.subIn K (.ref C1_) (.ref B0_) = some true) (w17_2 : PySem.W.subIn K (.ref C2_) (.ref B0_) = some true) (w17_3 : PySem.W.subIn K (.ref C3_) (.ref B0_) = some true) (w17_4 : PySem.W.subIn K (.ref C4_) (.ref B0_) = some true) (w17_5 : PySem.W.subIn K (.ref C5_) (.ref B0_) = some true) (w17_6 : PySem.W.subIn K (.ref C6_) (.ref B0_) = some true) (w17_7 : PySem.W.subIn K (.ref C7_) (.ref B0_) = some true) (w17_8 : PySem.W.subIn K (.ref C8_) (.ref B0_) = some true) (w17_9 : PySem.W.subIn K (.ref C9_) (.ref B0_) = some true) (w17_10 : PySem.W.subIn K (.ref C10_) (.ref B0_) = some true) (w17_11 : PySem.W.subIn K (.ref C11_) (.ref B0_) = some true) (w17_12 : PySem.W.subIn K (.ref C12_) (.ref B0_) = some true) (w17_13 : PySem.W.subIn K (.ref C13_) (.ref B0_) = some true) (w17_14 : PySem.W.subIn K (.ref C14_) (.ref B0_) = some true) (w17_15 : PySem.W.subIn K (.ref U1_) (.ref B0_) = some true) (w17_16 : PySem.W.subIn K (.ref U2_) (.ref B0_) = some true)
    : ∃ fd : FuncData, (∀ (s : Shared) (v : Value), BindsTo s fd ⟨[v], []⟩ [("_law_script", v)]) ∧ ∀ base : Heap, FnG l.prog w K mg base 12 fa fd ["_law_script"] (spX K (callX prog 12 7) 1) := by
  have e := hfa.symm.trans (PySem.W.mg_of X E a7)
  cases e
  have F0 := L2.fun_mk (st := s0) l0 e0 k0
  have B0 := F0.binds (ps := ["_law_script", "_law_index"]) fun _ _ _ _ _ _ us hl => match us, hl with | [_, _], _ => rfl
  have F1 := L2.fun_mk (st := s1) l1 e1 k1
  have B1 := F1.binds (ps := ["_law_script", "_law_index"]) fun _ _ _ _ _ _ us hl => match us, hl with | [_, _], _ => rfl
  have F2 := L2.fun_mk (st := s2) l2 e2 k2
  have B2 := F2.binds (ps := ["_law_seed", "_law_index"]) fun _ _ _ _ _ _ us hl => match us, hl with | [_, _], _ => rfl
  have F3 := L2.fun_mk (st := s3) l3 e3 k3
  have B3 := F3.binds (ps := ["_law_generator_here", "_law_bound"]) fun _ _ _ _ _ _ us hl => match us, hl with | [_, _], _ => rfl
  have F4 := L2.fun_mk (st := s4) l4 e4 k4
  have B4 := F4.binds (ps := ["_law_which", "_law_value"]) fun _ _ _ _ _ _ us hl => match us, hl with | [_, _], _ => rfl
  have F5 := L2.fun_mk (st := s5) l5 e5 k5
  have B5 := F5.binds (ps := ["_law_which", "_law_value"]) fun _ _ _ _ _ _ us hl => match us, hl with | [_, _], _ => rfl
  have F6 := L2.fun_mk (st := s6) l6 e6 k6
  have B6 := F6.binds (ps := ["_law_error"]) fun _ _ _ _ _ _ us hl => match us, hl with | [_], _ => rfl
  have F7 := L2.fun_mk (st := s7) l7 e7 k7
  have B7 := F7.binds (ps := ["_law_script"]) fun _ _ _ _ _ _ us hl => match us, hl with | [_], _ => rfl
  have con : AllC (ConAt K mg) sg.con := trivial
  have bi : AllB (fun x => mg x = none) sg.bi := ⟨PySem.W.mg_none_of X E z0, PySem.W.mg_none_of X E z1, PySem.W.mg_none_of X E z2, PySem.W.mg_none_of X E z3, PySem.W.mg_none_of X E z4, PySem.W.mg_none_of X E z5, PySem.W.mg_none_of X E z6, PySem.W.mg_none_of X E z7, trivial⟩
  have g0 : ∀ ks ix, (0, ks, ix) ∈ sg.kw → KwB K (PySem.W.fnOf "_law_cell" "_law_cell" (L2.defArgs s0) (L2.defBody s0) (L2.defScope s0) .none kV0 dc0 pm0 an0 cd0 ct0) ["_law_script", "_law_index"] ks ix := by
    intro ks ix hm
    cases hm
  have T0 : Fct sg prog K "_law_cell" 0 _ _ n0 ["_law_script", "_law_index"] s0 _ t0 := ⟨F0, rfl, rfl, rfl, c0, B0, g0⟩
  have g1 : ∀ ks ix, (1, ks, ix) ∈ sg.kw → KwB K (PySem.W.fnOf "_law_generator" "_law_generator" (L2.defArgs s1) (L2.defBody s1) (L2.defScope s1) .none kV1 dc1 pm1 an1 cd1 ct1) ["_law_script", "_law_index"] ks ix := by
    intro ks ix hm
    cases hm
  have T1 : Fct sg prog K "_law_generator" 1 _ _ n1 ["_law_script", "_law_index"] s1 _ t1 := ⟨F1, rfl, rfl, rfl, c1, B1, g1⟩
  have g2 : ∀ ks ix, (2, ks, ix) ∈ sg.kw → KwB K (PySem.W.fnOf "_law_hash" "_law_hash" (L2.defArgs s2) (L2.defBody s2) (L2.defScope s2) .none kV2 dc2 pm2 an2 cd2 ct2) ["_law_seed", "_law_index"] ks ix := by
    intro ks ix hm
    cases hm
  have T2 : Fct sg prog K "_law_hash" 2 _ _ n2 ["_law_seed", "_law_index"] s2 _ t2 := ⟨F2, rfl, rfl, rfl, c2, B2, g2⟩
  have g3 : ∀ ks ix, (3, ks, ix) ∈ sg.kw → KwB K (PySem.W.fnOf "_law_random" "_law_random" (L2.defArgs s3) (L2.defBody s3) (L2.defScope s3) .none kV3 dc3 pm3 an3 cd3 ct3) ["_law_generator_here", "_law_bound"] ks ix := by
    intro ks ix hm
    cases hm
  have T3 : Fct sg prog K "_law_random" 3 _ _ n3 ["_law_generator_here", "_law_bound"] s3 _ t3 := ⟨F3, rfl, rfl, rfl, c3, B3, g3⟩
  have g4 : ∀ ks ix, (4, ks, ix) ∈ sg.kw → KwB K (PySem.W.fnOf "_law_first" "_law_first" (L2.defArgs s4) (L2.defBody s4) (L2.defScope s4) .none kV4 dc4 pm4 an4 cd4 ct4) ["_law_which", "_law_value"] ks ix := by
    intro ks ix hm
    cases hm
  have T4 : Fct sg prog K "_law_first" 4 _ _ n4 ["_law_which", "_law_value"] s4 _ t4 := ⟨F4, rfl, rfl, rfl, c4, B4, g4⟩
  have g5 : ∀ ks ix, (5, ks, ix) ∈ sg.kw → KwB K (PySem.W.fnOf "_law_second" "_law_second" (L2.defArgs s5) (L2.defBody s5) (L2.defScope s5) .none kV5 dc5 pm5 an5 cd5 ct5) ["_law_which", "_law_value"] ks ix := by
    intro ks ix hm
    cases hm
  have T5 : Fct sg prog K "_law_second" 5 _ _ n5 ["_law_which", "_law_value"] s5 _ t5 := ⟨F5, rfl, rfl, rfl, c5, B5, g5⟩
  have g6 : ∀ ks ix, (6, ks, ix) ∈ sg.kw → KwB K (PySem.W.fnOf "_law_flags" "_law_flags" (L2.defArgs s6) (L2.defBody s6) (L2.defScope s6) .none kV6 dc6 pm6 an6 cd6 ct6) ["_law_error"] ks ix := by
    intro ks ix hm
    cases hm
  have T6 : Fct sg prog K "_law_flags" 6 _ _ n6 ["_law_error"] s6 _ t6 := ⟨F6, rfl, rfl, rfl, c6, B6, g6⟩
  have g7 : ∀ ks ix, (7, ks, ix) ∈ sg.kw → KwB K (PySem.W.fnOf "law" "law" (L2.defArgs s7) (L2.defBody s7) (L2.defScope s7) .none kV7 dc7 pm7 an7 cd7 ct7) ["_law_script"] ks ix := by
    intro ks ix hm
    cases hm
  have T7 : Fct sg prog K "law" 7 _ _ n7 ["_law_script"] s7 _ t7 := ⟨F7, rfl, rfl, rfl, c7, B7, g7⟩
  have fs : AllF (fun x f => ∃ a fd N ps st fn, mg x = some (.ref a) ∧ ∃ tr, Fct sg prog K x f a fd N ps st fn tr) sg.fn := ⟨⟨_, _, _, _, _, _, PySem.W.mg_of X E a0, _, T0⟩, ⟨_, _, _, _, _, _, PySem.W.mg_of X E a1, _, T1⟩, ⟨_, _, _, _, _, _, PySem.W.mg_of X E a2, _, T2⟩, ⟨_, _, _, _, _, _, PySem.W.mg_of X E a3, _, T3⟩, ⟨_, _, _, _, _, _, PySem.W.mg_of X E a4, _, T4⟩, ⟨_, _, _, _, _, _, PySem.W.mg_of X E a5, _, T5⟩, ⟨_, _, _, _, _, _, PySem.W.mg_of X E a6, _, T6⟩, ⟨_, _, _, _, _, _, PySem.W.mg_of X E a7, _, T7⟩, trivial⟩
  have E0 : PySem.ErX.ErTxt l.prog K mg "InvalidNumber" C0_ C0_f :=
    { gC := PySem.W.mg_of X E x0A, ini := ini_of x0L y0X, cls := ⟨_, _, _, _, _, _, _, _, _, _, _, _, _, _, _, x0L, y0R⟩, sup := sup_of x0L y0L y0I, noOp := q_no, subC := x0m, subVE := x0v, sa := x0s, ga := x0g, gg := x0h, noN := x0n, iC := x0i, tC := x0t, kC := x0k, exC := x0e, tyC := x0y, hdC := x0d, cC := x0c, spG := q_sp, tkG := q_tk, mrO := x0o, top := q_top, noSup := PySem.W.mg_none_of X E q_sup,
      fn := ⟨_, _, _, _, _, _, _, _, _, _, _, _, _, _, _, _, _, _, _, _, _, _, _, x0F, x0D, ⟨_, _, _, _, _, _, x0K, x0V, x0P⟩, ⟨_, _, _, x0Q⟩, (fun _ _ _ _ => ⟨_, rfl⟩), (fun _ _ _ _ => rfl), ⟨_, _, x0U, rfl⟩⟩ }
  have E1 : PySem.ErX.ErTxt l.prog K mg "InvalidKind" C1_ C1_f :=
    { gC := PySem.W.mg_of X E x1A, ini := ini_of x1L y0X, cls := ⟨_, _, _, _, _, _, _, _, _, _, _, _, _, _, _, x1L, y0R⟩, sup := sup_of x1L y0L y0I, noOp := q_no, subC := x1m, subVE := x1v, sa := x1s, ga := x1g, gg := x1h, noN := x1n, iC := x1i, tC := x1t, kC := x1k, exC := x1e, tyC := x1y, hdC := x1d, cC := x1c, spG := q_sp, tkG := q_tk, mrO := x1o, top := q_top, noSup := PySem.W.mg_none_of X E q_sup,
      fn := ⟨_, _, _, _, _, _, _, _, _, _, _, _, _, _, _, _, _, _, _, _, _, _, _, x1F, x1D, ⟨_, _, _, _, _, _, x1K, x1V, x1P⟩, ⟨_, _, _, x1Q⟩, (fun _ _ _ _ => ⟨_, rfl⟩), (fun _ _ _ _ => rfl), ⟨_, _, x1U, rfl⟩⟩ }
  have E2 : PySem.ErX.ErTxt l.prog K mg "InvalidValue" C2_ C2_f :=
    { gC := PySem.W.mg_of X E x2A, ini := ini_of x2L y0X, cls := ⟨_, _, _, _, _, _, _, _, _, _, _, _, _, _, _, x2L, y0R⟩, sup := sup_of x2L y0L y0I, noOp := q_no, subC := x2m, subVE := x2v, sa := x2s, ga := x2g, gg := x2h, noN := x2n, iC := x2i, tC := x2t, kC := x2k, exC := x2e, tyC := x2y, hdC := x2d, cC := x2c, spG := q_sp, tkG := q_tk, mrO := x2o, top := q_top, noSup := PySem.W.mg_none_of X E q_sup,
      fn := ⟨_, _, _, _, _, _, _, _, _, _, _, _, _, _, _, _, _, _, _, _, _, _, _, x2F, x2D, ⟨_, _, _, _, _, _, x2K, x2V, x2P⟩, ⟨_, _, _, x2Q⟩, (fun _ _ _ _ => ⟨_, rfl⟩), (fun _ _ _ _ => rfl), ⟨_, _, x2U, rfl⟩⟩ }
  have E3 : PySem.ErX.ErTxt l.prog K mg "InvalidProgram" C3_ C3_f :=
    { gC := PySem.W.mg_of X E x3A, ini := ini_of x3L y0X, cls := ⟨_, _, _, _, _, _, _, _, _, _, _, _, _, _, _, x3L, y0R⟩, sup := sup_of x3L y0L y0I, noOp := q_no, subC := x3m, subVE := x3v, sa := x3s, ga := x3g, gg := x3h, noN := x3n, iC := x3i, tC := x3t, kC := x3k, exC := x3e, tyC := x3y, hdC := x3d, cC := x3c, spG := q_sp, tkG := q_tk, mrO := x3o, top := q_top, noSup := PySem.W.mg_none_of X E q_sup,
      fn := ⟨_, _, _, _, _, _, _, _, _, _, _, _, _, _, _, _, _, _, _, _, _, _, _, x3F, x3D, ⟨_, _, _, _, _, _, x3K, x3V, x3P⟩, ⟨_, _, _, x3Q⟩, (fun _ _ _ _ => ⟨_, rfl⟩), (fun _ _ _ _ => rfl), ⟨_, _, x3U, rfl⟩⟩ }
  have E4 : PySem.ErX.ErTxt l.prog K mg "InvalidName" C4_ C4_f :=
    { gC := PySem.W.mg_of X E x4A, ini := ini_of x4L y0X, cls := ⟨_, _, _, _, _, _, _, _, _, _, _, _, _, _, _, x4L, y0R⟩, sup := sup_of x4L y0L y0I, noOp := q_no, subC := x4m, subVE := x4v, sa := x4s, ga := x4g, gg := x4h, noN := x4n, iC := x4i, tC := x4t, kC := x4k, exC := x4e, tyC := x4y, hdC := x4d, cC := x4c, spG := q_sp, tkG := q_tk, mrO := x4o, top := q_top, noSup := PySem.W.mg_none_of X E q_sup,
      fn := ⟨_, _, _, _, _, _, _, _, _, _, _, _, _, _, _, _, _, _, _, _, _, _, _, x4F, x4D, ⟨_, _, _, _, _, _, x4K, x4V, x4P⟩, ⟨_, _, _, x4Q⟩, (fun _ _ _ _ => ⟨_, rfl⟩), (fun _ _ _ _ => rfl), ⟨_, _, x4U, rfl⟩⟩ }
  have E5 : PySem.ErX.ErTxt l.prog K mg "InvalidBill" C5_ C5_f :=
    { gC := PySem.W.mg_of X E x5A, ini := ini_of x5L y0X, cls := ⟨_, _, _, _, _, _, _, _, _, _, _, _, _, _, _, x5L, y0R⟩, sup := sup_of x5L y0L y0I, noOp := q_no, subC := x5m, subVE := x5v, sa := x5s, ga := x5g, gg := x5h, noN := x5n, iC := x5i, tC := x5t, kC := x5k, exC := x5e, tyC := x5y, hdC := x5d, cC := x5c, spG := q_sp, tkG := q_tk, mrO := x5o, top := q_top, noSup := PySem.W.mg_none_of X E q_sup,
      fn := ⟨_, _, _, _, _, _, _, _, _, _, _, _, _, _, _, _, _, _, _, _, _, _, _, x5F, x5D, ⟨_, _, _, _, _, _, x5K, x5V, x5P⟩, ⟨_, _, _, x5Q⟩, (fun _ _ _ _ => ⟨_, rfl⟩), (fun _ _ _ _ => rfl), ⟨_, _, x5U, rfl⟩⟩ }
  have E6 : PySem.ErX.ErTxt l.prog K mg "InvalidPaper" C6_ C6_f :=
    { gC := PySem.W.mg_of X E x6A, ini := ini_of x6L y0X, cls := ⟨_, _, _, _, _, _, _, _, _, _, _, _, _, _, _, x6L, y0R⟩, sup := sup_of x6L y0L y0I, noOp := q_no, subC := x6m, subVE := x6v, sa := x6s, ga := x6g, gg := x6h, noN := x6n, iC := x6i, tC := x6t, kC := x6k, exC := x6e, tyC := x6y, hdC := x6d, cC := x6c, spG := q_sp, tkG := q_tk, mrO := x6o, top := q_top, noSup := PySem.W.mg_none_of X E q_sup,
      fn := ⟨_, _, _, _, _, _, _, _, _, _, _, _, _, _, _, _, _, _, _, _, _, _, _, x6F, x6D, ⟨_, _, _, _, _, _, x6K, x6V, x6P⟩, ⟨_, _, _, x6Q⟩, (fun _ _ _ _ => ⟨_, rfl⟩), (fun _ _ _ _ => rfl), ⟨_, _, x6U, rfl⟩⟩ }
  have E7 : PySem.ErX.ErTxt l.prog K mg "InvalidRows" C7_ C7_f :=
    { gC := PySem.W.mg_of X E x7A, ini := ini_of x7L y0X, cls := ⟨_, _, _, _, _, _, _, _, _, _, _, _, _, _, _, x7L, y0R⟩, sup := sup_of x7L y0L y0I, noOp := q_no, subC := x7m, subVE := x7v, sa := x7s, ga := x7g, gg := x7h, noN := x7n, iC := x7i, tC := x7t, kC := x7k, exC := x7e, tyC := x7y, hdC := x7d, cC := x7c, spG := q_sp, tkG := q_tk, mrO := x7o, top := q_top, noSup := PySem.W.mg_none_of X E q_sup,
      fn := ⟨_, _, _, _, _, _, _, _, _, _, _, _, _, _, _, _, _, _, _, _, _, _, _, x7F, x7D, ⟨_, _, _, _, _, _, x7K, x7V, x7P⟩, ⟨_, _, _, x7Q⟩, (fun _ _ _ _ => ⟨_, rfl⟩), (fun _ _ _ _ => rfl), ⟨_, _, x7U, rfl⟩⟩ }
  have E8 : PySem.ErX.ErTxt l.prog K mg "InvalidText" C8_ C8_f :=
    { gC := PySem.W.mg_of X E x8A, ini := ini_of x8L y0X, cls := ⟨_, _, _, _, _, _, _, _, _, _, _, _, _, _, _, x8L, y0R⟩, sup := sup_of x8L y0L y0I, noOp := q_no, subC := x8m, subVE := x8v, sa := x8s, ga := x8g, gg := x8h, noN := x8n, iC := x8i, tC := x8t, kC := x8k, exC := x8e, tyC := x8y, hdC := x8d, cC := x8c, spG := q_sp, tkG := q_tk, mrO := x8o, top := q_top, noSup := PySem.W.mg_none_of X E q_sup,
      fn := ⟨_, _, _, _, _, _, _, _, _, _, _, _, _, _, _, _, _, _, _, _, _, _, _, x8F, x8D, ⟨_, _, _, _, _, _, x8K, x8V, x8P⟩, ⟨_, _, _, x8Q⟩, (fun _ _ _ _ => ⟨_, rfl⟩), (fun _ _ _ _ => rfl), ⟨_, _, x8U, rfl⟩⟩ }
  have E9 : PySem.ErX.ErTxt l.prog K mg "InvalidUnit" C9_ C9_f :=
    { gC := PySem.W.mg_of X E x9A, ini := ini_of x9L y0X, cls := ⟨_, _, _, _, _, _, _, _, _, _, _, _, _, _, _, x9L, y0R⟩, sup := sup_of x9L y0L y0I, noOp := q_no, subC := x9m, subVE := x9v, sa := x9s, ga := x9g, gg := x9h, noN := x9n, iC := x9i, tC := x9t, kC := x9k, exC := x9e, tyC := x9y, hdC := x9d, cC := x9c, spG := q_sp, tkG := q_tk, mrO := x9o, top := q_top, noSup := PySem.W.mg_none_of X E q_sup,
      fn := ⟨_, _, _, _, _, _, _, _, _, _, _, _, _, _, _, _, _, _, _, _, _, _, _, x9F, x9D, ⟨_, _, _, _, _, _, x9K, x9V, x9P⟩, ⟨_, _, _, x9Q⟩, (fun _ _ _ _ => ⟨_, rfl⟩), (fun _ _ _ _ => rfl), ⟨_, _, x9U, rfl⟩⟩ }
  have E10 : PySem.ErX.ErTxt l.prog K mg "InvalidList" C10_ C10_f :=
    { gC := PySem.W.mg_of X E x10A, ini := ini_of x10L y0X, cls := ⟨_, _, _, _, _, _, _, _, _, _, _, _, _, _, _, x10L, y0R⟩, sup := sup_of x10L y0L y0I, noOp := q_no, subC := x10m, subVE := x10v, sa := x10s, ga := x10g, gg := x10h, noN := x10n, iC := x10i, tC := x10t, kC := x10k, exC := x10e, tyC := x10y, hdC := x10d, cC := x10c, spG := q_sp, tkG := q_tk, mrO := x10o, top := q_top, noSup := PySem.W.mg_none_of X E q_sup,
      fn := ⟨_, _, _, _, _, _, _, _, _, _, _, _, _, _, _, _, _, _, _, _, _, _, _, x10F, x10D, ⟨_, _, _, _, _, _, x10K, x10V, x10P⟩, ⟨_, _, _, x10Q⟩, (fun _ _ _ _ => ⟨_, rfl⟩), (fun _ _ _ _ => rfl), ⟨_, _, x10U, rfl⟩⟩ }
  have E11 : PySem.ErX.ErTxt l.prog K mg "InvalidDeed" C11_ C11_f :=
    { gC := PySem.W.mg_of X E x11A, ini := ini_of x11L y0X, cls := ⟨_, _, _, _, _, _, _, _, _, _, _, _, _, _, _, x11L, y0R⟩, sup := sup_of x11L y0L y0I, noOp := q_no, subC := x11m, subVE := x11v, sa := x11s, ga := x11g, gg := x11h, noN := x11n, iC := x11i, tC := x11t, kC := x11k, exC := x11e, tyC := x11y, hdC := x11d, cC := x11c, spG := q_sp, tkG := q_tk, mrO := x11o, top := q_top, noSup := PySem.W.mg_none_of X E q_sup,
      fn := ⟨_, _, _, _, _, _, _, _, _, _, _, _, _, _, _, _, _, _, _, _, _, _, _, x11F, x11D, ⟨_, _, _, _, _, _, x11K, x11V, x11P⟩, ⟨_, _, _, x11Q⟩, (fun _ _ _ _ => ⟨_, rfl⟩), (fun _ _ _ _ => rfl), ⟨_, _, x11U, rfl⟩⟩ }
  have E12 : PySem.ErX.ErTxt l.prog K mg "InvalidFlag" C12_ C12_f :=
    { gC := PySem.W.mg_of X E x12A, ini := ini_of x12L y0X, cls := ⟨_, _, _, _, _, _, _, _, _, _, _, _, _, _, _, x12L, y0R⟩, sup := sup_of x12L y0L y0I, noOp := q_no, subC := x12m, subVE := x12v, sa := x12s, ga := x12g, gg := x12h, noN := x12n, iC := x12i, tC := x12t, kC := x12k, exC := x12e, tyC := x12y, hdC := x12d, cC := x12c, spG := q_sp, tkG := q_tk, mrO := x12o, top := q_top, noSup := PySem.W.mg_none_of X E q_sup,
      fn := ⟨_, _, _, _, _, _, _, _, _, _, _, _, _, _, _, _, _, _, _, _, _, _, _, x12F, x12D, ⟨_, _, _, _, _, _, x12K, x12V, x12P⟩, ⟨_, _, _, x12Q⟩, (fun _ _ _ _ => ⟨_, rfl⟩), (fun _ _ _ _ => rfl), ⟨_, _, x12U, rfl⟩⟩ }
  have E13 : PySem.ErX.ErTxt l.prog K mg "Unlike" C13_ C13_f :=
    { gC := PySem.W.mg_of X E x13A, ini := ini_of x13L y0X, cls := ⟨_, _, _, _, _, _, _, _, _, _, _, _, _, _, _, x13L, y0R⟩, sup := sup_of x13L y0L y0I, noOp := q_no, subC := x13m, subVE := x13v, sa := x13s, ga := x13g, gg := x13h, noN := x13n, iC := x13i, tC := x13t, kC := x13k, exC := x13e, tyC := x13y, hdC := x13d, cC := x13c, spG := q_sp, tkG := q_tk, mrO := x13o, top := q_top, noSup := PySem.W.mg_none_of X E q_sup,
      fn := ⟨_, _, _, _, _, _, _, _, _, _, _, _, _, _, _, _, _, _, _, _, _, _, _, x13F, x13D, ⟨_, _, _, _, _, _, x13K, x13V, x13P⟩, ⟨_, _, _, x13Q⟩, (fun _ _ _ _ => ⟨_, rfl⟩), (fun _ _ _ _ => rfl), ⟨_, _, x13U, rfl⟩⟩ }
  have E14 : PySem.ErX.ErTxt l.prog K mg "TooMany" C14_ C14_f :=
    { gC := PySem.W.mg_of X E x14A, ini := ini_of x14L y0X, cls := ⟨_, _, _, _, _, _, _, _, _, _, _, _, _, _, _, x14L, y0R⟩, sup := sup_of x14L y0L y0I, noOp := q_no, subC := x14m, subVE := x14v, sa := x14s, ga := x14g, gg := x14h, noN := x14n, iC := x14i, tC := x14t, kC := x14k, exC := x14e, tyC := x14y, hdC := x14d, cC := x14c, spG := q_sp, tkG := q_tk, mrO := x14o, top := q_top, noSup := PySem.W.mg_none_of X E q_sup,
      fn := ⟨_, _, _, _, _, _, _, _, _, _, _, _, _, _, _, _, _, _, _, _, _, _, _, x14F, x14D, ⟨_, _, _, _, _, _, x14K, x14V, x14P⟩, ⟨_, _, _, x14Q⟩, (fun _ _ _ _ => ⟨_, rfl⟩), (fun _ _ _ _ => rfl), ⟨_, _, x14U, rfl⟩⟩ }
  have erA : AllB (fun nm => ∃ C fI, PySem.W.nsIn K mainGlobals nm = some (some (.ref C)) ∧ PySem.ErX.ErTxt l.prog K mg nm C fI) sg.er := ⟨⟨_, _, x0A, E0⟩, ⟨_, _, x1A, E1⟩, ⟨_, _, x2A, E2⟩, ⟨_, _, x3A, E3⟩, ⟨_, _, x4A, E4⟩, ⟨_, _, x5A, E5⟩, ⟨_, _, x6A, E6⟩, ⟨_, _, x7A, E7⟩, ⟨_, _, x8A, E8⟩, ⟨_, _, x9A, E9⟩, ⟨_, _, x10A, E10⟩, ⟨_, _, x11A, E11⟩, ⟨_, _, x12A, E12⟩, ⟨_, _, x13A, E13⟩, ⟨_, _, x14A, E14⟩, trivial⟩
  have er : ErF sg l.prog K mg := by
    have ebA : AllB (fun nm => ∃ C, PySem.W.nsIn K mainGlobals nm = some (some (.ref C)) ∧ PySem.ErX.BtTxt K mg nm C) sg.eb := ⟨⟨_, u0A, { cls := u0z, ga := u0g, gg := u0h, exC := u0e, cC := u0c, spG := q_sp, tkG := q_tk, mrO := u0o, subVE := u0v, gC := PySem.W.mg_of X E u0A, q := u0q, kC := u0k, ini := u0i }⟩, ⟨_, u1A, { cls := u1z, ga := u1g, gg := u1h, exC := u1e, cC := u1c, spG := q_sp, tkG := q_tk, mrO := u1o, subVE := u1v, gC := PySem.W.mg_of X E u1A, q := u1q, kC := u1k, ini := u1i }⟩, ⟨_, u2A, { cls := u2z, ga := u2g, gg := u2h, exC := u2e, cC := u2c, spG := q_sp, tkG := q_tk, mrO := u2o, subVE := u2v, gC := PySem.W.mg_of X E u2A, q := u2q, kC := u2k, ini := u2i }⟩, trivial⟩
    refine ⟨erA.at, fun x cs hm => ?_, fun x hb => ?_, ebA.at⟩
    · rcases hm with _ | ⟨_, hm⟩
      · have al : AllK (fun nm b => (sg.er.contains nm = true ∨ sg.eb.contains nm = true) ∧ ∀ C, PySem.W.nsIn K mainGlobals nm = some (some (.ref C)) → PySem.W.kitOne K (.ref C) (.ref C0_) = some b) [("InvalidNumber", true), ("InvalidKind", false), ("InvalidValue", false), ("InvalidProgram", false), ("InvalidName", false), ("InvalidBill", false), ("InvalidPaper", false), ("InvalidRows", false), ("InvalidText", false), ("InvalidUnit", false), ("InvalidList", false), ("InvalidDeed", false), ("InvalidFlag", false), ("Unlike", false), ("TooMany", false), ("NothingToUndo", false), ("NothingToRedo", false)] := ⟨⟨.inl (by decide +kernel), fun C e => by rw [x0A] at e; cases e; exact kit_same⟩, ⟨.inl (by decide +kernel), fun C e => by rw [x1A] at e; cases e; exact kit_other x1m w0_1 x0z x0y⟩, ⟨.inl (by decide +kernel), fun C e => by rw [x2A] at e; cases e; exact kit_other x2m w0_2 x0z x0y⟩, ⟨.inl (by decide +kernel), fun C e => by rw [x3A] at e; cases e; exact kit_other x3m w0_3 x0z x0y⟩, ⟨.inl (by decide +kernel), fun C e => by rw [x4A] at e; cases e; exact kit_other x4m w0_4 x0z x0y⟩, ⟨.inl (by decide +kernel), fun C e => by rw [x5A] at e; cases e; exact kit_other x5m w0_5 x0z x0y⟩, ⟨.inl (by decide +kernel), fun C e => by rw [x6A] at e; cases e; exact kit_other x6m w0_6 x0z x0y⟩, ⟨.inl (by decide +kernel), fun C e => by rw [x7A] at e; cases e; exact kit_other x7m w0_7 x0z x0y⟩, ⟨.inl (by decide +kernel), fun C e => by rw [x8A] at e; cases e; exact kit_other x8m w0_8 x0z x0y⟩, ⟨.inl (by decide +kernel), fun C e => by rw [x9A] at e; cases e; exact kit_other x9m w0_9 x0z x0y⟩, ⟨.inl (by decide +kernel), fun C e => by rw [x10A] at e; cases e; exact kit_other x10m w0_10 x0z x0y⟩, ⟨.inl (by decide +kernel), fun C e => by rw [x11A] at e; cases e; exact kit_other x11m w0_11 x0z x0y⟩, ⟨.inl (by decide +kernel), fun C e => by rw [x12A] at e; cases e; exact kit_other x12m w0_12 x0z x0y⟩, ⟨.inl (by decide +kernel), fun C e => by rw [x13A] at e; cases e; exact kit_other x13m w0_13 x0z x0y⟩, ⟨.inl (by decide +kernel), fun C e => by rw [x14A] at e; cases e; exact kit_other x14m w0_14 x0z x0y⟩, ⟨.inr (by decide +kernel), fun C e => by rw [u1A] at e; cases e; exact kit_other u1m w0_15 x0z x0y⟩, ⟨.inr (by decide +kernel), fun C e => by rw [u2A] at e; cases e; exact kit_other u2m w0_16 x0z x0y⟩, trivial⟩
        exact ⟨_, PySem.W.mg_of X E x0A, al.at, kit_data x0z x0y⟩
      rcases hm with _ | ⟨_, hm⟩
      · have al : AllK (fun nm b => (sg.er.contains nm = true ∨ sg.eb.contains nm = true) ∧ ∀ C, PySem.W.nsIn K mainGlobals nm = some (some (.ref C)) → PySem.W.kitOne K (.ref C) (.ref C1_) = some b) [("InvalidNumber", false), ("InvalidKind", true), ("InvalidValue", false), ("InvalidProgram", false), ("InvalidName", false), ("InvalidBill", false), ("InvalidPaper", false), ("InvalidRows", false), ("InvalidText", false), ("InvalidUnit", false), ("InvalidList", false), ("InvalidDeed", false), ("InvalidFlag", false), ("Unlike", false), ("TooMany", false), ("NothingToUndo", false), ("NothingToRedo", false)] := ⟨⟨.inl (by decide +kernel), fun C e => by rw [x0A] at e; cases e; exact kit_other x0m w1_0 x1z x1y⟩, ⟨.inl (by decide +kernel), fun C e => by rw [x1A] at e; cases e; exact kit_same⟩, ⟨.inl (by decide +kernel), fun C e => by rw [x2A] at e; cases e; exact kit_other x2m w1_2 x1z x1y⟩, ⟨.inl (by decide +kernel), fun C e => by rw [x3A] at e; cases e; exact kit_other x3m w1_3 x1z x1y⟩, ⟨.inl (by decide +kernel), fun C e => by rw [x4A] at e; cases e; exact kit_other x4m w1_4 x1z x1y⟩, ⟨.inl (by decide +kernel), fun C e => by rw [x5A] at e; cases e; exact kit_other x5m w1_5 x1z x1y⟩, ⟨.inl (by decide +kernel), fun C e => by rw [x6A] at e; cases e; exact kit_other x6m w1_6 x1z x1y⟩, ⟨.inl (by decide +kernel), fun C e => by rw [x7A] at e; cases e; exact kit_other x7m w1_7 x1z x1y⟩, ⟨.inl (by decide +kernel), fun C e => by rw [x8A] at e; cases e; exact kit_other x8m w1_8 x1z x1y⟩, ⟨.inl (by decide +kernel), fun C e => by rw [x9A] at e; cases e; exact kit_other x9m w1_9 x1z x1y⟩, ⟨.inl (by decide +kernel), fun C e => by rw [x10A] at e; cases e; exact kit_other x10m w1_10 x1z x1y⟩, ⟨.inl (by decide +kernel), fun C e => by rw [x11A] at e; cases e; exact kit_other x11m w1_11 x1z x1y⟩, ⟨.inl (by decide +kernel), fun C e => by rw [x12A] at e; cases e; exact kit_other x12m w1_12 x1z x1y⟩, ⟨.inl (by decide +kernel), fun C e => by rw [x13A] at e; cases e; exact kit_other x13m w1_13 x1z x1y⟩, ⟨.inl (by decide +kernel), fun C e => by rw [x14A] at e; cases e; exact kit_other x14m w1_14 x1z x1y⟩, ⟨.inr (by decide +kernel), fun C e => by rw [u1A] at e; cases e; exact kit_other u1m w1_15 x1z x1y⟩, ⟨.inr (by decide +kernel), fun C e => by rw [u2A] at e; cases e; exact kit_other u2m w1_16 x1z x1y⟩, trivial⟩
        exact ⟨_, PySem.W.mg_of X E x1A, al.at, kit_data x1z x1y⟩
      rcases hm with _ | ⟨_, hm⟩
      · have al : AllK (fun nm b => (sg.er.contains nm = true ∨ sg.eb.contains nm = true) ∧ ∀ C, PySem.W.nsIn K mainGlobals nm = some (some (.ref C)) → PySem.W.kitOne K (.ref C) (.ref C2_) = some b) [("InvalidNumber", false), ("InvalidKind", false), ("InvalidValue", true), ("InvalidProgram", false), ("InvalidName", false), ("InvalidBill", false), ("InvalidPaper", false), ("InvalidRows", false), ("InvalidText", false), ("InvalidUnit", false), ("InvalidList", false), ("InvalidDeed", false), ("InvalidFlag", false), ("Unlike", false), ("TooMany", false), ("NothingToUndo", false), ("NothingToRedo", false)] := ⟨⟨.inl (by decide +kernel), fun C e => by rw [x0A] at e; cases e; exact kit_other x0m w2_0 x2z x2y⟩, ⟨.inl (by decide +kernel), fun C e => by rw [x1A] at e; cases e; exact kit_other x1m w2_1 x2z x2y⟩, ⟨.inl (by decide +kernel), fun C e => by rw [x2A] at e; cases e; exact kit_same⟩, ⟨.inl (by decide +kernel), fun C e => by rw [x3A] at e; cases e; exact kit_other x3m w2_3 x2z x2y⟩, ⟨.inl (by decide +kernel), fun C e => by rw [x4A] at e; cases e; exact kit_other x4m w2_4 x2z x2y⟩, ⟨.inl (by decide +kernel), fun C e => by rw [x5A] at e; cases e; exact kit_other x5m w2_5 x2z x2y⟩, ⟨.inl (by decide +kernel), fun C e => by rw [x6A] at e; cases e; exact kit_other x6m w2_6 x2z x2y⟩, ⟨.inl (by decide +kernel), fun C e => by rw [x7A] at e; cases e; exact kit_other x7m w2_7 x2z x2y⟩, ⟨.inl (by decide +kernel), fun C e => by rw [x8A] at e; cases e; exact kit_other x8m w2_8 x2z x2y⟩, ⟨.inl (by decide +kernel), fun C e => by rw [x9A] at e; cases e; exact kit_other x9m w2_9 x2z x2y⟩, ⟨.inl (by decide +kernel), fun C e => by rw [x10A] at e; cases e; exact kit_other x10m w2_10 x2z x2y⟩, ⟨.inl (by decide +kernel), fun C e => by rw [x11A] at e; cases e; exact kit_other x11m w2_11 x2z x2y⟩, ⟨.inl (by decide +kernel), fun C e => by rw [x12A] at e; cases e; exact kit_other x12m w2_12 x2z x2y⟩, ⟨.inl (by decide +kernel), fun C e => by rw [x13A] at e; cases e; exact kit_other x13m w2_13 x2z x2y⟩, ⟨.inl (by decide +kernel), fun C e => by rw [x14A] at e; cases e; exact kit_other x14m w2_14 x2z x2y⟩, ⟨.inr (by decide +kernel), fun C e => by rw [u1A] at e; cases e; exact kit_other u1m w2_15 x2z x2y⟩, ⟨.inr (by decide +kernel), fun C e => by rw [u2A] at e; cases e; exact kit_other u2m w2_16 x2z x2y⟩, trivial⟩
        exact ⟨_, PySem.W.mg_of X E x2A, al.at, kit_data x2z x2y⟩
      rcases hm with _ | ⟨_, hm⟩
      · have al : AllK (fun nm b => (sg.er.contains nm = true ∨ sg.eb.contains nm = true) ∧ ∀ C, PySem.W.nsIn K mainGlobals nm = some (some (.ref C)) → PySem.W.kitOne K (.ref C) (.ref C3_) = some b) [("InvalidNumber", false), ("InvalidKind", false), ("InvalidValue", false), ("InvalidProgram", true), ("InvalidName", false), ("InvalidBill", false), ("InvalidPaper", false), ("InvalidRows", false), ("InvalidText", false), ("InvalidUnit", false), ("InvalidList", false), ("InvalidDeed", false), ("InvalidFlag", false), ("Unlike", false), ("TooMany", false), ("NothingToUndo", false), ("NothingToRedo", false)] := ⟨⟨.inl (by decide +kernel), fun C e => by rw [x0A] at e; cases e; exact kit_other x0m w3_0 x3z x3y⟩, ⟨.inl (by decide +kernel), fun C e => by rw [x1A] at e; cases e; exact kit_other x1m w3_1 x3z x3y⟩, ⟨.inl (by decide +kernel), fun C e => by rw [x2A] at e; cases e; exact kit_other x2m w3_2 x3z x3y⟩, ⟨.inl (by decide +kernel), fun C e => by rw [x3A] at e; cases e; exact kit_same⟩, ⟨.inl (by decide +kernel), fun C e => by rw [x4A] at e; cases e; exact kit_other x4m w3_4 x3z x3y⟩, ⟨.inl (by decide +kernel), fun C e => by rw [x5A] at e; cases e; exact kit_other x5m w3_5 x3z x3y⟩, ⟨.inl (by decide +kernel), fun C e => by rw [x6A] at e; cases e; exact kit_other x6m w3_6 x3z x3y⟩, ⟨.inl (by decide +kernel), fun C e => by rw [x7A] at e; cases e; exact kit_other x7m w3_7 x3z x3y⟩, ⟨.inl (by decide +kernel), fun C e => by rw [x8A] at e; cases e; exact kit_other x8m w3_8 x3z x3y⟩, ⟨.inl (by decide +kernel), fun C e => by rw [x9A] at e; cases e; exact kit_other x9m w3_9 x3z x3y⟩, ⟨.inl (by decide +kernel), fun C e => by rw [x10A] at e; cases e; exact kit_other x10m w3_10 x3z x3y⟩, ⟨.inl (by decide +kernel), fun C e => by rw [x11A] at e; cases e; exact kit_other x11m w3_11 x3z x3y⟩, ⟨.inl (by decide +kernel), fun C e => by rw [x12A] at e; cases e; exact kit_other x12m w3_12 x3z x3y⟩, ⟨.inl (by decide +kernel), fun C e => by rw [x13A] at e; cases e; exact kit_other x13m w3_13 x3z x3y⟩, ⟨.inl (by decide +kernel), fun C e => by rw [x14A] at e; cases e; exact kit_other x14m w3_14 x3z x3y⟩, ⟨.inr (by decide +kernel), fun C e => by rw [u1A] at e; cases e; exact kit_other u1m w3_15 x3z x3y⟩, ⟨.inr (by decide +kernel), fun C e => by rw [u2A] at e; cases e; exact kit_other u2m w3_16 x3z x3y⟩, trivial⟩
        exact ⟨_, PySem.W.mg_of X E x3A, al.at, kit_data x3z x3y⟩
      rcases hm with _ | ⟨_, hm⟩
      · have al : AllK (fun nm b => (sg.er.contains nm = true ∨ sg.eb.contains nm = true) ∧ ∀ C, PySem.W.nsIn K mainGlobals nm = some (some (.ref C)) → PySem.W.kitOne K (.ref C) (.ref C4_) = some b) [("InvalidNumber", false), ("InvalidKind", false), ("InvalidValue", false), ("InvalidProgram", false), ("InvalidName", true), ("InvalidBill", false), ("InvalidPaper", false), ("InvalidRows", false), ("InvalidText", false), ("InvalidUnit", false), ("InvalidList", false), ("InvalidDeed", false), ("InvalidFlag", false), ("Unlike", false), ("TooMany", false), ("NothingToUndo", false), ("NothingToRedo", false)] := ⟨⟨.inl (by decide +kernel), fun C e => by rw [x0A] at e; cases e; exact kit_other x0m w4_0 x4z x4y⟩, ⟨.inl (by decide +kernel), fun C e => by rw [x1A] at e; cases e; exact kit_other x1m w4_1 x4z x4y⟩, ⟨.inl (by decide +kernel), fun C e => by rw [x2A] at e; cases e; exact kit_other x2m w4_2 x4z x4y⟩, ⟨.inl (by decide +kernel), fun C e => by rw [x3A] at e; cases e; exact kit_other x3m w4_3 x4z x4y⟩, ⟨.inl (by decide +kernel), fun C e => by rw [x4A] at e; cases e; exact kit_same⟩, ⟨.inl (by decide +kernel), fun C e => by rw [x5A] at e; cases e; exact kit_other x5m w4_5 x4z x4y⟩, ⟨.inl (by decide +kernel), fun C e => by rw [x6A] at e; cases e; exact kit_other x6m w4_6 x4z x4y⟩, ⟨.inl (by decide +kernel), fun C e => by rw [x7A] at e; cases e; exact kit_other x7m w4_7 x4z x4y⟩, ⟨.inl (by decide +kernel), fun C e => by rw [x8A] at e; cases e; exact kit_other x8m w4_8 x4z x4y⟩, ⟨.inl (by decide +kernel), fun C e => by rw [x9A] at e; cases e; exact kit_other x9m w4_9 x4z x4y⟩, ⟨.inl (by decide +kernel), fun C e => by rw [x10A] at e; cases e; exact kit_other x10m w4_10 x4z x4y⟩, ⟨.inl (by decide +kernel), fun C e => by rw [x11A] at e; cases e; exact kit_other x11m w4_11 x4z x4y⟩, ⟨.inl (by decide +kernel), fun C e => by rw [x12A] at e; cases e; exact kit_other x12m w4_12 x4z x4y⟩, ⟨.inl (by decide +kernel), fun C e => by rw [x13A] at e; cases e; exact kit_other x13m w4_13 x4z x4y⟩, ⟨.inl (by decide +kernel), fun C e => by rw [x14A] at e; cases e; exact kit_other x14m w4_14 x4z x4y⟩, ⟨.inr (by decide +kernel), fun C e => by rw [u1A] at e; cases e; exact kit_other u1m w4_15 x4z x4y⟩, ⟨.inr (by decide +kernel), fun C e => by rw [u2A] at e; cases e; exact kit_other u2m w4_16 x4z x4y⟩, trivial⟩
        exact ⟨_, PySem.W.mg_of X E x4A, al.at, kit_data x4z x4y⟩
      rcases hm with _ | ⟨_, hm⟩
      · have al : AllK (fun nm b => (sg.er.contains nm = true ∨ sg.eb.contains nm = true) ∧ ∀ C, PySem.W.nsIn K mainGlobals nm = some (some (.ref C)) → PySem.W.kitOne K (.ref C) (.ref C5_) = some b) [("InvalidNumber", false), ("InvalidKind", false), ("InvalidValue", false), ("InvalidProgram", false), ("InvalidName", false), ("InvalidBill", true), ("InvalidPaper", false), ("InvalidRows", false), ("InvalidText", false), ("InvalidUnit", false), ("InvalidList", false), ("InvalidDeed", false), ("InvalidFlag", false), ("Unlike", false), ("TooMany", false), ("NothingToUndo", false), ("NothingToRedo", false)] := ⟨⟨.inl (by decide +kernel), fun C e => by rw [x0A] at e; cases e; exact kit_other x0m w5_0 x5z x5y⟩, ⟨.inl (by decide +kernel), fun C e => by rw [x1A] at e; cases e; exact kit_other x1m w5_1 x5z x5y⟩, ⟨.inl (by decide +kernel), fun C e => by rw [x2A] at e; cases e; exact kit_other x2m w5_2 x5z x5y⟩, ⟨.inl (by decide +kernel), fun C e => by rw [x3A] at e; cases e; exact kit_other x3m w5_3 x5z x5y⟩, ⟨.inl (by decide +kernel), fun C e => by rw [x4A] at e; cases e; exact kit_other x4m w5_4 x5z x5y⟩, ⟨.inl (by decide +kernel), fun C e => by rw [x5A] at e; cases e; exact kit_same⟩, ⟨.inl (by decide +kernel), fun C e => by rw [x6A] at e; cases e; exact kit_other x6m w5_6 x5z x5y⟩, ⟨.inl (by decide +kernel), fun C e => by rw [x7A] at e; cases e; exact kit_other x7m w5_7 x5z x5y⟩, ⟨.inl (by decide +kernel), fun C e => by rw [x8A] at e; cases e; exact kit_other x8m w5_8 x5z x5y⟩, ⟨.inl (by decide +kernel), fun C e => by rw [x9A] at e; cases e; exact kit_other x9m w5_9 x5z x5y⟩, ⟨.inl (by decide +kernel), fun C e => by rw [x10A] at e; cases e; exact kit_other x10m w5_10 x5z x5y⟩, ⟨.inl (by decide +kernel), fun C e => by rw [x11A] at e; cases e; exact kit_other x11m w5_11 x5z x5y⟩, ⟨.inl (by decide +kernel), fun C e => by rw [x12A] at e; cases e; exact kit_other x12m w5_12 x5z x5y⟩, ⟨.inl (by decide +kernel), fun C e => by rw [x13A] at e; cases e; exact kit_other x13m w5_13 x5z x5y⟩, ⟨.inl (by decide +kernel), fun C e => by rw [x14A] at e; cases e; exact kit_other x14m w5_14 x5z x5y⟩, ⟨.inr (by decide +kernel), fun C e => by rw [u1A] at e; cases e; exact kit_other u1m w5_15 x5z x5y⟩, ⟨.inr (by decide +kernel), fun C e => by rw [u2A] at e; cases e; exact kit_other u2m w5_16 x5z x5y⟩, trivial⟩
        exact ⟨_, PySem.W.mg_of X E x5A, al.at, kit_data x5z x5y⟩
      rcases hm with _ | ⟨_, hm⟩
      · have al : AllK (fun nm b => (sg.er.contains nm = true ∨ sg.eb.contains nm = true) ∧ ∀ C, PySem.W.nsIn K mainGlobals nm = some (some (.ref C)) → PySem.W.kitOne K (.ref C) (.ref C6_) = some b) [("InvalidNumber", false), ("InvalidKind", false), ("InvalidValue", false), ("InvalidProgram", false), ("InvalidName", false), ("InvalidBill", false), ("InvalidPaper", true), ("InvalidRows", false), ("InvalidText", false), ("InvalidUnit", false), ("InvalidList", false), ("InvalidDeed", false), ("InvalidFlag", false), ("Unlike", false), ("TooMany", false), ("NothingToUndo", false), ("NothingToRedo", false)] := ⟨⟨.inl (by decide +kernel), fun C e => by rw [x0A] at e; cases e; exact kit_other x0m w6_0 x6z x6y⟩, ⟨.inl (by decide +kernel), fun C e => by rw [x1A] at e; cases e; exact kit_other x1m w6_1 x6z x6y⟩, ⟨.inl (by decide +kernel), fun C e => by rw [x2A] at e; cases e; exact kit_other x2m w6_2 x6z x6y⟩, ⟨.inl (by decide +kernel), fun C e => by rw [x3A] at e; cases e; exact kit_other x3m w6_3 x6z x6y⟩, ⟨.inl (by decide +kernel), fun C e => by rw [x4A] at e; cases e; exact kit_other x4m w6_4 x6z x6y⟩, ⟨.inl (by decide +kernel), fun C e => by rw [x5A] at e; cases e; exact kit_other x5m w6_5 x6z x6y⟩, ⟨.inl (by decide +kernel), fun C e => by rw [x6A] at e; cases e; exact kit_same⟩, ⟨.inl (by decide +kernel), fun C e => by rw [x7A] at e; cases e; exact kit_other x7m w6_7 x6z x6y⟩, ⟨.inl (by decide +kernel), fun C e => by rw [x8A] at e; cases e; exact kit_other x8m w6_8 x6z x6y⟩, ⟨.inl (by decide +kernel), fun C e => by rw [x9A] at e; cases e; exact kit_other x9m w6_9 x6z x6y⟩, ⟨.inl (by decide +kernel), fun C e => by rw [x10A] at e; cases e; exact kit_other x10m w6_10 x6z x6y⟩, ⟨.inl (by decide +kernel), fun C e => by rw [x11A] at e; cases e; exact kit_other x11m w6_11 x6z x6y⟩, ⟨.inl (by decide +kernel), fun C e => by rw [x12A] at e; cases e; exact kit_other x12m w6_12 x6z x6y⟩, ⟨.inl (by decide +kernel), fun C e => by rw [x13A] at e; cases e; exact kit_other x13m w6_13 x6z x6y⟩, ⟨.inl (by decide +kernel), fun C e => by rw [x14A] at e; cases e; exact kit_other x14m w6_14 x6z x6y⟩, ⟨.inr (by decide +kernel), fun C e => by rw [u1A] at e; cases e; exact kit_other u1m w6_15 x6z x6y⟩, ⟨.inr (by decide +kernel), fun C e => by rw [u2A] at e; cases e; exact kit_other u2m w6_16 x6z x6y⟩, trivial⟩
        exact ⟨_, PySem.W.mg_of X E x6A, al.at, kit_data x6z x6y⟩
      rcases hm with _ | ⟨_, hm⟩
      · have al : AllK (fun nm b => (sg.er.contains nm = true ∨ sg.eb.contains nm = true) ∧ ∀ C, PySem.W.nsIn K mainGlobals nm = some (some (.ref C)) → PySem.W.kitOne K (.ref C) (.ref C7_) = some b) [("InvalidNumber", false), ("InvalidKind", false), ("InvalidValue", false), ("InvalidProgram", false), ("InvalidName", false), ("InvalidBill", false), ("InvalidPaper", false), ("InvalidRows", true), ("InvalidText", false), ("InvalidUnit", false), ("InvalidList", false), ("InvalidDeed", false), ("InvalidFlag", false), ("Unlike", false), ("TooMany", false), ("NothingToUndo", false), ("NothingToRedo", false)] := ⟨⟨.inl (by decide +kernel), fun C e => by rw [x0A] at e; cases e; exact kit_other x0m w7_0 x7z x7y⟩, ⟨.inl (by decide +kernel), fun C e => by rw [x1A] at e; cases e; exact kit_other x1m w7_1 x7z x7y⟩, ⟨.inl (by decide +kernel), fun C e => by rw [x2A] at e; cases e; exact kit_other x2m w7_2 x7z x7y⟩, ⟨.inl (by decide +kernel), fun C e => by rw [x3A] at e; cases e; exact kit_other x3m w7_3 x7z x7y⟩, ⟨.inl (by decide +kernel), fun C e => by rw [x4A] at e; cases e; exact kit_other x4m w7_4 x7z x7y⟩, ⟨.inl (by decide +kernel), fun C e => by rw [x5A] at e; cases e; exact kit_other x5m w7_5 x7z x7y⟩, ⟨.inl (by decide +kernel), fun C e => by rw [x6A] at e; cases e; exact kit_other x6m w7_6 x7z x7y⟩, ⟨.inl (by decide +kernel), fun C e => by rw [x7A] at e; cases e; exact kit_same⟩, ⟨.inl (by decide +kernel), fun C e => by rw [x8A] at e; cases e; exact kit_other x8m w7_8 x7z x7y⟩, ⟨.inl (by decide +kernel), fun C e => by rw [x9A] at e; cases e; exact kit_other x9m w7_9 x7z x7y⟩, ⟨.inl (by decide +kernel), fun C e => by rw [x10A] at e; cases e; exact kit_other x10m w7_10 x7z x7y⟩, ⟨.inl (by decide +kernel), fun C e => by rw [x11A] at e; cases e; exact kit_other x11m w7_11 x7z x7y⟩, ⟨.inl (by decide +kernel), fun C e => by rw [x12A] at e; cases e; exact kit_other x12m w7_12 x7z x7y⟩, ⟨.inl (by decide +kernel), fun C e => by rw [x13A] at e; cases e; exact kit_other x13m w7_13 x7z x7y⟩, ⟨.inl (by decide +kernel), fun C e => by rw [x14A] at e; cases e; exact kit_other x14m w7_14 x7z x7y⟩, ⟨.inr (by decide +kernel), fun C e => by rw [u1A] at e; cases e; exact kit_other u1m w7_15 x7z x7y⟩, ⟨.inr (by decide +kernel), fun C e => by rw [u2A] at e; cases e; exact kit_other u2m w7_16 x7z x7y⟩, trivial⟩
        exact ⟨_, PySem.W.mg_of X E x7A, al.at, kit_data x7z x7y⟩
      rcases hm with _ | ⟨_, hm⟩
      · have al : AllK (fun nm b => (sg.er.contains nm = true ∨ sg.eb.contains nm = true) ∧ ∀ C, PySem.W.nsIn K mainGlobals nm = some (some (.ref C)) → PySem.W.kitOne K (.ref C) (.ref C8_) = some b) [("InvalidNumber", false), ("InvalidKind", false), ("InvalidValue", false), ("InvalidProgram", false), ("InvalidName", false), ("InvalidBill", false), ("InvalidPaper", false), ("InvalidRows", false), ("InvalidText", true), ("InvalidUnit", false), ("InvalidList", false), ("InvalidDeed", false), ("InvalidFlag", false), ("Unlike", false), ("TooMany", false), ("NothingToUndo", false), ("NothingToRedo", false)] := ⟨⟨.inl (by decide +kernel), fun C e => by rw [x0A] at e; cases e; exact kit_other x0m w8_0 x8z x8y⟩, ⟨.inl (by decide +kernel), fun C e => by rw [x1A] at e; cases e; exact kit_other x1m w8_1 x8z x8y⟩, ⟨.inl (by decide +kernel), fun C e => by rw [x2A] at e; cases e; exact kit_other x2m w8_2 x8z x8y⟩, ⟨.inl (by decide +kernel), fun C e => by rw [x3A] at e; cases e; exact kit_other x3m w8_3 x8z x8y⟩, ⟨.inl (by decide +kernel), fun C e => by rw [x4A] at e; cases e; exact kit_other x4m w8_4 x8z x8y⟩, ⟨.inl (by decide +kernel), fun C e => by rw [x5A] at e; cases e; exact kit_other x5m w8_5 x8z x8y⟩, ⟨.inl (by decide +kernel), fun C e => by rw [x6A] at e; cases e; exact kit_other x6m w8_6 x8z x8y⟩, ⟨.inl (by decide +kernel), fun C e => by rw [x7A] at e; cases e; exact kit_other x7m w8_7 x8z x8y⟩, ⟨.inl (by decide +kernel), fun C e => by rw [x8A] at e; cases e; exact kit_same⟩, ⟨.inl (by decide +kernel), fun C e => by rw [x9A] at e; cases e; exact kit_other x9m w8_9 x8z x8y⟩, ⟨.inl (by decide +kernel), fun C e => by rw [x10A] at e; cases e; exact kit_other x10m w8_10 x8z x8y⟩, ⟨.inl (by decide +kernel), fun C e => by rw [x11A] at e; cases e; exact kit_other x11m w8_11 x8z x8y⟩, ⟨.inl (by decide +kernel), fun C e => by rw [x12A] at e; cases e; exact kit_other x12m w8_12 x8z x8y⟩, ⟨.inl (by decide +kernel), fun C e => by rw [x13A] at e; cases e; exact kit_other x13m w8_13 x8z x8y⟩, ⟨.inl (by decide +kernel), fun C e => by rw [x14A] at e; cases e; exact kit_other x14m w8_14 x8z x8y⟩, ⟨.inr (by decide +kernel), fun C e => by rw [u1A] at e; cases e; exact kit_other u1m w8_15 x8z x8y⟩, ⟨.inr (by decide +kernel), fun C e => by rw [u2A] at e; cases e; exact kit_other u2m w8_16 x8z x8y⟩, trivial⟩
        exact ⟨_, PySem.W.mg_of X E x8A, al.at, kit_data x8z x8y⟩
      rcases hm with _ | ⟨_, hm⟩
      · have al : AllK (fun nm b => (sg.er.contains nm = true ∨ sg.eb.contains nm = true) ∧ ∀ C, PySem.W.nsIn K mainGlobals nm = some (some (.ref C)) → PySem.W.kitOne K (.ref C) (.ref C9_) = some b) [("InvalidNumber", false), ("InvalidKind", false), ("InvalidValue", false), ("InvalidProgram", false), ("InvalidName", false), ("InvalidBill", false), ("InvalidPaper", false), ("InvalidRows", false), ("InvalidText", false), ("InvalidUnit", true), ("InvalidList", false), ("InvalidDeed", false), ("InvalidFlag", false), ("Unlike", false), ("TooMany", false), ("NothingToUndo", false), ("NothingToRedo", false)] := ⟨⟨.inl (by decide +kernel), fun C e => by rw [x0A] at e; cases e; exact kit_other x0m w9_0 x9z x9y⟩, ⟨.inl (by decide +kernel), fun C e => by rw [x1A] at e; cases e; exact kit_other x1m w9_1 x9z x9y⟩, ⟨.inl (by decide +kernel), fun C e => by rw [x2A] at e; cases e; exact kit_other x2m w9_2 x9z x9y⟩, ⟨.inl (by decide +kernel), fun C e => by rw [x3A] at e; cases e; exact kit_other x3m w9_3 x9z x9y⟩, ⟨.inl (by decide +kernel), fun C e => by rw [x4A] at e; cases e; exact kit_other x4m w9_4 x9z x9y⟩, ⟨.inl (by decide +kernel), fun C e => by rw [x5A] at e; cases e; exact kit_other x5m w9_5 x9z x9y⟩, ⟨.inl (by decide +kernel), fun C e => by rw [x6A] at e; cases e; exact kit_other x6m w9_6 x9z x9y⟩, ⟨.inl (by decide +kernel), fun C e => by rw [x7A] at e; cases e; exact kit_other x7m w9_7 x9z x9y⟩, ⟨.inl (by decide +kernel), fun C e => by rw [x8A] at e; cases e; exact kit_other x8m w9_8 x9z x9y⟩, ⟨.inl (by decide +kernel), fun C e => by rw [x9A] at e; cases e; exact kit_same⟩, ⟨.inl (by decide +kernel), fun C e => by rw [x10A] at e; cases e; exact kit_other x10m w9_10 x9z x9y⟩, ⟨.inl (by decide +kernel), fun C e => by rw [x11A] at e; cases e; exact kit_other x11m w9_11 x9z x9y⟩, ⟨.inl (by decide +kernel), fun C e => by rw [x12A] at e; cases e; exact kit_other x12m w9_12 x9z x9y⟩, ⟨.inl (by decide +kernel), fun C e => by rw [x13A] at e; cases e; exact kit_other x13m w9_13 x9z x9y⟩, ⟨.inl (by decide +kernel), fun C e => by rw [x14A] at e; cases e; exact kit_other x14m w9_14 x9z x9y⟩, ⟨.inr (by decide +kernel), fun C e => by rw [u1A] at e; cases e; exact kit_other u1m w9_15 x9z x9y⟩, ⟨.inr (by decide +kernel), fun C e => by rw [u2A] at e; cases e; exact kit_other u2m w9_16 x9z x9y⟩, trivial⟩
        exact ⟨_, PySem.W.mg_of X E x9A, al.at, kit_data x9z x9y⟩
      rcases hm with _ | ⟨_, hm⟩
      · have al : AllK (fun nm b => (sg.er.contains nm = true ∨ sg.eb.contains nm = true) ∧ ∀ C, PySem.W.nsIn K mainGlobals nm = some (some (.ref C)) → PySem.W.kitOne K (.ref C) (.ref C10_) = some b) [("InvalidNumber", false), ("InvalidKind", false), ("InvalidValue", false), ("InvalidProgram", false), ("InvalidName", false), ("InvalidBill", false), ("InvalidPaper", false), ("InvalidRows", false), ("InvalidText", false), ("InvalidUnit", false), ("InvalidList", true), ("InvalidDeed", false), ("InvalidFlag", false), ("Unlike", false), ("TooMany", false), ("NothingToUndo", false), ("NothingToRedo", false)] := ⟨⟨.inl (by decide +kernel), fun C e => by rw [x0A] at e; cases e; exact kit_other x0m w10_0 x10z x10y⟩, ⟨.inl (by decide +kernel), fun C e => by rw [x1A] at e; cases e; exact kit_other x1m w10_1 x10z x10y⟩, ⟨.inl (by decide +kernel), fun C e => by rw [x2A] at e; cases e; exact kit_other x2m w10_2 x10z x10y⟩, ⟨.inl (by decide +kernel), fun C e => by rw [x3A] at e; cases e; exact kit_other x3m w10_3 x10z x10y⟩, ⟨.inl (by decide +kernel), fun C e => by rw [x4A] at e; cases e; exact kit_other x4m w10_4 x10z x10y⟩, ⟨.inl (by decide +kernel), fun C e => by rw [x5A] at e; cases e; exact kit_other x5m w10_5 x10z x10y⟩, ⟨.inl (by decide +kernel), fun C e => by rw [x6A] at e; cases e; exact kit_other x6m w10_6 x10z x10y⟩, ⟨.inl (by decide +kernel), fun C e => by rw [x7A] at e; cases e; exact kit_other x7m w10_7 x10z x10y⟩, ⟨.inl (by decide +kernel), fun C e => by rw [x8A] at e; cases e; exact kit_other x8m w10_8 x10z x10y⟩, ⟨.inl (by decide +kernel), fun C e => by rw [x9A] at e; cases e; exact kit_other x9m w10_9 x10z x10y⟩, ⟨.inl (by decide +kernel), fun C e => by rw [x10A] at e; cases e; exact kit_same⟩, ⟨.inl (by decide +kernel), fun C e => by rw [x11A] at e; cases e; exact kit_other x11m w10_11 x10z x10y⟩, ⟨.inl (by decide +kernel), fun C e => by rw [x12A] at e; cases e; exact kit_other x12m w10_12 x10z x10y⟩, ⟨.inl (by decide +kernel), fun C e => by rw [x13A] at e; cases e; exact kit_other x13m w10_13 x10z x10y⟩, ⟨.inl (by decide +kernel), fun C e => by rw [x14A] at e; cases e; exact kit_other x14m w10_14 x10z x10y⟩, ⟨.inr (by decide +kernel), fun C e => by rw [u1A] at e; cases e; exact kit_other u1m w10_15 x10z x10y⟩, ⟨.inr (by decide +kernel), fun C e => by rw [u2A] at e; cases e; exact kit_other u2m w10_16 x10z x10y⟩, trivial⟩
        exact ⟨_, PySem.W.mg_of X E x10A, al.at, kit_data x10z x10y⟩
      rcases hm with _ | ⟨_, hm⟩
      · have al : AllK (fun nm b => (sg.er.contains nm = true ∨ sg.eb.contains nm = true) ∧ ∀ C, PySem.W.nsIn K mainGlobals nm = some (some (.ref C)) → PySem.W.kitOne K (.ref C) (.ref C11_) = some b) [("InvalidNumber", false), ("InvalidKind", false), ("InvalidValue", false), ("InvalidProgram", false), ("InvalidName", false), ("InvalidBill", false), ("InvalidPaper", false), ("InvalidRows", false), ("InvalidText", false), ("InvalidUnit", false), ("InvalidList", false), ("InvalidDeed", true), ("InvalidFlag", false), ("Unlike", false), ("TooMany", false), ("NothingToUndo", false), ("NothingToRedo", false)] := ⟨⟨.inl (by decide +kernel), fun C e => by rw [x0A] at e; cases e; exact kit_other x0m w11_0 x11z x11y⟩, ⟨.inl (by decide +kernel), fun C e => by rw [x1A] at e; cases e; exact kit_other x1m w11_1 x11z x11y⟩, ⟨.inl (by decide +kernel), fun C e => by rw [x2A] at e; cases e; exact kit_other x2m w11_2 x11z x11y⟩, ⟨.inl (by decide +kernel), fun C e => by rw [x3A] at e; cases e; exact kit_other x3m w11_3 x11z x11y⟩, ⟨.inl (by decide +kernel), fun C e => by rw [x4A] at e; cases e; exact kit_other x4m w11_4 x11z x11y⟩, ⟨.inl (by decide +kernel), fun C e => by rw [x5A] at e; cases e; exact kit_other x5m w11_5 x11z x11y⟩, ⟨.inl (by decide +kernel), fun C e => by rw [x6A] at e; cases e; exact kit_other x6m w11_6 x11z x11y⟩, ⟨.inl (by decide +kernel), fun C e => by rw [x7A] at e; cases e; exact kit_other x7m w11_7 x11z x11y⟩, ⟨.inl (by decide +kernel), fun C e => by rw [x8A] at e; cases e; exact kit_other x8m w11_8 x11z x11y⟩, ⟨.inl (by decide +kernel), fun C e => by rw [x9A] at e; cases e; exact kit_other x9m w11_9 x11z x11y⟩, ⟨.inl (by decide +kernel), fun C e => by rw [x10A] at e; cases e; exact kit_other x10m w11_10 x11z x11y⟩, ⟨.inl (by decide +kernel), fun C e => by rw [x11A] at e; cases e; exact kit_same⟩, ⟨.inl (by decide +kernel), fun C e => by rw [x12A] at e; cases e; exact kit_other x12m w11_12 x11z x11y⟩, ⟨.inl (by decide +kernel), fun C e => by rw [x13A] at e; cases e; exact kit_other x13m w11_13 x11z x11y⟩, ⟨.inl (by decide +kernel), fun C e => by rw [x14A] at e; cases e; exact kit_other x14m w11_14 x11z x11y⟩, ⟨.inr (by decide +kernel), fun C e => by rw [u1A] at e; cases e; exact kit_other u1m w11_15 x11z x11y⟩, ⟨.inr (by decide +kernel), fun C e => by rw [u2A] at e; cases e; exact kit_other u2m w11_16 x11z x11y⟩, trivial⟩
        exact ⟨_, PySem.W.mg_of X E x11A, al.at, kit_data x11z x11y⟩
      rcases hm with _ | ⟨_, hm⟩
      · have al : AllK (fun nm b => (sg.er.contains nm = true ∨ sg.eb.contains nm = true) ∧ ∀ C, PySem.W.nsIn K mainGlobals nm = some (some (.ref C)) → PySem.W.kitOne K (.ref C) (.ref C12_) = some b) [("InvalidNumber", false), ("InvalidKind", false), ("InvalidValue", false), ("InvalidProgram", false), ("InvalidName", false), ("InvalidBill", false), ("InvalidPaper", false), ("InvalidRows", false), ("InvalidText", false), ("InvalidUnit", false), ("InvalidList", false), ("InvalidDeed", false), ("InvalidFlag", true), ("Unlike", false), ("TooMany", false), ("NothingToUndo", false), ("NothingToRedo", false)] := ⟨⟨.inl (by decide +kernel), fun C e => by rw [x0A] at e; cases e; exact kit_other x0m w12_0 x12z x12y⟩, ⟨.inl (by decide +kernel), fun C e => by rw [x1A] at e; cases e; exact kit_other x1m w12_1 x12z x12y⟩, ⟨.inl (by decide +kernel), fun C e => by rw [x2A] at e; cases e; exact kit_other x2m w12_2 x12z x12y⟩, ⟨.inl (by decide +kernel), fun C e => by rw [x3A] at e; cases e; exact kit_other x3m w12_3 x12z x12y⟩, ⟨.inl (by decide +kernel), fun C e => by rw [x4A] at e; cases e; exact kit_other x4m w12_4 x12z x12y⟩, ⟨.inl (by decide +kernel), fun C e => by rw [x5A] at e; cases e; exact kit_other x5m w12_5 x12z x12y⟩, ⟨.inl (by decide +kernel), fun C e => by rw [x6A] at e; cases e; exact kit_other x6m w12_6 x12z x12y⟩, ⟨.inl (by decide +kernel), fun C e => by rw [x7A] at e; cases e; exact kit_other x7m w12_7 x12z x12y⟩, ⟨.inl (by decide +kernel), fun C e => by rw [x8A] at e; cases e; exact kit_other x8m w12_8 x12z x12y⟩, ⟨.inl (by decide +kernel), fun C e => by rw [x9A] at e; cases e; exact kit_other x9m w12_9 x12z x12y⟩, ⟨.inl (by decide +kernel), fun C e => by rw [x10A] at e; cases e; exact kit_other x10m w12_10 x12z x12y⟩, ⟨.inl (by decide +kernel), fun C e => by rw [x11A] at e; cases e; exact kit_other x11m w12_11 x12z x12y⟩, ⟨.inl (by decide +kernel), fun C e => by rw [x12A] at e; cases e; exact kit_same⟩, ⟨.inl (by decide +kernel), fun C e => by rw [x13A] at e; cases e; exact kit_other x13m w12_13 x12z x12y⟩, ⟨.inl (by decide +kernel), fun C e => by rw [x14A] at e; cases e; exact kit_other x14m w12_14 x12z x12y⟩, ⟨.inr (by decide +kernel), fun C e => by rw [u1A] at e; cases e; exact kit_other u1m w12_15 x12z x12y⟩, ⟨.inr (by decide +kernel), fun C e => by rw [u2A] at e; cases e; exact kit_other u2m w12_16 x12z x12y⟩, trivial⟩
        exact ⟨_, PySem.W.mg_of X E x12A, al.at, kit_data x12z x12y⟩
      rcases hm with _ | ⟨_, hm⟩
      · have al : AllK (fun nm b => (sg.er.contains nm = true ∨ sg.eb.contains nm = true) ∧ ∀ C, PySem.W.nsIn K mainGlobals nm = some (some (.ref C)) → PySem.W.kitOne K (.ref C) (.ref C13_) = some b) [("InvalidNumber", false), ("InvalidKind", false), ("InvalidValue", false), ("InvalidProgram", false), ("InvalidName", false), ("InvalidBill", false), ("InvalidPaper", false), ("InvalidRows", false), ("InvalidText", false), ("InvalidUnit", false), ("InvalidList", false), ("InvalidDeed", false), ("InvalidFlag", false), ("Unlike", true), ("TooMany", false), ("NothingToUndo", false), ("NothingToRedo", false)] := ⟨⟨.inl (by decide +kernel), fun C e => by rw [x0A] at e; cases e; exact kit_other x0m w13_0 x13z x13y⟩, ⟨.inl (by decide +kernel), fun C e => by rw [x1A] at e; cases e; exact kit_other x1m w13_1 x13z x13y⟩, ⟨.inl (by decide +kernel), fun C e => by rw [x2A] at e; cases e; exact kit_other x2m w13_2 x13z x13y⟩, ⟨.inl (by decide +kernel), fun C e => by rw [x3A] at e; cases e; exact kit_other x3m w13_3 x13z x13y⟩, ⟨.inl (by decide +kernel), fun C e => by rw [x4A] at e; cases e; exact kit_other x4m w13_4 x13z x13y⟩, ⟨.inl (by decide +kernel), fun C e => by rw [x5A] at e; cases e; exact kit_other x5m w13_5 x13z x13y⟩, ⟨.inl (by decide +kernel), fun C e => by rw [x6A] at e; cases e; exact kit_other x6m w13_6 x13z x13y⟩, ⟨.inl (by decide +kernel), fun C e => by rw [x7A] at e; cases e; exact kit_other x7m w13_7 x13z x13y⟩, ⟨.inl (by decide +kernel), fun C e => by rw [x8A] at e; cases e; exact kit_other x8m w13_8 x13z x13y⟩, ⟨.inl (by decide +kernel), fun C e => by rw [x9A] at e; cases e; exact kit_other x9m w13_9 x13z x13y⟩, ⟨.inl (by decide +kernel), fun C e => by rw [x10A] at e; cases e; exact kit_other x10m w13_10 x13z x13y⟩, ⟨.inl (by decide +kernel), fun C e => by rw [x11A] at e; cases e; exact kit_other x11m w13_11 x13z x13y⟩, ⟨.inl (by decide +kernel), fun C e => by rw [x12A] at e; cases e; exact kit_other x12m w13_12 x13z x13y⟩, ⟨.inl (by decide +kernel), fun C e => by rw [x13A] at e; cases e; exact kit_same⟩, ⟨.inl (by decide +kernel), fun C e => by rw [x14A] at e; cases e; exact kit_other x14m w13_14 x13z x13y⟩, ⟨.inr (by decide +kernel), fun C e => by rw [u1A] at e; cases e; exact kit_other u1m w13_15 x13z x13y⟩, ⟨.inr (by decide +kernel), fun C e => by rw [u2A] at e; cases e; exact kit_other u2m w13_16 x13z x13y⟩, trivial⟩
        exact ⟨_, PySem.W.mg_of X E x13A, al.at, kit_data x13z x13y⟩
      rcases hm with _ | ⟨_, hm⟩
      · have al : AllK (fun nm b => (sg.er.contains nm = true ∨ sg.eb.contains nm = true) ∧ ∀ C, PySem.W.nsIn K mainGlobals nm = some (some (.ref C)) → PySem.W.kitOne K (.ref C) (.ref C14_) = some b) [("InvalidNumber", false), ("InvalidKind", false), ("InvalidValue", false), ("InvalidProgram", false), ("InvalidName", false), ("InvalidBill", false), ("InvalidPaper", false), ("InvalidRows", false), ("InvalidText", false), ("InvalidUnit", false), ("InvalidList", false), ("InvalidDeed", false), ("InvalidFlag", false), ("Unlike", false), ("TooMany", true), ("NothingToUndo", false), ("NothingToRedo", false)] := ⟨⟨.inl (by decide +kernel), fun C e => by rw [x0A] at e; cases e; exact kit_other x0m w14_0 x14z x14y⟩, ⟨.inl (by decide +kernel), fun C e => by rw [x1A] at e; cases e; exact kit_other x1m w14_1 x14z x14y⟩, ⟨.inl (by decide +kernel), fun C e => by rw [x2A] at e; cases e; exact kit_other x2m w14_2 x14z x14y⟩, ⟨.inl (by decide +kernel), fun C e => by rw [x3A] at e; cases e; exact kit_other x3m w14_3 x14z x14y⟩, ⟨.inl (by decide +kernel), fun C e => by rw [x4A] at e; cases e; exact kit_other x4m w14_4 x14z x14y⟩, ⟨.inl (by decide +kernel), fun C e => by rw [x5A] at e; cases e; exact kit_other x5m w14_5 x14z x14y⟩, ⟨.inl (by decide +kernel), fun C e => by rw [x6A] at e; cases e; exact kit_other x6m w14_6 x14z x14y⟩, ⟨.inl (by decide +kernel), fun C e => by rw [x7A] at e; cases e; exact kit_other x7m w14_7 x14z x14y⟩, ⟨.inl (by decide +kernel), fun C e => by rw [x8A] at e; cases e; exact kit_other x8m w14_8 x14z x14y⟩, ⟨.inl (by decide +kernel), fun C e => by rw [x9A] at e; cases e; exact kit_other x9m w14_9 x14z x14y⟩, ⟨.inl (by decide +kernel), fun C e => by rw [x10A] at e; cases e; exact kit_other x10m w14_10 x14z x14y⟩, ⟨.inl (by decide +kernel), fun C e => by rw [x11A] at e; cases e; exact kit_other x11m w14_11 x14z x14y⟩, ⟨.inl (by decide +kernel), fun C e => by rw [x12A] at e; cases e; exact kit_other x12m w14_12 x14z x14y⟩, ⟨.inl (by decide +kernel), fun C e => by rw [x13A] at e; cases e; exact kit_other x13m w14_13 x14z x14y⟩, ⟨.inl (by decide +kernel), fun C e => by rw [x14A] at e; cases e; exact kit_same⟩, ⟨.inr (by decide +kernel), fun C e => by rw [u1A] at e; cases e; exact kit_other u1m w14_15 x14z x14y⟩, ⟨.inr (by decide +kernel), fun C e => by rw [u2A] at e; cases e; exact kit_other u2m w14_16 x14z x14y⟩, trivial⟩
        exact ⟨_, PySem.W.mg_of X E x14A, al.at, kit_data x14z x14y⟩
      rcases hm with _ | ⟨_, hm⟩
      · have al : AllK (fun nm b => (sg.er.contains nm = true ∨ sg.eb.contains nm = true) ∧ ∀ C, PySem.W.nsIn K mainGlobals nm = some (some (.ref C)) → PySem.W.kitOne K (.ref C) (.ref U1_) = some b) [("InvalidNumber", false), ("InvalidKind", false), ("InvalidValue", false), ("InvalidProgram", false), ("InvalidName", false), ("InvalidBill", false), ("InvalidPaper", false), ("InvalidRows", false), ("InvalidText", false), ("InvalidUnit", false), ("InvalidList", false), ("InvalidDeed", false), ("InvalidFlag", false), ("Unlike", false), ("TooMany", false), ("NothingToUndo", true), ("NothingToRedo", false)] := ⟨⟨.inl (by decide +kernel), fun C e => by rw [x0A] at e; cases e; exact kit_other x0m w15_0 u1z u1y⟩, ⟨.inl (by decide +kernel), fun C e => by rw [x1A] at e; cases e; exact kit_other x1m w15_1 u1z u1y⟩, ⟨.inl (by decide +kernel), fun C e => by rw [x2A] at e; cases e; exact kit_other x2m w15_2 u1z u1y⟩, ⟨.inl (by decide +kernel), fun C e => by rw [x3A] at e; cases e; exact kit_other x3m w15_3 u1z u1y⟩, ⟨.inl (by decide +kernel), fun C e => by rw [x4A] at e; cases e; exact kit_other x4m w15_4 u1z u1y⟩, ⟨.inl (by decide +kernel), fun C e => by rw [x5A] at e; cases e; exact kit_other x5m w15_5 u1z u1y⟩, ⟨.inl (by decide +kernel), fun C e => by rw [x6A] at e; cases e; exact kit_other x6m w15_6 u1z u1y⟩, ⟨.inl (by decide +kernel), fun C e => by rw [x7A] at e; cases e; exact kit_other x7m w15_7 u1z u1y⟩, ⟨.inl (by decide +kernel), fun C e => by rw [x8A] at e; cases e; exact kit_other x8m w15_8 u1z u1y⟩, ⟨.inl (by decide +kernel), fun C e => by rw [x9A] at e; cases e; exact kit_other x9m w15_9 u1z u1y⟩, ⟨.inl (by decide +kernel), fun C e => by rw [x10A] at e; cases e; exact kit_other x10m w15_10 u1z u1y⟩, ⟨.inl (by decide +kernel), fun C e => by rw [x11A] at e; cases e; exact kit_other x11m w15_11 u1z u1y⟩, ⟨.inl (by decide +kernel), fun C e => by rw [x12A] at e; cases e; exact kit_other x12m w15_12 u1z u1y⟩, ⟨.inl (by decide +kernel), fun C e => by rw [x13A] at e; cases e; exact kit_other x13m w15_13 u1z u1y⟩, ⟨.inl (by decide +kernel), fun C e => by rw [x14A] at e; cases e; exact kit_other x14m w15_14 u1z u1y⟩, ⟨.inr (by decide +kernel), fun C e => by rw [u1A] at e; cases e; exact kit_same⟩, ⟨.inr (by decide +kernel), fun C e => by rw [u2A] at e; cases e; exact kit_other u2m w15_16 u1z u1y⟩, trivial⟩
        exact ⟨_, PySem.W.mg_of X E u1A, al.at, kit_data u1z u1y⟩
      rcases hm with _ | ⟨_, hm⟩
      · have al : AllK (fun nm b => (sg.er.contains nm = true ∨ sg.eb.contains nm = true) ∧ ∀ C, PySem.W.nsIn K mainGlobals nm = some (some (.ref C)) → PySem.W.kitOne K (.ref C) (.ref U2_) = some b) [("InvalidNumber", false), ("InvalidKind", false), ("InvalidValue", false), ("InvalidProgram", false), ("InvalidName", false), ("InvalidBill", false), ("InvalidPaper", false), ("InvalidRows", false), ("InvalidText", false), ("InvalidUnit", false), ("InvalidList", false), ("InvalidDeed", false), ("InvalidFlag", false), ("Unlike", false), ("TooMany", false), ("NothingToUndo", false), ("NothingToRedo", true)] := ⟨⟨.inl (by decide +kernel), fun C e => by rw [x0A] at e; cases e; exact kit_other x0m w16_0 u2z u2y⟩, ⟨.inl (by decide +kernel), fun C e => by rw [x1A] at e; cases e; exact kit_other x1m w16_1 u2z u2y⟩, ⟨.inl (by decide +kernel), fun C e => by rw [x2A] at e; cases e; exact kit_other x2m w16_2 u2z u2y⟩, ⟨.inl (by decide +kernel), fun C e => by rw [x3A] at e; cases e; exact kit_other x3m w16_3 u2z u2y⟩, ⟨.inl (by decide +kernel), fun C e => by rw [x4A] at e; cases e; exact kit_other x4m w16_4 u2z u2y⟩, ⟨.inl (by decide +kernel), fun C e => by rw [x5A] at e; cases e; exact kit_other x5m w16_5 u2z u2y⟩, ⟨.inl (by decide +kernel), fun C e => by rw [x6A] at e; cases e; exact kit_other x6m w16_6 u2z u2y⟩, ⟨.inl (by decide +kernel), fun C e => by rw [x7A] at e; cases e; exact kit_other x7m w16_7 u2z u2y⟩, ⟨.inl (by decide +kernel), fun C e => by rw [x8A] at e; cases e; exact kit_other x8m w16_8 u2z u2y⟩, ⟨.inl (by decide +kernel), fun C e => by rw [x9A] at e; cases e; exact kit_other x9m w16_9 u2z u2y⟩, ⟨.inl (by decide +kernel), fun C e => by rw [x10A] at e; cases e; exact kit_other x10m w16_10 u2z u2y⟩, ⟨.inl (by decide +kernel), fun C e => by rw [x11A] at e; cases e; exact kit_other x11m w16_11 u2z u2y⟩, ⟨.inl (by decide +kernel), fun C e => by rw [x12A] at e; cases e; exact kit_other x12m w16_12 u2z u2y⟩, ⟨.inl (by decide +kernel), fun C e => by rw [x13A] at e; cases e; exact kit_other x13m w16_13 u2z u2y⟩, ⟨.inl (by decide +kernel), fun C e => by rw [x14A] at e; cases e; exact kit_other x14m w16_14 u2z u2y⟩, ⟨.inr (by decide +kernel), fun C e => by rw [u1A] at e; cases e; exact kit_other u1m w16_15 u2z u2y⟩, ⟨.inr (by decide +kernel), fun C e => by rw [u2A] at e; cases e; exact kit_same⟩, trivial⟩
        exact ⟨_, PySem.W.mg_of X E u2A, al.at, kit_data u2z u2y⟩
      rcases hm with _ | ⟨_, hm⟩
      · have al : AllK (fun nm b => (sg.er.contains nm = true ∨ sg.eb.contains nm = true) ∧ ∀ C, PySem.W.nsIn K mainGlobals nm = some (some (.ref C)) → PySem.W.kitOne K (.ref C) (.ref B0_) = some b) [("InvalidNumber", true), ("InvalidKind", true), ("InvalidValue", true), ("InvalidProgram", true), ("InvalidName", true), ("InvalidBill", true), ("InvalidPaper", true), ("InvalidRows", true), ("InvalidText", true), ("InvalidUnit", true), ("InvalidList", true), ("InvalidDeed", true), ("InvalidFlag", true), ("Unlike", true), ("TooMany", true), ("NothingToUndo", true), ("NothingToRedo", true)] := ⟨⟨.inl (by decide +kernel), fun C e => by rw [x0A] at e; cases e; exact kit_subc w17_0 y0C y0T⟩, ⟨.inl (by decide +kernel), fun C e => by rw [x1A] at e; cases e; exact kit_subc w17_1 y0C y0T⟩, ⟨.inl (by decide +kernel), fun C e => by rw [x2A] at e; cases e; exact kit_subc w17_2 y0C y0T⟩, ⟨.inl (by decide +kernel), fun C e => by rw [x3A] at e; cases e; exact kit_subc w17_3 y0C y0T⟩, ⟨.inl (by decide +kernel), fun C e => by rw [x4A] at e; cases e; exact kit_subc w17_4 y0C y0T⟩, ⟨.inl (by decide +kernel), fun C e => by rw [x5A] at e; cases e; exact kit_subc w17_5 y0C y0T⟩, ⟨.inl (by decide +kernel), fun C e => by rw [x6A] at e; cases e; exact kit_subc w17_6 y0C y0T⟩, ⟨.inl (by decide +kernel), fun C e => by rw [x7A] at e; cases e; exact kit_subc w17_7 y0C y0T⟩, ⟨.inl (by decide +kernel), fun C e => by rw [x8A] at e; cases e; exact kit_subc w17_8 y0C y0T⟩, ⟨.inl (by decide +kernel), fun C e => by rw [x9A] at e; cases e; exact kit_subc w17_9 y0C y0T⟩, ⟨.inl (by decide +kernel), fun C e => by rw [x10A] at e; cases e; exact kit_subc w17_10 y0C y0T⟩, ⟨.inl (by decide +kernel), fun C e => by rw [x11A] at e; cases e; exact kit_subc w17_11 y0C y0T⟩, ⟨.inl (by decide +kernel), fun C e => by rw [x12A] at e; cases e; exact kit_subc w17_12 y0C y0T⟩, ⟨.inl (by decide +kernel), fun C e => by rw [x13A] at e; cases e; exact kit_subc w17_13 y0C y0T⟩, ⟨.inl (by decide +kernel), fun C e => by rw [x14A] at e; cases e; exact kit_subc w17_14 y0C y0T⟩, ⟨.inr (by decide +kernel), fun C e => by rw [u1A] at e; cases e; exact kit_subc w17_15 y0C y0T⟩, ⟨.inr (by decide +kernel), fun C e => by rw [u2A] at e; cases e; exact kit_subc w17_16 y0C y0T⟩, trivial⟩
        exact ⟨_, PySem.W.mg_of X E y0A, al.at, kit_data y0C y0T⟩
      cases hm
    · have bl : AllB (fun x => ∃ B, mg x = some (.ref B) ∧ ∀ nm C, sg.er.contains nm = true → PySem.W.nsIn K mainGlobals nm = some (some (.ref C)) → PySem.W.exmOne K (.ref C) (.ref B) = some true) sg.base := by
        exact trivial
      exact bl.at x hb
  exact ⟨_, fun s v => .of_eq rfl, fun base => fct_g T7 (md_all con.at bi.at fs.at er 11)⟩
end K01
namespace TI
open PySem
section
variable {P : List Fn} {k f : Nat} {fn : Fn} {vs : List Vl} {m : Mu}
theorem call_eq (h : P[f]? = some fn) (h1 : vs.length = fn.np) (h2 : fn.np ≤ fn.nl) : callF P (k + 1) f vs m = (match execs (callX P k) m.length fn.body (vs.map some ++ List.replicate (fn.nl - fn.np) none) m with
    | some (.rt v, m') => fin fn.keep m.length v m'
    | some (.nx _, m') => fin fn.keep m.length (.t .none) m'
    | _ => none) := by
  have e : callX P (k + 1) f vs m = (match execs (callX P k) m.length fn.body (vs.map some ++ List.replicate (fn.nl - fn.np) none) m with
        | some (.rt v, m') => okR (fin fn.keep m.length v m')
        | some (.nx _, m') => okR (fin fn.keep m.length (.t .none) m')
        | some (.ex _ c x, m') => finX m.length c x m'
        | _ => none) := by
    unfold callX
    rw [h]
    exact if_pos (by simp [h1, h2])
  show valC (callX P (k + 1)) f vs m = _
  have ok : ∀ o : Option (Vl × Mu), (match okR o with
      | some (.ok v, m) => some (v, m)
      | _ => none) = o := fun o => by cases o <;> rfl
  unfold valC
  rw [e]
  cases execs (callX P k) m.length fn.body (vs.map some ++ List.replicate (fn.nl - fn.np) none) m with
  | none => rfl
  | some a =>
    obtain ⟨fl, m1⟩ := a
    cases fl with
    | rt v => exact ok _
    | nx r => exact ok _
    | ex r c x =>
      show (match finX m.length c x m1 with
        | some (.ok v, m) => some (v, m)
        | _ => none) = none
      unfold finX
      split
      · rename_i h; split at h <;> cases h
      · rfl
    | bk r => rfl
    | ct r => rfl
theorem valC_callX : valC (callX P k) = callF P k := rfl
theorem fin_t {kp : Bool} {d : D} {b : Nat} {m' : Mu} : fin kp b (.t d) m' = some (.t d, m'.take b) := by unfold fin; cases kp <;> rfl
end
theorem ofS (a b : String) : (Str.ofString a = Str.ofString b) = (a = b) := by
  refine propext ⟨fun h => ?_, fun h => by rw [h]⟩
  rw [Str.ofString_eq_toList, Str.ofString_eq_toList] at h
  have h1 : a.toList.map Char.toNat = b.toList.map Char.toNat := by
    have := congrArg (fun z => z.cps.toList) h
    simpa using this
  have inj : ∀ {l r : List Char}, l.map Char.toNat = r.map Char.toNat → l = r := by
    intro l
    induction l with
    | nil => intro r h; cases r with
      | nil => rfl
      | cons _ _ => cases h
    | cons c l ih =>
      intro r h
      cases r with
      | nil => cases h
      | cons d r =>
        simp only [List.map_cons, List.cons.injEq] at h
        rw [ih h.2, Char.toNat_inj.mp h.1]
  exact String.toList_inj.mp (inj h1)
theorem ofSb (a b : String) : (Str.ofString a == Str.ofString b) = (a == b) := by
  rw [Bool.eq_iff_iff, beq_iff_eq, beq_iff_eq, ofS]
theorem okS (a : String) : PyData.strOk (Str.ofString a) = true := by
  rw [Str.ofString_eq_toList]
  unfold PyData.strOk
  simp only [List.all_toArray, List.all_map, List.all_eq_true, Function.comp, decide_eq_true_eq]
  intro c _
  have := c.valid
  rcases this with h | h
  · exact Nat.lt_trans h (by decide)
  · exact h.2
def bHash : Sts := .cons (.set 2 (.op .mod (.cons (.op .toInt (.cons (.op .add (.cons (.op .add (.cons (.op .add (.cons (.op .mul (.cons (.var 0) (.cons (.con (.int 1140671)) .nil))) (.cons (.op .mul (.cons (.op .mul (.cons (.con (.int 27644437)) (.cons (.var 1) .nil))) (.cons (.var 1) .nil))) .nil))) (.cons (.op .mul (.cons (.con (.int 131)) (.cons (.var 1) .nil))) .nil))) (.cons (.con (.int 19)) .nil))) .nil)) (.cons (.con (.int 2147483629)) .nil))))
    (.cons (.set 2 (.op .mod (.cons (.op .toInt (.cons (.op .add (.cons (.op .add (.cons (.op .mul (.cons (.var 2) (.cons (.var 2) .nil))) (.cons (.op .mul (.cons (.con (.int 62089)) (.cons (.var 1) .nil))) .nil))) (.cons (.con (.int 32416187)) .nil))) .nil)) (.cons (.con (.int 2147483587)) .nil))))
    (.cons (.ret (.op .mod (.cons (.op .toInt (.cons (.op .mul (.cons (.var 2) (.cons (.con (.int 48271)) .nil))) .nil)) (.cons (.con (.int 2147483647)) .nil))))
    .nil))
def bCell : Sts := .cons (.iff (.op .lt (.cons (.var 1) (.cons (.op .len (.cons (.var 0) .nil)) .nil))) (.cons (.ret (.op .idx (.cons (.var 0) (.cons (.var 1) .nil)))) .nil) .nil)
    (.cons (.ret (.op .mod (.cons (.op .sum (.cons (.new (.op .slHi (.cons (.var 0) (.cons (.con (.int 1)) .nil)))) .nil)) (.cons (.con (.int 1000003)) .nil)))) .nil)
def bGen (ic : Nat) : Sts := .cons (.set 2 (.call ic (.cons (.var 0) (.cons (.var 1) .nil))))
    (.cons (.ret (.mk (.lst (.cons (.op .mod (.cons (.op .toInt (.cons (.op .max2 (.cons (.op .sub (.cons (.var 2) (.cons (.op .pow (.cons (.con (.int 10)) (.cons (.con (.int 18)) .nil))) .nil))) (.cons (.con (.int 0)) .nil))) .nil)) (.cons (.op .pow (.cons (.op .pow (.cons (.con (.int 10)) (.cons (.con (.int 60)) .nil))) (.cons (.con (.int 10)) .nil))) .nil))) (.cons (.op .mod (.cons (.op .toInt (.cons (.var 2) .nil)) (.cons (.con (.int 2147483647)) .nil))) (.cons (.op .mul (.cons (.con (.int 1000)) (.cons (.var 1) .nil))) .nil))))))
    .nil)
def bRandom (ih : Nat) : Sts := .cons (.iff (.op .gt (.cons (.op .idx (.cons (.var 0) (.cons (.con (.int 0)) .nil))) (.cons (.con (.int 0)) .nil))) (.cons (.set 2 (.op .mod (.cons (.op .toInt (.cons (.op .idx (.cons (.var 0) (.cons (.con (.int 0)) .nil))) .nil)) (.cons (.var 1) .nil))))
    (.cons (.put 0 (.con (.int 0)) (.op .fdiv (.cons (.op .idx (.cons (.var 0) (.cons (.con (.int 0)) .nil))) (.cons (.var 1) .nil))))
    (.cons (.ret (.var 2))
    .nil))) .nil)
    (.cons (.set 2 (.con (.int 0)))
    (.cons (.forr (.one 3) (.range (.cons (.op .add (.cons (.con (.int 1)) (.cons (.op .fdiv (.cons (.op .bitlen (.cons (.var 1) .nil)) (.cons (.con (.int 30)) .nil))) .nil))) .nil)) (.cons (.put 0 (.con (.int 2)) (.op .add (.cons (.op .idx (.cons (.var 0) (.cons (.con (.int 2)) .nil))) (.cons (.con (.int 1)) .nil))))
    (.cons (.set 2 (.op .add (.cons (.op .mul (.cons (.var 2) (.cons (.con (.int 2147483587)) .nil))) (.cons (.call ih (.cons (.op .idx (.cons (.var 0) (.cons (.con (.int 1)) .nil))) (.cons (.op .idx (.cons (.var 0) (.cons (.con (.int 2)) .nil))) .nil))) .nil))))
    .nil)))
    (.cons (.ret (.op .mod (.cons (.op .toInt (.cons (.var 2) .nil)) (.cons (.var 1) .nil))))
    .nil)))
theorem fmod_in (a : Int) {b : Int} (h : 0 < b) : 0 ≤ a.fmod b ∧ a.fmod b < b := ⟨Int.fmod_nonneg_of_pos a h, Int.fmod_lt_of_pos a h⟩
theorem mul_small {i j : Int} (h : i.natAbs < 2 ^ 64) : mulOk i j = true := by unfold mulOk; simp [h]
theorem mul_both {i j : Int} (h : i.natAbs < 2 ^ 128) (h2 : j.natAbs < 2 ^ 128) : mulOk i j = true := by
  have e : (2 : Nat) ^ 128 ≤ 2 ^ 5000 := Nat.pow_le_pow_right (by decide) (by decide)
  unfold mulOk
  have h3 := Nat.lt_of_lt_of_le h e
  have h4 := Nat.lt_of_lt_of_le h2 e
  simp [h3, h4]
theorem div_ok {i j : Int} (h0 : j ≠ 0) (h : j.natAbs < 2 ^ 128) : divOk i j = true := by
  have h3 := Nat.lt_of_lt_of_le h (Nat.pow_le_pow_right (by decide) (by decide) : (2 : Nat) ^ 128 ≤ 2 ^ 5000)
  unfold divOk
  simp [h0, h3]
section
variable {P : List Fn} {ih ir ic ig k : Nat} {m : Mu}
theorem ev_hash (hp : P[ih]? = some ⟨2, 3, bHash, false⟩) {s i : Int} (h1 : s.natAbs < 2 ^ 62) (h2 : i.natAbs < 2 ^ 62) : ∃ r, callF P (k + 1) ih [.t (.int s), .t (.int i)] m = some (.t (.int r), m) ∧ 0 ≤ r := by
  have a1 : mulOk s 1140671 = true := mul_small (by omega)
  have a2 : mulOk 27644437 i = true := mul_small (by decide)
  have a3 : mulOk (27644437 * i) i = true := mul_both (by rw [Int.natAbs_mul, show (27644437 : Int).natAbs = 27644437 from rfl]; omega) (by omega)
  have a4 : mulOk 131 i = true := mul_small (by decide)
  have a5 : mulOk 62089 i = true := mul_small (by decide)
  generalize hx : (s * 1140671 + 27644437 * i * i + 131 * i + 19).fmod 2147483629 = x
  have bx := fmod_in (s * 1140671 + 27644437 * i * i + 131 * i + 19) (b := 2147483629) (by decide)
  rw [hx] at bx
  have a6 : mulOk x x = true := mul_small (by omega)
  generalize hy : (x * x + 62089 * i + 32416187).fmod 2147483587 = y
  have b_y := fmod_in (x * x + 62089 * i + 32416187) (b := 2147483587) (by decide)
  rw [hy] at b_y
  have a7 : mulOk y 48271 = true := mul_small (by omega)
  refine ⟨(y * 48271).fmod 2147483647, ?_, (fmod_in _ (by decide)).1⟩
  rw [call_eq hp rfl (by decide)]
  simp [bHash, TI.execs, TI.execS, TI.evalE, TI.evalL, TI.evalD, TI.evalN, TI.evalS, TI.views, TI.view, TI.down, TI.opF, TI.opN, TI.fAdd, TI.fMul, TI.fII, TI.fI, TI.fB, TI.f1, TI.f2, TI.fin_t, TI.Cell.data, TI.valC_callX, fToInt, a1, a2, a3, a4, a5, a6, a7, hx, hy]
def Gen (B : Int) (m : Mu) (n : Nat) : Prop := ∃ a s c, m[n]? = some (.lst [.int a, .int s, .int c] false) ∧ 0 ≤ a ∧ 0 ≤ s ∧ s < 2147483647 ∧ 0 ≤ c ∧ c ≤ B
theorem Gen.lt {B : Int} {n : Nat} (h : Gen B m n) : n < m.length := by
  obtain ⟨_, _, _, e, _⟩ := h
  exact (List.getElem?_eq_some_iff.mp e).1
theorem bits_small {i : Int} (h0 : 0 < i) (h : i < 2 ^ 29) : ((Builtin.Int.intBits i : Nat) : Int).fdiv 30 = 0 := by
  have e : Builtin.Int.intBits i < 30 := by
    unfold Builtin.Int.intBits
    rw [if_neg (by simp; omega)]
    have := (Nat.log2_lt (n := i.natAbs) (k := 29) (by omega)).mpr (by omega)
    omega
  rw [Int.fdiv_eq_ediv_of_nonneg _ (by decide)]
  omega
theorem ev_random (hp : P[ir]? = some ⟨2, 4, bRandom ih, false⟩) (hh : P[ih]? = some ⟨2, 3, bHash, false⟩) {B : Int} {n : Nat} {bd : Int} (hb : B < 2 ^ 60) (g : Gen B m n) (h0 : 0 < bd) (h1 : bd < 2 ^ 29) :
    ∃ r c, callF P (k + 2) ir [.loc n, .t (.int bd)] m = some (.t (.int r), m.set n c) ∧ 0 ≤ r ∧ r < bd ∧ Gen (B + 1) (m.set n c) n := by
  have hn := g.lt
  obtain ⟨a, s, c, e, g1, g2, g3, g4, g5⟩ := g
  have he : m[n] = .lst [.int a, .int s, .int c] false := (List.getElem?_eq_some_iff.mp e).2
  rw [call_eq hp rfl (show 2 ≤ 4 by decide)]
  by_cases ha : 0 < a
  · have d1 : divOk a bd = true := div_ok (by omega) (by omega)
    refine ⟨a.fmod bd, .lst [.int (a.fdiv bd), .int s, .int c] false, ?_, (fmod_in a h0).1, (fmod_in a h0).2, a.fdiv bd, s, c, by rw [List.getElem?_set_self hn], Int.fdiv_nonneg g1 (by omega), g2, g3, g4, by omega⟩
    have hm : decide (bd ≠ 0) = true := by simp; omega
    simp [bRandom, TI.execs, TI.execS, TI.evalE, TI.evalL, TI.evalD, TI.evalN, TI.evalS, TI.views, TI.view, TI.down, TI.opF, TI.opN, TI.fAdd, TI.fMul, TI.fII, TI.fI, TI.fB, TI.f1, TI.f2, TI.fin_t, TI.Cell.data, TI.valC_callX, fToInt, fIdx, L2.atI, L2.ixN, e, ha, d1, hm, Int.ne_of_gt h0]
    rw [List.take_of_length_le (by simp)]
  · have hz : a = 0 := by omega
    subst hz
    have hbits := bits_small h0 h1
    obtain ⟨r, hr, hr0⟩ := ev_hash (k := k) (m := m.set n (.lst [.int 0, .int s, .int (c + 1)] false)) hh (s := s) (i := c + 1) (by omega) (by omega)
    refine ⟨r.fmod bd, .lst [.int 0, .int s, .int (c + 1)] false, ?_, (fmod_in r h0).1, (fmod_in r h0).2, 0, s, c + 1, by rw [List.getElem?_set_self hn], by omega, g2, g3, by omega, by omega⟩
    have hm0 : mulOk 0 2147483587 = true := mul_small (by decide)
    have sm : small (1 : Int) = true := by decide
    have d30 : ∀ x, divOk x 30 = true := fun x => div_ok (by decide) (by decide)
    simp [bRandom, TI.execs, TI.execS, TI.evalE, TI.evalL, TI.evalD, TI.evalN, TI.evalS, TI.views, TI.view, TI.down, TI.opF, TI.opN, TI.fAdd, TI.fMul, TI.fII, TI.fI, TI.fB, TI.f1, TI.f2, TI.fin_t, TI.Cell.data, TI.valC_callX, fToInt, fIdx, L2.atI, L2.ixN, e, Int.ne_of_gt h0, d30, hbits, rangeF, sm, rangeD, forLoop, setTg, hr, hn, he, hm0]
    rw [List.take_of_length_le (by simp)]
theorem allInts_map : ∀ l : List Int, allInts (l.map PyData.int) = some l
  | [] => rfl
  | i :: l => by
    show (match allInts (l.map PyData.int) with | some l => some (i :: l) | none => none) = _
    rw [allInts_map l]
theorem cutA_map {α β : Type} (f : α → β) (l : List α) (lo hi : Option Int) : cutA (l.map f) lo hi = (cutA l lo hi).map f := by
  unfold cutA
  rw [List.length_map, List.map_take, List.map_drop]
theorem ev_cell (hp : P[ic]? = some ⟨2, 2, bCell, false⟩) (ns : List Int) (i : Nat) : ∃ v, callF P (k + 1) ic [.t (.list (ns.map PyData.int)), .t (.int i)] m = some (.t (.int v), m) := by
  rw [call_eq hp rfl (show 2 ≤ 2 by decide)]
  by_cases h : i < ns.length
  · have h' : (i : Int) < ns.length := by omega
    refine ⟨ns[i], ?_⟩
    simp [bCell, TI.execs, TI.execS, TI.evalE, TI.evalL, TI.evalD, TI.evalN, TI.evalS, TI.views, TI.view, TI.down, TI.opF, TI.opN, TI.fAdd, TI.fMul, TI.fII, TI.fI, TI.fB, TI.f1, TI.f2, TI.fin_t, TI.Cell.data, TI.valC_callX, fLen, fIdx, L2.atI, L2.ixN, h]
  · have h' : ¬ ((i : Int) < ns.length) := by omega
    refine ⟨(cutA ns none (some 1)).sum.fmod 1000003, ?_⟩
    simp [bCell, TI.execs, TI.execS, TI.evalE, TI.evalL, TI.evalD, TI.evalN, TI.evalS, TI.views, TI.view, TI.down, TI.opF, TI.opN, TI.fAdd, TI.fMul, TI.fII, TI.fI, TI.fB, TI.f1, TI.f2, TI.fin_t, TI.Cell.data, TI.valC_callX, fLen, h, fSum, nCut, cutA_map, allInts_map]
theorem ev_gen (hp : P[ig]? = some ⟨2, 3, bGen ic, true⟩) (hc : P[ic]? = some ⟨2, 2, bCell, false⟩) (ns : List Int) (i : Nat) : ∃ c, callF P (k + 2) ig [.t (.list (ns.map PyData.int)), .t (.int i)] m = some (.loc m.length, m ++ [c]) ∧ Gen (1000 * i) (m ++ [c]) m.length := by
  obtain ⟨v, hv⟩ := ev_cell (P := P) (k := k) (m := m) hc ns i
  have p1 : (10 : Nat) < 2 ^ 1000 := by decide +kernel
  have p2 : (1000000000000000000000000000000000000000000000000000000000000 : Nat) < 2 ^ 1000 := by decide +kernel
  have m1 : mulOk 1000 i = true := mul_small (by decide)
  refine ⟨.lst [.int ((if 0 > v - 10 ^ 18 then 0 else v - 10 ^ 18).fmod ((10 ^ 60) ^ 10)), .int (v.fmod 2147483647), .int (1000 * i)] false, ?_, _, _, _, List.getElem?_concat_length .., (fmod_in _ (by decide +kernel)).1, (fmod_in _ (by decide)).1, (fmod_in _ (by decide)).2, by omega, by omega⟩
  rw [call_eq hp rfl (show 2 ≤ 3 by decide)]
  simp [bGen, TI.execs, TI.execS, TI.evalE, TI.evalL, TI.evalD, TI.evalN, TI.evalS, TI.views, TI.view, TI.down, TI.opF, TI.opN, TI.fAdd, TI.fMul, TI.fII, TI.fI, TI.fB, TI.f1, TI.f2, TI.fin_t, TI.Cell.data, TI.valC_callX, hv, fToInt, p1, p2, m1, fin]
end
theorem forLoop_pass {body : En → Mu → Option (Fl × Mu)} {tg : Tg} {Inv : En → Mu → Prop} : ∀ (ds : List D) (r : En) (m : Mu), Inv r m → (∀ d ∈ ds, ∀ r m, Inv r m → ∃ r1 r2 m2, setTg r tg d = some r1 ∧ body r1 m = some (.nx r2, m2) ∧ Inv r2 m2) → ∃ r' m', forLoop body tg ds r m = some (.nx r', m') ∧ Inv r' m'
  | [], r, m, h, _ => ⟨r, m, rfl, h⟩
  | d :: ds, r, m, h, st => by
    obtain ⟨r1, r2, m2, e1, e2, h2⟩ := st d List.mem_cons_self r m h
    obtain ⟨r', m', e3, h3⟩ := forLoop_pass ds r2 m2 h2 fun d hd => st d (List.mem_cons_of_mem _ hd)
    refine ⟨r', m', ?_, h3⟩
    simp [forLoop, e1, e2, e3]
theorem forLoop_at {body : En → Mu → Option (Fl × Mu)} {tg : Tg} {Inv : Nat → En → Mu → Prop} : ∀ (ds : List D) (i : Nat) (r : En) (m : Mu), Inv i r m → (∀ j d r m, ds[j]? = some d → Inv (i + j) r m → ∃ r1 r2 m2, setTg r tg d = some r1 ∧ body r1 m = some (.nx r2, m2) ∧ Inv (i + j + 1) r2 m2) →
    ∃ r' m', forLoop body tg ds r m = some (.nx r', m') ∧ Inv (i + ds.length) r' m'
  | [], i, r, m, h, _ => ⟨r, m, rfl, h⟩
  | d :: ds, i, r, m, h, st => by
    obtain ⟨r1, r2, m2, e1, e2, h2⟩ := st 0 d r m rfl h
    obtain ⟨r', m', e3, h3⟩ := forLoop_at (Inv := Inv) ds (i + 1) r2 m2 h2 fun j d r m hj hi => by
      have := st (j + 1) d r m hj (by rw [← Nat.add_assoc, Nat.add_right_comm]; exact hi)
      rw [← Nat.add_assoc, Nat.add_right_comm i j 1] at this
      exact this
    refine ⟨r', m', ?_, by rw [List.length_cons, ← Nat.add_assoc, Nat.add_right_comm]; exact h3⟩
    simp [forLoop, e1, e2, e3]
theorem set_last {m : Mu} {a c : Cell} : (m ++ [a]).set m.length c = m ++ [c] := by
  rw [List.set_append_right _ _ (Nat.le_refl _)]
  simp
theorem compLoop_pure {b : Nat} {elt cond : En → Mu → Option (Vl × Mu)} {tg : Tg} {r0 : En} {p : D → Bool} {f : D → D} : ∀ (ds : List D) (acc : List D) (m : Mu), acc.length + ds.length < 1000000 →
    (∀ d ∈ ds, ∃ r1, setTg r0 tg d = some r1 ∧ ∀ a, cond r1 (m ++ [a]) = some (.t (.bool (p d)), m ++ [a]) ∧ (p d = true → elt r1 (m ++ [a]) = some (.t (f d), m ++ [a]))) →
    compLoop b m.length elt cond tg r0 ds (m ++ [.lst acc false]) = some (m ++ [.lst (acc ++ (ds.filter p).map f) false])
  | [], acc, m, _, _ => by simp [compLoop]
  | d :: ds, acc, m, hl, h => by
    obtain ⟨r1, e1, e2⟩ := h d List.mem_cons_self
    have rest : ∀ acc', acc'.length + ds.length < 1000000 → compLoop b m.length elt cond tg r0 ds (m ++ [.lst acc' false]) = some (m ++ [.lst (acc' ++ (ds.filter p).map f) false]) :=
      fun acc' hl' => compLoop_pure ds acc' m hl' fun d hd => h d (List.mem_cons_of_mem _ hd)
    rw [List.length_cons] at hl
    cases hp : p d with
    | true =>
      have e3 := ((e2 (.lst acc false)).2 hp)
      have e4 := (e2 (.lst acc false)).1
      rw [hp] at e4
      simp [compLoop, e1, e4, e3, down, set_last, show acc.length < 1000000 by omega, rest (acc ++ [f d]) (by simp; omega), hp]
    | false =>
      have e4 := (e2 (.lst acc false)).1
      rw [hp] at e4
      simp [compLoop, e1, e4, rest acc (by omega), hp]
section
variable {call : Nat → List Vl → Mu → Option (Vl × Mu)} {b : Nat} {r : En} {m : Mu} {src : Src} {ds : List D} {tg : Tg} {own : List Nat} {elt c : Ex} {p : D → Bool} {f : D → D}
theorem comp_if (h0 : evalS call b src r m = some (ds, m)) (hl : ds.length < 1000000) (h : ∀ d ∈ ds, ∃ r1, setTg (wipeE r own) tg d = some r1 ∧ ∀ a, evalE call b c r1 (m ++ [a]) = some (.t (.bool (p d)), m ++ [a]) ∧ (p d = true → evalE call b elt r1 (m ++ [a]) = some (.t (f d), m ++ [a]))) :
    evalN call b (.comp elt tg src (some c) own) r m = some (.lst ((ds.filter p).map f) false, m) := by
  have e := compLoop_pure (b := b) (elt := fun r m => evalE call b elt r m) (cond := fun r m => evalE call b c r m) (tg := tg) (r0 := wipeE r own) (p := p) (f := f) ds [] m (by simpa using hl) h
  unfold evalN
  rw [h0]
  simp [e]
theorem comp_all (h0 : evalS call b src r m = some (ds, m)) (hl : ds.length < 1000000) (h : ∀ d ∈ ds, ∃ r1, setTg (wipeE r own) tg d = some r1 ∧ ∀ a, evalE call b elt r1 (m ++ [a]) = some (.t (f d), m ++ [a])) :
    evalN call b (.comp elt tg src none own) r m = some (.lst (ds.map f) false, m) := by
  have e := compLoop_pure (b := b) (elt := fun r m => evalE call b elt r m) (cond := fun _ m => some (.t (.bool true), m)) (tg := tg) (r0 := wipeE r own) (p := fun _ => true) (f := f) ds [] m (by simpa using hl) fun d hd => by
    obtain ⟨r1, e1, e2⟩ := h d hd
    exact ⟨r1, e1, fun a => ⟨rfl, fun _ => e2 a⟩⟩
  have ft : ds.filter (fun _ => true) = ds := List.filter_eq_self.mpr fun _ _ => rfl
  rw [ft] at e
  unfold evalN
  rw [h0]
  simp [e]
end
section
variable {call : Nat → List Vl → Mu → Option (Vl × Mu)} {b : Nat} {r : En} {m : Mu} {es : Exs} {o : Op}
theorem evN_lst : evalN call b (.lst es) r m = (evalD call b es r m).bind fun q => if q.1.length ≤ 1000000 then some (.lst q.1 false, q.2) else none := by unfold evalN; rfl
theorem evN_op : evalN call b (.op o es) r m = (evalL call b es r m).bind fun q => (views q.2 q.1).bind fun ds => (opN o ds).bind fun c => some (c, q.2) := by unfold evalN; rfl
end
theorem forLoop_chk {body : En → Mu → Option (Fl × Mu)} {tg : Tg} {p : D → Bool} {Inv : En → Prop} {v0 : Vl} {m : Mu} : ∀ (ds : List D) (r : En), Inv r → (∀ d ∈ ds, ∀ r, Inv r → ∃ r1, setTg r tg d = some r1 ∧ (p d = true → ∃ r2, body r1 m = some (.nx r2, m) ∧ Inv r2) ∧ (p d = false → body r1 m = some (.rt v0, m))) →
    (ds.all p = true → ∃ r', forLoop body tg ds r m = some (.nx r', m) ∧ Inv r') ∧ (ds.all p = false → forLoop body tg ds r m = some (.rt v0, m))
  | [], r, h, _ => ⟨fun _ => ⟨r, rfl, h⟩, fun e => by cases e⟩
  | d :: ds, r, h, st => by
    obtain ⟨r1, e1, e2, e3⟩ := st d List.mem_cons_self r h
    rw [List.all_cons]
    cases hp : p d with
    | true =>
      obtain ⟨r2, e4, h2⟩ := e2 hp
      obtain ⟨g1, g2⟩ := forLoop_chk ds r2 h2 fun d hd => st d (List.mem_cons_of_mem _ hd)
      refine ⟨fun e => ?_, fun e => ?_⟩
      · obtain ⟨r', e5, h5⟩ := g1 (by simpa using e)
        exact ⟨r', by simp [forLoop, e1, e4, e5], h5⟩
      · have e5 := g2 (by simpa using e)
        simp [forLoop, e1, e4, e5]
    | false => exact ⟨fun e => (by simp at e), fun _ => by simp [forLoop, e1, e3 hp]⟩
end TI
namespace TI
open PySem
theorem metN_bound (xs : List Str) : ∀ i, metN xs i ≤ i
  | 0 => Nat.le_refl 0
  | i + 1 => by
    have := metN_bound xs i
    unfold metN
    split <;> omega
theorem metN_full {xs : List Str} (h : xs.Nodup) : ∀ i, i ≤ xs.length → metN xs i = i
  | 0, _ => rfl
  | i + 1, hi => by
    have ih := metN_full h i (by omega)
    have hlt : i < xs.length := by omega
    unfold metN
    rw [if_neg, ih]
    intro e
    obtain ⟨y, hy, ey⟩ := List.any_eq_true.mp e
    have ey := eq_of_beq ey
    rw [List.getD_eq_getElem?_getD, List.getElem?_eq_getElem hlt] at ey
    obtain ⟨j, hj⟩ := List.mem_iff_getElem?.mp hy
    rw [List.getElem?_take] at hj
    split at hj
    · rename_i hji
      obtain ⟨hjl, e2⟩ := List.getElem?_eq_some_iff.mp hj
      exact (List.pairwise_iff_getElem.mp h j i hjl hlt hji) (e2.trans ey)
    · cases hj
theorem metN_less {xs : List Str} {i j : Nat} (hij : i < j) (hj : j < xs.length) (e : xs[i]? = xs[j]?) : metN xs xs.length < xs.length := by
  have step : metN xs (j + 1) ≤ j := by
    unfold metN
    rw [if_pos]
    · exact metN_bound xs j
    · refine List.any_eq_true.mpr ⟨xs.getD j Str.empty, ?_, by simp⟩
      rw [List.getD_eq_getElem?_getD, ← e]
      have hi : i < xs.length := by omega
      rw [List.getElem?_eq_getElem hi]
      exact List.mem_iff_getElem?.mpr ⟨i, by rw [List.getElem?_take, if_pos hij, List.getElem?_eq_getElem hi]; rfl⟩
  have up : ∀ n, j + 1 ≤ n → metN xs n < n := by
    intro n
    induction n with
    | zero => intro h; omega
    | succ n ih =>
      intro h
      by_cases q : j + 1 ≤ n
      · have := ih q
        unfold metN
        split <;> omega
      · have : n = j := by omega
        subst this
        omega
  exact up _ (by omega)
end TI
namespace TI
open PySem
theorem compLoop_inv {b n : Nat} {elt : En → Mu → Option (Vl × Mu)} {tg : Tg} {r0 : En} {Inv : Nat → List D → Mu → Prop} : ∀ (ds : List D) (j : Nat) (acc : List D) (μ : Mu), Inv j acc μ → acc.length + ds.length < 1000000 →
    (∀ d ∈ ds, ∃ r1, setTg r0 tg d = some r1 ∧ ∀ j acc μ, Inv j acc μ → ∃ v μ', elt r1 μ = some (.t v, μ') ∧ μ'[n]? = some (.lst acc false) ∧ Inv (j + 1) (acc ++ [v]) (μ'.set n (.lst (acc ++ [v]) false))) →
    ∃ acc' μ', compLoop b n elt (fun _ m => some (.t (.bool true), m)) tg r0 ds μ = some μ' ∧ Inv (j + ds.length) acc' μ' ∧ acc'.length = acc.length + ds.length
  | [], j, acc, μ, h, _, _ => ⟨acc, μ, rfl, h, rfl⟩
  | d :: ds, j, acc, μ, h, hl, st => by
    obtain ⟨r1, e1, e2⟩ := st d List.mem_cons_self
    obtain ⟨v, μ', e3, e4, h2⟩ := e2 j acc μ h
    rw [List.length_cons] at hl
    obtain ⟨acc', μ2, e5, h5, l5⟩ := compLoop_inv (b := b) (Inv := Inv) ds (j + 1) (acc ++ [v]) _ h2 (by simp; omega) fun d hd => st d (List.mem_cons_of_mem _ hd)
    refine ⟨acc', μ2, ?_, by rw [List.length_cons, ← Nat.add_assoc, Nat.add_right_comm]; exact h5, by rw [l5]; simp; omega⟩
    simp [compLoop, e1, e3, e4, down, show acc.length < 1000000 by omega, e5]
end TI
namespace TI
open PySem
section
variable (call : Nat → List Vl → Mu → Option (Vl × Mu)) (cx : Nat → List Vl → Mu → Option (XR × Mu)) (b : Nat)
def wC (f : Nat) (vs : List Vl) (m : Mu) (Q : Vl → Mu → Prop) : Prop := ∃ v m', call f vs m = some (v, m') ∧ Q v m'
def wE (e : Ex) (r : En) (m : Mu) (Q : Vl → Mu → Prop) : Prop := ∃ v m', evalE call b e r m = some (v, m') ∧ Q v m'
def wL (es : Exs) (r : En) (m : Mu) (Q : List Vl → Mu → Prop) : Prop := ∃ v m', evalL call b es r m = some (v, m') ∧ Q v m'
def wD (es : Exs) (r : En) (m : Mu) (Q : List D → Mu → Prop) : Prop := ∃ v m', evalD call b es r m = some (v, m') ∧ Q v m'
def wN (w : Nw) (r : En) (m : Mu) (Q : Cell → Mu → Prop) : Prop := ∃ v m', evalN call b w r m = some (v, m') ∧ Q v m'
def wS (s : Src) (r : En) (m : Mu) (Q : List D → Mu → Prop) : Prop := ∃ v m', evalS call b s r m = some (v, m') ∧ Q v m'
def wV (m : Mu) (vs : List Vl) (Q : List D → Prop) : Prop := ∃ ds, views m vs = some ds ∧ Q ds
def wDn (m : Mu) (v : Vl) (Q : D → Mu → Prop) : Prop := ∃ d m', down b m v = some (d, m') ∧ Q d m'
def opR (o : Op) (ds : List D) : Option D := match opF o ds with
  | some d => some d
  | none => (opN o ds).map Cell.data
def wO (o : Op) (ds : List D) (Q : D → Prop) : Prop := ∃ d, opR o ds = some d ∧ Q d
def wX (s : St) (r : En) (m : Mu) (Q : Fl → Mu → Prop) : Prop := ∃ f m', execS cx b s r m = some (f, m') ∧ Q f m'
def wXs (s : Sts) (r : En) (m : Mu) (Q : Fl → Mu → Prop) : Prop := ∃ f m', execs cx b s r m = some (f, m') ∧ Q f m'
def wFor (body : Sts) (tg : Tg) (ds : List D) (r : En) (m : Mu) (Q : Fl → Mu → Prop) : Prop := ∃ f m', forLoop (fun r m => execs cx b body r m) tg ds r m = some (f, m') ∧ Q f m'
def wWh (c : Ex) (body : Sts) (n : Nat) (r : En) (m : Mu) (Q : Fl → Mu → Prop) : Prop := ∃ f m', whileLoop (fun r m => evalE (valC cx) b c r m) (fun r m => execs cx b body r m) n r m = some (f, m') ∧ Q f m'
def wCp (n : Nat) (elt : Ex) (cond : Option Ex) (tg : Tg) (r0 : En) (ds : List D) (m : Mu) (Q : Mu → Prop) : Prop := ∃ m', compLoop b n (fun r m => evalE call b elt r m) (fun r m => match cond with
      | none => some (.t (.bool true), m)
      | some c => evalE call b c r m) tg r0 ds m = some m' ∧ Q m'
def wF (kp : Bool) (v : Vl) (m : Mu) (Q : Vl → Mu → Prop) : Prop := ∃ v' m', fin kp b v m = some (v', m') ∧ Q v' m'
def seqQ (rest : Sts) (Q : Fl → Mu → Prop) (f : Fl) (m : Mu) : Prop := match f with
  | .nx r => wXs cx b rest r m Q
  | f => Q f m
def loopQ (N : En → Mu → Prop) (Q : Fl → Mu → Prop) : Fl → Mu → Prop
  | .nx r, m => N r m
  | .ct r, m => N r m
  | .bk r, m => Q (.nx r) m
  | .rt v, m => Q (.rt v) m
  | .ex r c x, m => Q (.ex r c x) m
def defQX (kp : Bool) (Q : XR → Mu → Prop) : Fl → Mu → Prop
  | .rt v, m => wF b kp v m fun v m => Q (.ok v) m
  | .nx _, m => wF b kp (.t .none) m fun v m => Q (.ok v) m
  | .ex _ c x, m => okX b x = true ∧ Q (.ex c x) (m.take b)
  | _, _ => False
def wCX (f : Nat) (vs : List Vl) (m : Mu) (Q : XR → Mu → Prop) : Prop := ∃ v m', cx f vs m = some (v, m') ∧ Q v m'
def exF (r : En) : XR → Fl
  | .ok _ => .nx r
  | .ex c x => .ex r c x
def retF (r : En) : XR → Fl
  | .ok v => .rt v
  | .ex c x => .ex r c x
def triQ (cs : List Str) (en i : Nat) (Q : Fl → Mu → Prop) : Fl → Mu → Prop
  | .ex r c x, m => cs.contains c = true ∧ Q (.nx ((r.set i (some (.er c x))).set en none)) m
  | f, m => Q f m
def defQ (kp : Bool) (Q : Vl → Mu → Prop) : Fl → Mu → Prop
  | .rt v, m => wF b kp v m Q
  | .nx _, m => wF b kp (.t .none) m Q
  | _, _ => False
variable {call : Nat → List Vl → Mu → Option (Vl × Mu)} {cx : Nat → List Vl → Mu → Option (XR × Mu)} {b : Nat} {r : En} {m : Mu} {o p : Op} {e x y z : Ex} {es : Exs} {i j n f : Nat} {d : D}
theorem bind_ex {α β : Type} {A : Option α} {F : α → Option β} {P : β → Prop} : (∃ v, A.bind F = some v ∧ P v) ↔ ∃ a, A = some a ∧ ∃ v, F a = some v ∧ P v := by
  cases A <;> simp
theorem wE_var {Q} : wE call b (.var i) r m Q ↔ ∃ v, r[i]? = some (some v) ∧ Q v m := by
  unfold wE evalE
  constructor
  · rintro ⟨v, m', h, q⟩
    split at h
    · rename_i v' hv
      cases h; exact ⟨_, hv, q⟩
    · cases h
  · rintro ⟨v, h, q⟩
    exact ⟨v, m, by rw [h], q⟩
theorem wE_con {Q} : wE call b (.con d) r m Q ↔ Q (.t d) m := by simp [wE, evalE, and_assoc]
theorem wE_op {Q} : wE call b (.op o es) r m Q ↔ wL call b es r m fun vs m => wV m vs fun ds => wO o ds fun d => Q (.t d) m := by
  unfold wE wL wV wO opR evalE
  constructor
  · rintro ⟨v, m', h, q⟩
    cases h1 : evalL call b es r m with
    | none => rw [h1] at h; cases h
    | some a =>
      obtain ⟨vs, m1⟩ := a
      rw [h1] at h
      cases h2 : views m1 vs with
      | none => simp [h2] at h
      | some ds =>
        simp [h2] at h
        refine ⟨vs, m1, rfl, ds, h2, ?_⟩
        cases h3 : opF o ds with
        | some d => rw [h3] at h; cases h; exact ⟨d, by rw [h3], q⟩
        | none =>
          rw [h3] at h
          cases h4 : opN o ds with
          | none => simp [h4] at h
          | some c => simp [h4] at h; obtain ⟨rfl, rfl⟩ := h; exact ⟨c.data, by rw [h3]; rfl, q⟩
  · rintro ⟨vs, m1, h1, ds, h2, d, h3, q⟩
    refine ⟨.t d, m1, ?_, q⟩
    rw [h1]
    simp [h2]
    cases h4 : opF o ds with
    | some d' => rw [h4] at h3; cases h3; rfl
    | none =>
      rw [h4] at h3
      cases h5 : opN o ds with
      | none => rw [h5] at h3; cases h3
      | some c => rw [h5] at h3; cases h3; rfl
theorem wE_and {Q} : wE call b (.and x y) r m Q ↔ wE call b x r m fun v m => ∃ k, v = .t (.bool k) ∧ (k = false → Q (.t (.bool false)) m) ∧ (k = true → wE call b y r m fun v m => ∃ k, v = .t (.bool k) ∧ Q (.t (.bool k)) m) := by
  unfold wE
  conv => lhs; unfold evalE
  constructor
  · rintro ⟨v, m', h, q⟩
    cases h1 : evalE call b x r m with
    | none => simp [h1] at h
    | some a =>
      obtain ⟨u, m1⟩ := a
      simp [h1] at h
      refine ⟨u, m1, rfl, ?_⟩
      split at h
      · refine ⟨true, rfl, fun e => (by cases e), fun _ => ?_⟩
        split at h
        · rename_i k m2 h2
          cases h; exact ⟨_, _, h2, k, rfl, q⟩
        · cases h
      · cases h; exact ⟨false, rfl, fun _ => q, fun e => (by cases e)⟩
      · cases h
  · rintro ⟨u, m1, h1, k, rfl, q1, q2⟩
    cases k with
    | false => exact ⟨_, _, by simp [h1], q1 rfl⟩
    | true =>
      obtain ⟨u, m2, h2, k, rfl, q⟩ := q2 rfl
      exact ⟨_, _, by simp [h1, h2], q⟩
theorem wE_or {Q} : wE call b (.or x y) r m Q ↔ wE call b x r m fun v m => ∃ k, v = .t (.bool k) ∧ (k = true → Q (.t (.bool true)) m) ∧ (k = false → wE call b y r m fun v m => ∃ k, v = .t (.bool k) ∧ Q (.t (.bool k)) m) := by
  unfold wE
  conv => lhs; unfold evalE
  constructor
  · rintro ⟨v, m', h, q⟩
    cases h1 : evalE call b x r m with
    | none => simp [h1] at h
    | some a =>
      obtain ⟨u, m1⟩ := a
      simp [h1] at h
      refine ⟨u, m1, rfl, ?_⟩
      split at h
      · refine ⟨false, rfl, fun e => (by cases e), fun _ => ?_⟩
        split at h
        · rename_i k m2 h2
          cases h; exact ⟨_, _, h2, k, rfl, q⟩
        · cases h
      · cases h; exact ⟨true, rfl, fun _ => q, fun e => (by cases e)⟩
      · cases h
  · rintro ⟨u, m1, h1, k, rfl, q1, q2⟩
    cases k with
    | true => exact ⟨_, _, by simp [h1], q1 rfl⟩
    | false =>
      obtain ⟨u, m2, h2, k, rfl, q⟩ := q2 rfl
      exact ⟨_, _, by simp [h1, h2], q⟩
theorem wE_ife {Q} : wE call b (.ife z x y) r m Q ↔ wE call b z r m fun v m => ∃ k, v = .t (.bool k) ∧ (k = true → wE call b x r m Q) ∧ (k = false → wE call b y r m Q) := by
  unfold wE
  conv => lhs; unfold evalE
  constructor
  · rintro ⟨v, m', h, q⟩
    cases h1 : evalE call b z r m with
    | none => simp [h1] at h
    | some a =>
      obtain ⟨u, m1⟩ := a
      simp [h1] at h
      refine ⟨u, m1, rfl, ?_⟩
      split at h
      · exact ⟨true, rfl, fun _ => ⟨_, _, h, q⟩, fun e => (by cases e)⟩
      · exact ⟨false, rfl, fun e => (by cases e), fun _ => ⟨_, _, h, q⟩⟩
      · cases h
  · rintro ⟨u, m1, h1, k, rfl, q1, q2⟩
    cases k with
    | true => obtain ⟨u, m2, h2, q⟩ := q1 rfl; exact ⟨_, _, by simp [h1, h2], q⟩
    | false => obtain ⟨u, m2, h2, q⟩ := q2 rfl; exact ⟨_, _, by simp [h1, h2], q⟩
theorem wE_chain {Q} : wE call b (.chain o p x y z) r m Q ↔ wE call b x r m fun v m => wE call b y r m fun u m => wV m [v, u] fun ds => ∃ k, opF o ds = some (.bool k) ∧ (k = false → Q (.t (.bool false)) m) ∧ (k = true → wE call b z r m fun w m => wV m [u, w] fun es => ∃ d, opF p es = some d ∧ Q (.t d) m) := by
  unfold wE wV
  conv => lhs; unfold evalE
  constructor
  · rintro ⟨v, m', h, q⟩
    cases h1 : evalE call b x r m with
    | none => simp [h1] at h
    | some a =>
      obtain ⟨v1, m1⟩ := a
      simp only [h1, Option.bind_eq_bind, Option.bind_some] at h
      cases h2 : evalE call b y r m1 with
      | none => simp [h2] at h
      | some a =>
        obtain ⟨v2, m2⟩ := a
        simp only [h2, Option.bind_some] at h
        refine ⟨v1, m1, rfl, v2, m2, h2, ?_⟩
        split at h
        · rename_i ds hd
          refine ⟨ds, hd, ?_⟩
          split at h
          · rename_i ho
            refine ⟨true, ho, fun e => (by cases e), fun _ => ?_⟩
            split at h
            · rename_i w m3 h3
              refine ⟨w, m3, h3, ?_⟩
              split at h
              · rename_i es he
                refine ⟨es, he, ?_⟩
                split at h
                · rename_i d hp
                  cases h; exact ⟨d, hp, q⟩
                · cases h
              · cases h
            · cases h
          · rename_i ho; cases h; exact ⟨false, ho, fun _ => q, fun e => (by cases e)⟩
          · cases h
        · cases h
  · rintro ⟨v1, m1, h1, v2, m2, h2, ds, hd, k, ho, q1, q2⟩
    cases k with
    | false => exact ⟨_, _, by simp [h1, h2, hd, ho], q1 rfl⟩
    | true =>
      obtain ⟨w, m3, h3, es, he, d, hp, q⟩ := q2 rfl
      exact ⟨_, _, by simp [h1, h2, hd, ho, h3, he, hp], q⟩
theorem wE_tup {Q} : wE call b (.tup es) r m Q ↔ wD call b es r m fun ds m => ds.length ≤ 1000000 ∧ Q (.t (.tuple ds)) m := by
  unfold wE wD evalE
  constructor
  · rintro ⟨v, m', h, q⟩
    cases h1 : evalD call b es r m with
    | none => simp [h1] at h
    | some a =>
      obtain ⟨ds, m1⟩ := a
      simp only [h1, Option.bind_eq_bind, Option.bind_some] at h
      split at h
      · rename_i hl; obtain ⟨rfl, rfl⟩ := Prod.mk.inj (Option.some.inj h); exact ⟨ds, _, rfl, hl, q⟩
      · cases h
  · rintro ⟨ds, m1, h1, hl, q⟩
    exact ⟨_, _, by simp [h1, hl], q⟩
theorem wE_new {w : Nw} {Q} : wE call b (.new w) r m Q ↔ wN call b w r m fun c m => Q (.t c.data) m := by
  unfold wE wN evalE
  constructor
  · rintro ⟨v, m', h, q⟩
    cases h1 : evalN call b w r m with
    | none => simp [h1] at h
    | some a => obtain ⟨c, m1⟩ := a; simp [h1] at h; obtain ⟨rfl, rfl⟩ := h; exact ⟨c, m1, rfl, q⟩
  · rintro ⟨c, m1, h1, q⟩
    exact ⟨_, _, by simp [h1], q⟩
theorem wE_mk {w : Nw} {Q} : wE call b (.mk w) r m Q ↔ wN call b w r m fun c m => Q (.loc m.length) (m ++ [c]) := by
  unfold wE wN evalE
  constructor
  · rintro ⟨v, m', h, q⟩
    cases h1 : evalN call b w r m with
    | none => simp [h1] at h
    | some a => obtain ⟨c, m1⟩ := a; simp [h1] at h; obtain ⟨rfl, rfl⟩ := h; exact ⟨c, m1, rfl, q⟩
  · rintro ⟨c, m1, h1, q⟩
    exact ⟨_, _, by simp [h1], q⟩
theorem wE_frz {Q} : wE call b (.frz e) r m Q ↔ wE call b e r m fun v m => wDn b m v fun d m => Q (.t d) m := by
  unfold wE wDn
  conv => lhs; unfold evalE
  constructor
  · rintro ⟨v, m', h, q⟩
    cases h1 : evalE call b e r m with
    | none => simp [h1] at h
    | some a =>
      obtain ⟨u, m1⟩ := a
      simp only [h1, Option.bind_eq_bind, Option.bind_some] at h
      cases h2 : down b m1 u with
      | none => simp [h2] at h
      | some a => obtain ⟨d, m2⟩ := a; simp [h2] at h; obtain ⟨rfl, rfl⟩ := h; exact ⟨u, m1, rfl, d, m2, h2, q⟩
  · rintro ⟨u, m1, h1, d, m2, h2, q⟩
    exact ⟨_, _, by simp [h1, h2], q⟩
theorem wE_call {Q} : wE call b (.call f es) r m Q ↔ wL call b es r m fun vs m => wC call f vs m Q := by
  unfold wE wL wC evalE
  constructor
  · rintro ⟨v, m', h, q⟩
    cases h1 : evalL call b es r m with
    | none => simp [h1] at h
    | some a => obtain ⟨vs, m1⟩ := a; simp [h1] at h; exact ⟨vs, m1, rfl, _, _, h, q⟩
  · rintro ⟨vs, m1, h1, v, m2, h2, q⟩
    exact ⟨_, _, by simp [h1, h2], q⟩
theorem wE_callk {ix : List Nat} {Q} : wE call b (.callk f ix es) r m Q ↔ wL call b es r m fun vs m => wC call f (ix.filterMap fun i => vs[i]?) m Q := by
  unfold wE wL wC evalE
  constructor
  · rintro ⟨v, m', h, q⟩
    cases h1 : evalL call b es r m with
    | none => simp [h1] at h
    | some a => obtain ⟨vs, m1⟩ := a; simp [h1] at h; exact ⟨vs, m1, rfl, _, _, h, q⟩
  · rintro ⟨vs, m1, h1, v, m2, h2, q⟩
    exact ⟨_, _, by simp [h1, h2], q⟩
theorem wL_nil {Q} : wL call b .nil r m Q ↔ Q [] m := by simp [wL, evalL, and_assoc]
theorem wL_cons {Q} : wL call b (.cons e es) r m Q ↔ wE call b e r m fun v m => wL call b es r m fun vs m => Q (v :: vs) m := by
  unfold wE wL
  conv => lhs; unfold evalL
  constructor
  · rintro ⟨v, m', h, q⟩
    cases h1 : evalE call b e r m with
    | none => simp [h1] at h
    | some a =>
      obtain ⟨u, m1⟩ := a
      simp only [h1, Option.bind_eq_bind, Option.bind_some] at h
      cases h2 : evalL call b es r m1 with
      | none => simp [h2] at h
      | some a => obtain ⟨d, m2⟩ := a; simp [h2] at h; obtain ⟨rfl, rfl⟩ := h; exact ⟨u, m1, rfl, d, m2, h2, q⟩
  · rintro ⟨u, m1, h1, d, m2, h2, q⟩
    exact ⟨_, _, by simp [h1, h2], q⟩
theorem wD_nil {Q} : wD call b .nil r m Q ↔ Q [] m := by simp [wD, evalD, and_assoc]
theorem wD_cons {Q} : wD call b (.cons e es) r m Q ↔ wE call b e r m fun v m => wDn b m v fun d m => wD call b es r m fun ds m => Q (d :: ds) m := by
  unfold wE wD wDn
  conv => lhs; unfold evalD
  constructor
  · rintro ⟨v, m', h, q⟩
    cases h1 : evalE call b e r m with
    | none => simp [h1] at h
    | some a =>
      obtain ⟨u, m1⟩ := a
      simp only [h1, Option.bind_eq_bind, Option.bind_some] at h
      cases h2 : down b m1 u with
      | none => simp [h2] at h
      | some a =>
        obtain ⟨d, m2⟩ := a
        simp only [h2, Option.bind_some] at h
        cases h3 : evalD call b es r m2 with
        | none => simp [h3] at h
        | some a => obtain ⟨ds, m3⟩ := a; simp [h3] at h; obtain ⟨rfl, rfl⟩ := h; exact ⟨u, m1, rfl, d, m2, h2, ds, m3, h3, q⟩
  · rintro ⟨u, m1, h1, d, m2, h2, ds, m3, h3, q⟩
    exact ⟨_, _, by simp [h1, h2, h3], q⟩
theorem wDn_t {Q} : wDn b m (.t d) Q ↔ Q d m := by simp [wDn, down, and_assoc]
theorem wDn_loc {Q} : wDn b m (.loc n) Q ↔ b ≤ n ∧ ∃ c, m[n]? = some c ∧ Q c.data (m.set n c.freeze) := by
  show (∃ d m', (if b ≤ n then match m[n]? with
      | some c => some (c.data, m.set n c.freeze)
      | none => none
    else none) = some (d, m') ∧ Q d m') ↔ _
  constructor
  · rintro ⟨d, m', h, q⟩
    split at h
    · rename_i hb
      split at h
      · rename_i c hc
        cases h; exact ⟨hb, c, hc, q⟩
      · cases h
    · cases h
  · rintro ⟨hb, c, hc, q⟩
    exact ⟨_, _, by rw [if_pos hb, hc], q⟩
theorem wV_nil {Q : List D → Prop} : wV m [] Q ↔ Q [] := by simp [wV, views, and_assoc]
theorem wV_t {vs : List Vl} {Q : List D → Prop} : wV m (.t d :: vs) Q ↔ wV m vs fun ds => Q (d :: ds) := by
  unfold wV
  conv => lhs; unfold views view
  constructor
  · rintro ⟨ds, h, q⟩
    cases h1 : views m vs with
    | none => simp [h1] at h
    | some a => simp [h1] at h; subst h; exact ⟨a, rfl, q⟩
  · rintro ⟨a, h1, q⟩
    exact ⟨_, by simp [h1], q⟩
theorem wV_loc {vs : List Vl} {Q : List D → Prop} : wV m (.loc n :: vs) Q ↔ ∃ c, m[n]? = some c ∧ wV m vs fun ds => Q (c.data :: ds) := by
  unfold wV
  conv => lhs; unfold views view
  constructor
  · rintro ⟨ds, h, q⟩
    cases h0 : m[n]? with
    | none => simp [h0] at h
    | some c =>
      cases h1 : views m vs with
      | none => simp [h0, h1] at h
      | some a => simp [h0, h1] at h; subst h; exact ⟨c, rfl, a, rfl, q⟩
  · rintro ⟨c, h0, a, h1, q⟩
    exact ⟨_, by simp [h0, h1], q⟩
theorem wN_lst {Q} : wN call b (.lst es) r m Q ↔ wD call b es r m fun ds m => ds.length ≤ 1000000 ∧ Q (.lst ds false) m := by
  unfold wN wD evalN
  constructor
  · rintro ⟨v, m', h, q⟩
    cases h1 : evalD call b es r m with
    | none => simp [h1] at h
    | some a =>
      obtain ⟨ds, m1⟩ := a
      simp only [h1, Option.bind_eq_bind, Option.bind_some] at h
      split at h
      · rename_i hl; obtain ⟨rfl, rfl⟩ := Prod.mk.inj (Option.some.inj h); exact ⟨ds, _, rfl, hl, q⟩
      · cases h
  · rintro ⟨ds, m1, h1, hl, q⟩
    exact ⟨_, _, by simp [h1, hl], q⟩
theorem wN_op {Q} : wN call b (.op o es) r m Q ↔ wL call b es r m fun vs m => wV m vs fun ds => ∃ c, opN o ds = some c ∧ Q c m := by
  unfold wN wL wV
  rw [evN_op]
  constructor
  · rintro ⟨v, m', h, q⟩
    cases h1 : evalL call b es r m with
    | none => simp [h1] at h
    | some a =>
      obtain ⟨vs, m1⟩ := a
      simp only [h1, Option.bind_some] at h
      cases h2 : views m1 vs with
      | none => simp [h2] at h
      | some ds =>
        simp only [h2, Option.bind_some] at h
        cases h3 : opN o ds with
        | none => simp [h3] at h
        | some c => simp [h3] at h; obtain ⟨rfl, rfl⟩ := h; exact ⟨vs, m1, rfl, ds, h2, c, h3, q⟩
  · rintro ⟨vs, m1, h1, ds, h2, c, h3, q⟩
    exact ⟨_, _, by simp [h1, h2, h3], q⟩
theorem wN_dct0 {Q} : wN call b .dct0 r m Q ↔ Q (.dct [] false) m := by simp [wN, evalN, and_assoc]
theorem wN_comp {elt : Ex} {tg : Tg} {src : Src} {cond : Option Ex} {own : List Nat} {Q} : wN call b (.comp elt tg src cond own) r m Q ↔ wS call b src r m fun ds m => wCp call b m.length elt cond tg (wipeE r own) ds (m ++ [.lst [] false]) fun m' => ∃ xs, m'[m.length]? = some (.lst xs false) ∧ m'.length = m.length + 1 ∧ Q (.lst xs false) (m'.take m.length) := by
  unfold wN wS wCp
  conv => lhs; unfold evalN
  constructor
  · rintro ⟨v, m', h, q⟩
    cases h1 : evalS call b src r m with
    | none => simp [h1] at h
    | some a =>
      obtain ⟨ds, m1⟩ := a
      simp only [h1, Option.bind_eq_bind, Option.bind_some] at h
      refine ⟨ds, m1, rfl, ?_⟩
      rw [Option.bind_eq_some_iff] at h
      obtain ⟨m2, h2, h⟩ := h
      refine ⟨m2, h2, ?_⟩
      split at h
      · rename_i xs hx
        split at h
        · rename_i hl
          cases h; exact ⟨xs, hx, hl, q⟩
        · cases h
      · cases h
  · rintro ⟨ds, m1, h1, m2, h2, xs, h3, hl, q⟩
    exact ⟨_, _, by simp only [h1, Option.bind_eq_bind, Option.bind_some]; exact Option.bind_eq_some_iff.mpr ⟨m2, h2, by rw [h3]; simp [hl]⟩, q⟩
end
section
variable {call : Nat → List Vl → Mu → Option (Vl × Mu)} {cx : Nat → List Vl → Mu → Option (XR × Mu)} {b : Nat} {r : En} {m : Mu} {o p : Op} {e x y z : Ex} {es : Exs} {i j n f : Nat} {d : D}
theorem wS_val {Q} : wS call b (.val e) r m Q ↔ wE call b e r m fun v m => wDn b m v fun d m => ∃ ds, srcF d = some ds ∧ Q ds m := by
  unfold wS wE wDn evalS
  constructor
  · rintro ⟨v, m', h, q⟩
    cases h1 : evalE call b e r m with
    | none => simp [h1] at h
    | some a =>
      obtain ⟨u, m1⟩ := a
      simp only [h1, Option.bind_eq_bind, Option.bind_some] at h
      cases h2 : down b m1 u with
      | none => simp [h2] at h
      | some a =>
        obtain ⟨d, m2⟩ := a
        simp only [h2, Option.bind_some] at h
        cases h3 : srcF d with
        | none => simp [h3] at h
        | some ds => simp [h3] at h; obtain ⟨rfl, rfl⟩ := h; exact ⟨u, m1, rfl, d, m2, h2, ds, h3, q⟩
  · rintro ⟨u, m1, h1, d, m2, h2, ds, h3, q⟩
    exact ⟨_, _, by simp [h1, h2, h3], q⟩
theorem wS_range {Q} : wS call b (.range es) r m Q ↔ wL call b es r m fun vs m => wV m vs fun ds => ∃ l, rangeF ds = some l ∧ Q l m := by
  unfold wS wL wV evalS
  constructor
  · rintro ⟨v, m', h, q⟩
    cases h1 : evalL call b es r m with
    | none => simp [h1] at h
    | some a =>
      obtain ⟨vs, m1⟩ := a
      simp only [h1, Option.bind_eq_bind, Option.bind_some] at h
      cases h2 : views m1 vs with
      | none => simp [h2] at h
      | some ds =>
        simp only [h2, Option.bind_some] at h
        cases h3 : rangeF ds with
        | none => simp [h3] at h
        | some c => simp [h3] at h; obtain ⟨rfl, rfl⟩ := h; exact ⟨vs, m1, rfl, ds, h2, c, h3, q⟩
  · rintro ⟨vs, m1, h1, ds, h2, c, h3, q⟩
    exact ⟨_, _, by simp [h1, h2, h3], q⟩
theorem wS_enum {Q} : wS call b (.enum e) r m Q ↔ wE call b e r m fun v m => wDn b m v fun d m => ∃ ds, lstF d = some ds ∧ Q (enumD ds) m := by
  unfold wS wE wDn evalS
  constructor
  · rintro ⟨v, m', h, q⟩
    cases h1 : evalE call b e r m with
    | none => simp [h1] at h
    | some a =>
      obtain ⟨u, m1⟩ := a
      simp only [h1, Option.bind_eq_bind, Option.bind_some] at h
      cases h2 : down b m1 u with
      | none => simp [h2] at h
      | some a =>
        obtain ⟨d, m2⟩ := a
        simp only [h2, Option.bind_some] at h
        cases h3 : lstF d with
        | none => simp [h3] at h
        | some ds => simp [h3] at h; obtain ⟨rfl, rfl⟩ := h; exact ⟨u, m1, rfl, d, m2, h2, ds, h3, q⟩
  · rintro ⟨u, m1, h1, d, m2, h2, ds, h3, q⟩
    exact ⟨_, _, by simp [h1, h2, h3], q⟩
theorem wX_set {Q} : wX cx b (.set i e) r m Q ↔ wE (valC cx) b e r m fun v m => Q (.nx (r.set i (some v))) m := by
  unfold wX wE execS
  constructor
  · rintro ⟨v, m', h, q⟩
    cases h1 : evalE (valC cx) b e r m with
    | none => simp [h1] at h
    | some a => obtain ⟨u, m1⟩ := a; simp [h1] at h; obtain ⟨rfl, rfl⟩ := h; exact ⟨u, m1, rfl, q⟩
  · rintro ⟨u, m1, h1, q⟩
    exact ⟨_, _, by simp [h1], q⟩
theorem wX_exp {Q} : wX cx b (.exp e) r m Q ↔ wE (valC cx) b e r m fun v m => Q (.nx r) m := by
  unfold wX wE execS
  constructor
  · rintro ⟨v, m', h, q⟩
    cases h1 : evalE (valC cx) b e r m with
    | none => simp [h1] at h
    | some a => obtain ⟨u, m1⟩ := a; simp [h1] at h; obtain ⟨rfl, rfl⟩ := h; exact ⟨u, m1, rfl, q⟩
  · rintro ⟨u, m1, h1, q⟩
    exact ⟨_, _, by simp [h1], q⟩
theorem wX_ret {Q} : wX cx b (.ret e) r m Q ↔ wE (valC cx) b e r m fun v m => Q (.rt v) m := by
  unfold wX wE execS
  constructor
  · rintro ⟨v, m', h, q⟩
    cases h1 : evalE (valC cx) b e r m with
    | none => simp [h1] at h
    | some a => obtain ⟨u, m1⟩ := a; simp [h1] at h; obtain ⟨rfl, rfl⟩ := h; exact ⟨u, m1, rfl, q⟩
  · rintro ⟨u, m1, h1, q⟩
    exact ⟨_, _, by simp [h1], q⟩
theorem wX_unp {is : List Nat} {Q} : wX cx b (.unp is e) r m Q ↔ wE (valC cx) b e r m fun v m => ∃ d, v = .t d ∧ ∃ r', setTg r (.many is) d = some r' ∧ Q (.nx r') m := by
  unfold wX wE
  conv => lhs; unfold execS
  constructor
  · rintro ⟨v, m', h, q⟩
    cases h1 : evalE (valC cx) b e r m with
    | none => simp [h1] at h
    | some a =>
      obtain ⟨u, m1⟩ := a
      simp only [h1, Option.bind_eq_bind, Option.bind_some] at h
      refine ⟨u, m1, rfl, ?_⟩
      split at h
      · rename_i d
        split at h
        · rename_i r' hr
          cases h; exact ⟨d, rfl, r', hr, q⟩
        · cases h
      · cases h
  · rintro ⟨u, m1, h1, d, rfl, r', hr, q⟩
    exact ⟨_, _, by simp [h1, hr], q⟩
theorem wX_par {Q} : wX cx b (.par i j x y) r m Q ↔ wE (valC cx) b x r m fun v m => wE (valC cx) b y r m fun u m => Q (.nx ((r.set i (some v)).set j (some u))) m := by
  unfold wX wE
  conv => lhs; unfold execS
  constructor
  · rintro ⟨v, m', h, q⟩
    cases h1 : evalE (valC cx) b x r m with
    | none => simp [h1] at h
    | some a =>
      obtain ⟨u, m1⟩ := a
      simp only [h1, Option.bind_eq_bind, Option.bind_some] at h
      cases h2 : evalE (valC cx) b y r m1 with
      | none => simp [h2] at h
      | some a => obtain ⟨w, m2⟩ := a; simp [h2] at h; obtain ⟨rfl, rfl⟩ := h; exact ⟨u, m1, rfl, w, m2, h2, q⟩
  · rintro ⟨u, m1, h1, w, m2, h2, q⟩
    exact ⟨_, _, by simp [h1, h2], q⟩
theorem wX_app {Q} : wX cx b (.app i e) r m Q ↔ ∃ n, r[i]? = some (some (.loc n)) ∧ (∃ xs fz, m[n]? = some (.lst xs fz)) ∧ wE (valC cx) b e r m fun v m => wDn b m v fun d m => ∃ xs, m[n]? = some (.lst xs false) ∧ xs.length < 1000000 ∧ Q (.nx r) (m.set n (.lst (xs ++ [d]) false)) := by
  unfold wX wE wDn
  conv => lhs; unfold execS
  constructor
  · rintro ⟨v, m', h, q⟩
    split at h
    · rename_i n hn
      refine ⟨n, hn, ?_⟩
      split at h
      · rename_i xs fz hc
        refine ⟨⟨xs, fz, hc⟩, ?_⟩
        cases h1 : evalE (valC cx) b e r m with
        | none => simp [h1] at h
        | some a =>
          obtain ⟨u, m1⟩ := a
          simp only [h1, Option.bind_eq_bind, Option.bind_some] at h
          cases h2 : down b m1 u with
          | none => simp [h2] at h
          | some a =>
            obtain ⟨d, m2⟩ := a
            simp only [h2, Option.bind_some] at h
            refine ⟨u, m1, rfl, d, m2, h2, ?_⟩
            split at h
            · rename_i xs hx
              split at h
              · rename_i hl
                cases h; exact ⟨xs, hx, hl, q⟩
              · cases h
            · cases h
      · cases h
    · cases h
  · rintro ⟨n, hn, ⟨xs, fz, hc⟩, u, m1, h1, d, m2, h2, ys, hy, hl, q⟩
    exact ⟨_, _, by simp [hn, hc, h1, h2, hy, hl], q⟩
theorem wX_ext {Q} : wX cx b (.ext i e) r m Q ↔ ∃ n, r[i]? = some (some (.loc n)) ∧ (∃ xs fz, m[n]? = some (.lst xs fz)) ∧ wE (valC cx) b e r m fun v m => wV m [v] fun ds => ∃ xs ys, m[n]? = some (.lst xs false) ∧ ds = [.list ys] ∧ xs.length + ys.length ≤ 1000000 ∧ Q (.nx r) (m.set n (.lst (xs ++ ys) false)) := by
  unfold wX wE wV
  conv => lhs; unfold execS
  constructor
  · rintro ⟨v, m', h, q⟩
    split at h
    · rename_i n hn
      refine ⟨n, hn, ?_⟩
      split at h
      · rename_i xs fz hc
        refine ⟨⟨xs, fz, hc⟩, ?_⟩
        cases h1 : evalE (valC cx) b e r m with
        | none => simp [h1] at h
        | some a =>
          obtain ⟨u, m1⟩ := a
          simp only [h1, Option.bind_eq_bind, Option.bind_some] at h
          cases h2 : view m1 u with
          | none => simp [h2] at h
          | some d =>
            simp only [h2, Option.bind_some] at h
            refine ⟨u, m1, rfl, [d], by simp [views, h2], ?_⟩
            split at h
            · rename_i xs ys hx
              split at h
              · rename_i hl
                cases h; exact ⟨xs, ys, hx, rfl, hl, q⟩
              · cases h
            · cases h
      · cases h
    · cases h
  · rintro ⟨n, hn, ⟨xs, fz, hc⟩, u, m1, h1, ds, h2, xs', ys, hy, rfl, hl, q⟩
    have h3 : view m1 u = some (.list ys) := by
      simp only [views] at h2
      cases h3 : view m1 u with
      | none => simp [h3] at h2
      | some d => simpa [h3] using h2
    exact ⟨_, _, by simp [hn, hc, h1, h3, hy, hl], q⟩
theorem wX_put {Q} {k : Ex} : wX cx b (.put i k e) r m Q ↔ wE (valC cx) b e r m fun v m => wDn b m v fun d m => ∃ n, r[i]? = some (some (.loc n)) ∧ wE (valC cx) b k r m fun kv m => ∃ z xs j, kv = .t (.int z) ∧ m[n]? = some (.lst xs false) ∧ L2.ixN xs.length z = some j ∧ Q (.nx r) (m.set n (.lst (xs.set j d) false)) := by
  unfold wX wE wDn
  conv => lhs; unfold execS
  constructor
  · rintro ⟨v, m', h, q⟩
    cases h1 : evalE (valC cx) b e r m with
    | none => simp [h1] at h
    | some a =>
      obtain ⟨u, m1⟩ := a
      simp only [h1, Option.bind_eq_bind, Option.bind_some] at h
      cases h2 : down b m1 u with
      | none => simp [h2] at h
      | some a =>
        obtain ⟨d, m2⟩ := a
        simp only [h2, Option.bind_some] at h
        refine ⟨u, m1, rfl, d, m2, h2, ?_⟩
        split at h
        · rename_i n hn
          refine ⟨n, hn, ?_⟩
          cases h3 : evalE (valC cx) b k r m2 with
          | none => simp [h3] at h
          | some a =>
            obtain ⟨kv, m3⟩ := a
            simp only [h3, Option.bind_some] at h
            refine ⟨kv, m3, rfl, ?_⟩
            split at h
            · rename_i z xs hz
              split at h
              · rename_i j hj
                cases h; exact ⟨z, xs, j, rfl, hz, hj, q⟩
              · cases h
            · cases h
        · cases h
  · rintro ⟨u, m1, h1, d, m2, h2, n, hn, kv, m3, h3, z, xs, j, rfl, hz, hj, q⟩
    exact ⟨_, _, by simp [hn, h1, h2, h3, hz, hj], q⟩
theorem wX_iff {c : Ex} {s1 s2 : Sts} {Q} : wX cx b (.iff c s1 s2) r m Q ↔ wE (valC cx) b c r m fun v m => ∃ k, v = .t (.bool k) ∧ (k = true → wXs cx b s1 r m Q) ∧ (k = false → wXs cx b s2 r m Q) := by
  unfold wX wE wXs
  conv => lhs; unfold execS
  constructor
  · rintro ⟨v, m', h, q⟩
    cases h1 : evalE (valC cx) b c r m with
    | none => simp [h1] at h
    | some a =>
      obtain ⟨u, m1⟩ := a
      simp only [h1, Option.bind_eq_bind, Option.bind_some] at h
      refine ⟨u, m1, rfl, ?_⟩
      split at h
      · exact ⟨true, rfl, fun _ => ⟨_, _, h, q⟩, fun e => (by cases e)⟩
      · exact ⟨false, rfl, fun e => (by cases e), fun _ => ⟨_, _, h, q⟩⟩
      · cases h
  · rintro ⟨u, m1, h1, k, rfl, q1, q2⟩
    cases k with
    | true => obtain ⟨u, m2, h2, q⟩ := q1 rfl; exact ⟨_, _, by simp [h1, h2], q⟩
    | false => obtain ⟨u, m2, h2, q⟩ := q2 rfl; exact ⟨_, _, by simp [h1, h2], q⟩
theorem wX_for {tg : Tg} {src : Src} {body : Sts} {Q} : wX cx b (.forr tg src body) r m Q ↔ wS (valC cx) b src r m fun ds m => wFor cx b body tg ds r m Q := by
  unfold wX wS wFor
  conv => lhs; unfold execS
  constructor
  · rintro ⟨v, m', h, q⟩
    cases h1 : evalS (valC cx) b src r m with
    | none => simp [h1] at h
    | some a =>
      obtain ⟨u, m1⟩ := a
      simp only [h1, Option.bind_eq_bind, Option.bind_some] at h
      exact ⟨u, m1, rfl, _, _, h, q⟩
  · rintro ⟨u, m1, h1, f, m2, h2, q⟩
    exact ⟨_, _, by simp [h1, h2], q⟩
theorem wX_whl {c : Ex} {body : Sts} {Q} : wX cx b (.whl n c body) r m Q ↔ wWh cx b c body n r m Q := by
  unfold wX wWh
  conv => lhs; unfold execS
theorem wX_pass {Q} : wX cx b .pass r m Q ↔ Q (.nx r) m := by simp [wX, execS, and_assoc, and_assoc]
theorem wX_brk {Q} : wX cx b .brk r m Q ↔ Q (.bk r) m := by simp [wX, execS, and_assoc, and_assoc]
theorem wX_cont {Q} : wX cx b .cont r m Q ↔ Q (.ct r) m := by simp [wX, execS, and_assoc, and_assoc]
theorem wXs_nil {Q} : wXs cx b .nil r m Q ↔ Q (.nx r) m := by simp [wXs, execs, and_assoc]
theorem wXs_cons {s : St} {rest : Sts} {Q} : wXs cx b (.cons s rest) r m Q ↔ wX cx b s r m (seqQ cx b rest Q) := by
  unfold wX
  conv => lhs; unfold wXs execs
  constructor
  · rintro ⟨v, m', h, q⟩
    cases h1 : execS cx b s r m with
    | none => simp [h1] at h
    | some a =>
      obtain ⟨f, m1⟩ := a
      simp only [h1, Option.bind_eq_bind, Option.bind_some] at h
      refine ⟨f, m1, rfl, ?_⟩
      unfold seqQ
      cases f with
      | nx r => exact ⟨_, _, h, q⟩
      | _ => cases h; exact q
  · rintro ⟨f, m1, h1, q⟩
    unfold seqQ at q
    cases f with
    | nx r => obtain ⟨f, m2, h2, q⟩ := q; exact ⟨f, m2, by simp [h1, h2], q⟩
    | _ => exact ⟨_, _, by simp [h1], q⟩
theorem seqQ_nx {rest : Sts} {Q} : seqQ cx b rest Q (.nx r) m = wXs cx b rest r m Q := rfl
theorem seqQ_rt {rest : Sts} {Q} {v : Vl} : seqQ cx b rest Q (.rt v) m = Q (.rt v) m := rfl
theorem seqQ_bk {rest : Sts} {Q} : seqQ cx b rest Q (.bk r) m = Q (.bk r) m := rfl
theorem seqQ_ex {rest : Sts} {Q} {c : Str} {xx : D ⊕ Nat} : seqQ cx b rest Q (.ex r c xx) m = Q (.ex r c xx) m := rfl
theorem seqQ_ct {rest : Sts} {Q} : seqQ cx b rest Q (.ct r) m = Q (.ct r) m := rfl
theorem wFor_nil {body : Sts} {tg : Tg} {Q} : wFor cx b body tg [] r m Q ↔ Q (.nx r) m := by simp [wFor, forLoop, and_assoc]
theorem wFor_cons {body : Sts} {tg : Tg} {ds : List D} {Q} : wFor cx b body tg (d :: ds) r m Q ↔ ∃ r1, setTg r tg d = some r1 ∧ wXs cx b body r1 m (loopQ (fun r m => wFor cx b body tg ds r m Q) Q) := by
  unfold wXs
  conv => lhs; unfold wFor forLoop
  constructor
  · rintro ⟨v, m', h, q⟩
    cases h0 : setTg r tg d with
    | none => simp [h0] at h
    | some r1 =>
      simp only [h0, Option.bind_eq_bind, Option.bind_some] at h
      cases h1 : execs cx b body r1 m with
      | none => simp [h1] at h
      | some a =>
        obtain ⟨f, m1⟩ := a
        simp only [h1, Option.bind_some] at h
        refine ⟨r1, rfl, f, m1, h1, ?_⟩
        cases f with
        | nx r => exact ⟨_, _, h, q⟩
        | ct r => exact ⟨_, _, h, q⟩
        | bk r => cases h; exact q
        | rt v => cases h; exact q
        | ex r c x => cases h; exact q
  · rintro ⟨r1, h0, f, m1, h1, q⟩
    cases f with
    | nx r => obtain ⟨f, m2, h2, q⟩ := q; exact ⟨f, m2, by simp [h0, h1, h2], q⟩
    | ct r => obtain ⟨f, m2, h2, q⟩ := q; exact ⟨f, m2, by simp [h0, h1, h2], q⟩
    | bk r => exact ⟨.nx r, m1, by simp [h0, h1], q⟩
    | rt v => exact ⟨.rt v, m1, by simp [h0, h1], q⟩
    | ex r c x => exact ⟨.ex r c x, m1, by simp [h0, h1], q⟩
theorem wWh_succ {c : Ex} {body : Sts} {Q} : wWh cx b c body (n + 1) r m Q ↔ wE (valC cx) b c r m fun v m => ∃ k, v = .t (.bool k) ∧ (k = true → wXs cx b body r m (loopQ (fun r m => wWh cx b c body n r m Q) Q)) ∧ (k = false → Q (.nx r) m) := by
  unfold wXs wE
  conv => lhs; unfold wWh whileLoop
  constructor
  · rintro ⟨v, m', h, q⟩
    cases h0 : evalE (valC cx) b c r m with
    | none => simp [h0] at h
    | some a =>
      obtain ⟨u, m0⟩ := a
      simp only [h0, Option.bind_eq_bind, Option.bind_some] at h
      refine ⟨u, m0, rfl, ?_⟩
      split at h
      · refine ⟨true, rfl, fun _ => ?_, fun e => (by cases e)⟩
        cases h1 : execs cx b body r m0 with
        | none => simp [h1] at h
        | some a =>
          obtain ⟨f, m1⟩ := a
          simp only [h1, Option.bind_some] at h
          refine ⟨f, m1, rfl, ?_⟩
          cases f with
          | nx r => exact ⟨_, _, h, q⟩
          | ct r => exact ⟨_, _, h, q⟩
          | bk r => cases h; exact q
          | rt v => cases h; exact q
          | ex r c x => cases h; exact q
      · cases h; exact ⟨false, rfl, fun e => (by cases e), fun _ => q⟩
      · cases h
  · rintro ⟨u, m0, h0, k, rfl, q1, q2⟩
    cases k with
    | false => exact ⟨_, _, by simp [h0], q2 rfl⟩
    | true =>
      obtain ⟨f, m1, h1, q⟩ := q1 rfl
      cases f with
      | nx r => obtain ⟨f, m2, h2, q⟩ := q; exact ⟨f, m2, by simp [h0, h1, h2], q⟩
      | ct r => obtain ⟨f, m2, h2, q⟩ := q; exact ⟨f, m2, by simp [h0, h1, h2], q⟩
      | bk r => exact ⟨.nx r, m1, by simp [h0, h1], q⟩
      | rt v => exact ⟨.rt v, m1, by simp [h0, h1], q⟩
      | ex r c x => exact ⟨.ex r c x, m1, by simp [h0, h1], q⟩
theorem wCp_nil {elt : Ex} {cond : Option Ex} {tg : Tg} {r0 : En} {Q} : wCp call b n elt cond tg r0 [] m Q ↔ Q m := by simp [wCp, compLoop]
theorem wCp_cons {elt : Ex} {tg : Tg} {r0 : En} {ds : List D} {Q} : wCp call b n elt none tg r0 (d :: ds) m Q ↔ ∃ r1, setTg r0 tg d = some r1 ∧ wE call b elt r1 m fun v m => wDn b m v fun d m => ∃ xs, m[n]? = some (.lst xs false) ∧ xs.length < 1000000 ∧ wCp call b n elt none tg r0 ds (m.set n (.lst (xs ++ [d]) false)) Q := by
  unfold wE wDn
  conv => lhs; unfold wCp compLoop
  constructor
  · rintro ⟨m', h, q⟩
    cases h0 : setTg r0 tg d with
    | none => simp [h0] at h
    | some r1 =>
      simp only [h0, Option.bind_eq_bind, Option.bind_some] at h
      refine ⟨r1, rfl, ?_⟩
      cases h1 : evalE call b elt r1 m with
      | none => simp [h1] at h
      | some a =>
        obtain ⟨u, m1⟩ := a
        simp only [h1, Option.bind_some] at h
        cases h2 : down b m1 u with
        | none => simp [h2] at h
        | some a =>
          obtain ⟨d, m2⟩ := a
          simp only [h2, Option.bind_some] at h
          refine ⟨u, m1, rfl, d, m2, h2, ?_⟩
          split at h
          · rename_i xs hx
            split at h
            · rename_i hl
              exact ⟨xs, hx, hl, _, h, q⟩
            · cases h
          · cases h
  · rintro ⟨r1, h0, u, m1, h1, d, m2, h2, xs, hx, hl, m3, h3, q⟩
    exact ⟨m3, by simp [h0, h1, h2, hx, hl]; exact h3, q⟩
theorem wCp_if {elt c : Ex} {tg : Tg} {r0 : En} {ds : List D} {Q} : wCp call b n elt (some c) tg r0 (d :: ds) m Q ↔ ∃ r1, setTg r0 tg d = some r1 ∧ wE call b c r1 m fun v m => ∃ k, v = .t (.bool k) ∧ (k = false → wCp call b n elt (some c) tg r0 ds m Q) ∧ (k = true → wE call b elt r1 m fun v m => wDn b m v fun d m => ∃ xs, m[n]? = some (.lst xs false) ∧ xs.length < 1000000 ∧ wCp call b n elt (some c) tg r0 ds (m.set n (.lst (xs ++ [d]) false)) Q) := by
  unfold wE wDn
  conv => lhs; unfold wCp compLoop
  constructor
  · rintro ⟨m', h, q⟩
    cases h0 : setTg r0 tg d with
    | none => simp [h0] at h
    | some r1 =>
      simp only [h0, Option.bind_eq_bind, Option.bind_some] at h
      refine ⟨r1, rfl, ?_⟩
      cases hc : evalE call b c r1 m with
      | none => simp [hc] at h
      | some a =>
        obtain ⟨cv, mc⟩ := a
        simp only [hc, Option.bind_some] at h
        refine ⟨cv, mc, rfl, ?_⟩
        split at h
        · refine ⟨true, rfl, fun e => (by cases e), fun _ => ?_⟩
          cases h1 : evalE call b elt r1 mc with
          | none => simp [h1] at h
          | some a =>
            obtain ⟨u, m1⟩ := a
            simp only [h1, Option.bind_some] at h
            cases h2 : down b m1 u with
            | none => simp [h2] at h
            | some a =>
              obtain ⟨d, m2⟩ := a
              simp only [h2, Option.bind_some] at h
              refine ⟨u, m1, rfl, d, m2, h2, ?_⟩
              split at h
              · rename_i xs hx
                split at h
                · rename_i hl
                  exact ⟨xs, hx, hl, _, h, q⟩
                · cases h
              · cases h
        · exact ⟨false, rfl, fun _ => ⟨_, h, q⟩, fun e => (by cases e)⟩
        · cases h
  · rintro ⟨r1, h0, cv, mc, hc, k, rfl, q1, q2⟩
    cases k with
    | false => obtain ⟨m3, h3, q⟩ := q1 rfl; exact ⟨m3, by simp [h0, hc]; exact h3, q⟩
    | true =>
      obtain ⟨u, m1, h1, d, m2, h2, xs, hx, hl, m3, h3, q⟩ := q2 rfl
      exact ⟨m3, by simp [h0, hc, h1, h2, hx, hl]; exact h3, q⟩
theorem wF_t {kp : Bool} {Q} : wF b kp (.t d) m Q ↔ Q (.t d) (m.take b) := by simp [wF, fin_t, and_assoc]
theorem wF_loc {Q} : wF b false (.loc n) m Q ↔ if n < b then Q (.loc n) (m.take b) else ∃ c, m[n]? = some c ∧ Q (.t c.data) (m.take b) := by
  unfold wF fin
  by_cases h : n < b
  · simp [h, and_assoc]
  · simp only [h, if_false]
    constructor
    · rintro ⟨v, m', e, q⟩
      simp only [Bool.false_eq_true, if_false] at e
      split at e
      · rename_i c hc
        cases e; exact ⟨c, hc, q⟩
      · cases e
    · rintro ⟨c, hc, q⟩
      exact ⟨_, _, by simp [hc], q⟩
theorem wF_keep {Q} : wF b true (.loc n) m Q ↔ if n < b then Q (.loc n) (m.take b) else ∃ xs, m[n]? = some (.lst xs false) ∧ Q (.loc b) (m.take b ++ [.lst xs false]) := by
  unfold wF fin
  by_cases h : n < b
  · simp [h, and_assoc]
  · simp only [h, if_false]
    constructor
    · rintro ⟨v, m', e, q⟩
      simp only [if_true] at e
      split at e
      · rename_i xs hc
        cases e; exact ⟨xs, hc, q⟩
      · cases e
    · rintro ⟨xs, hc, q⟩
      exact ⟨_, _, by simp [hc], q⟩
theorem wC_def {P : List Fn} {k : Nat} {fn : Fn} {vs : List Vl} {Q} (h : P[f]? = some fn) (h1 : vs.length = fn.np) (h2 : fn.np ≤ fn.nl) (q : wXs (callX P k) m.length fn.body (vs.map some ++ List.replicate (fn.nl - fn.np) none) m (defQ m.length fn.keep Q)) : wC (callF P (k + 1)) f vs m Q := by
  obtain ⟨fl, m', e, q⟩ := q
  unfold wC
  rw [call_eq h h1 h2, e]
  cases fl with
  | rt v => exact q
  | nx r => exact q
  | bk r => cases q
  | ct r => cases q
  | ex r c x => cases q
theorem wCX_def {P : List Fn} {k : Nat} {fn : Fn} {vs : List Vl} {Q} (h : P[f]? = some fn) (h1 : vs.length = fn.np) (h2 : fn.np ≤ fn.nl) (q : wXs (callX P k) m.length fn.body (vs.map some ++ List.replicate (fn.nl - fn.np) none) m (defQX m.length fn.keep Q)) : wCX (callX P (k + 1)) f vs m Q := by
  obtain ⟨fl, m', e, q⟩ := q
  unfold wCX callX
  rw [h]
  simp only [h1, h2, decide_true, Bool.and_self, if_true, e]
  cases fl with
  | rt v =>
    obtain ⟨v', m2, e2, q⟩ := q
    exact ⟨.ok v', m2, by show okR (fin fn.keep m.length v m') = _; rw [e2]; rfl, q⟩
  | nx r =>
    obtain ⟨v', m2, e2, q⟩ := q
    exact ⟨.ok v', m2, by show okR (fin fn.keep m.length (.t .none) m') = _; rw [e2]; rfl, q⟩
  | bk r => cases q
  | ct r => cases q
  | ex r c x =>
    obtain ⟨e2, q⟩ := q
    exact ⟨.ex c x, _, by show finX m.length c x m' = _; unfold finX; rw [if_pos e2], q⟩
theorem wC_X {vs : List Vl} {Q} : wC (valC cx) f vs m Q ↔ wCX cx f vs m fun q m => ∃ v, q = .ok v ∧ Q v m := by
  unfold wC wCX valC
  constructor
  · rintro ⟨v, m', h, q⟩
    split at h
    · rename_i v1 m1 e
      cases h
      exact ⟨_, _, e, _, rfl, q⟩
    · cases h
  · rintro ⟨_, m', e, v, rfl, q⟩
    exact ⟨v, m', by rw [e], q⟩
theorem wCX_mono {vs : List Vl} {Q R : XR → Mu → Prop} (h : wCX cx f vs m Q) (i : ∀ v m, Q v m → R v m) : wCX cx f vs m R := by obtain ⟨v, m, e, q⟩ := h; exact ⟨v, m, e, i _ _ q⟩
theorem wCX_eq {vs : List Vl} {v : XR} {m1 : Mu} {Q} (h : cx f vs m = some (v, m1)) : wCX cx f vs m Q ↔ Q v m1 := by simp [wCX, h, and_assoc]
theorem wF_er {c : Str} {xx : D ⊕ Nat} {Q} : wF b false (.er c xx) m Q ↔ okX b xx = true ∧ Q (.er c xx) (m.take b) := by
  unfold wF fin
  by_cases h : okX b xx = true <;> simp [h, and_assoc]
theorem wF_tv {xs : List (D ⊕ Nat)} {Q} : wF b false (.tv xs) m Q ↔ xs.all (okX b) = true ∧ Q (.tv xs) (m.take b) := by
  unfold wF fin
  by_cases h : xs.all (okX b) = true
  · simp only [Bool.false_eq_true, if_false, h, if_true]
    simp [and_assoc]
  · simp only [Bool.false_eq_true, if_false, h]
    simp
theorem wX_rs {c : Str} {Q} : wX cx b (.rs c e) r m Q ↔ wE (valC cx) b e r m fun v m => ∃ x, v.sim = some x ∧ Q (.ex r c x) m := by
  unfold wX wE
  conv => lhs; unfold execS
  constructor
  · rintro ⟨v, m', h, q⟩
    cases h1 : evalE (valC cx) b e r m with
    | none => simp [h1] at h
    | some a =>
      obtain ⟨u, m1⟩ := a
      simp only [h1, Option.bind_eq_bind, Option.bind_some] at h
      refine ⟨u, m1, rfl, ?_⟩
      split at h
      · rename_i x hx
        cases h
        exact ⟨x, hx, q⟩
      · cases h
  · rintro ⟨u, m1, h1, x, hx, q⟩
    exact ⟨_, _, by simp [h1, hx], q⟩
theorem wX_expx {Q} : wX cx b (.expx f es) r m Q ↔ wL (valC cx) b es r m fun vs m => wCX cx f vs m fun q m => Q (exF r q) m := by
  unfold wX wL wCX
  conv => lhs; unfold execS
  constructor
  · rintro ⟨v, m', h, q⟩
    cases h1 : evalL (valC cx) b es r m with
    | none => simp [h1] at h
    | some a =>
      obtain ⟨u, m1⟩ := a
      simp only [h1, Option.bind_eq_bind, Option.bind_some] at h
      refine ⟨u, m1, rfl, ?_⟩
      split at h
      · rename_i h2; cases h; exact ⟨_, _, h2, q⟩
      · rename_i h2; cases h; exact ⟨_, _, h2, q⟩
      · cases h
  · rintro ⟨u, m1, h1, w, m2, h2, q⟩
    cases w with
    | ok v => exact ⟨.nx r, m2, by simp [h1, h2], q⟩
    | ex c x => exact ⟨.ex r c x, m2, by simp [h1, h2], q⟩
theorem wX_retx {Q} : wX cx b (.retx f es) r m Q ↔ wL (valC cx) b es r m fun vs m => wCX cx f vs m fun q m => Q (retF r q) m := by
  unfold wX wL wCX
  conv => lhs; unfold execS
  constructor
  · rintro ⟨v, m', h, q⟩
    cases h1 : evalL (valC cx) b es r m with
    | none => simp [h1] at h
    | some a =>
      obtain ⟨u, m1⟩ := a
      simp only [h1, Option.bind_eq_bind, Option.bind_some] at h
      refine ⟨u, m1, rfl, ?_⟩
      split at h
      · rename_i h2; cases h; exact ⟨_, _, h2, q⟩
      · rename_i h2; cases h; exact ⟨_, _, h2, q⟩
      · cases h
  · rintro ⟨u, m1, h1, w, m2, h2, q⟩
    cases w with
    | ok v => exact ⟨.rt v, m2, by simp [h1, h2], q⟩
    | ex c x => exact ⟨.ex r c x, m2, by simp [h1, h2], q⟩
theorem wX_tri {cs : List Str} {body : Sts} {Q} : wX cx b (.tri cs body i j) r m Q ↔ wXs cx b body r m (triQ cs i j Q) := by
  unfold wX wXs
  conv => lhs; unfold execS
  constructor
  · rintro ⟨v, m', h, q⟩
    cases h1 : execs cx b body r m with
    | none => simp [h1] at h
    | some a =>
      obtain ⟨fl, m1⟩ := a
      simp only [h1, Option.bind_eq_bind, Option.bind_some] at h
      refine ⟨fl, m1, rfl, ?_⟩
      cases fl with
      | ex r c x =>
        simp only at h
        split at h
        · rename_i hc; cases h; exact ⟨hc, q⟩
        · cases h
      | _ => cases h; exact q
  · rintro ⟨fl, m1, h1, q⟩
    cases fl with
    | ex r c x => obtain ⟨hc, q⟩ := q; exact ⟨_, _, by simp only [h1, Option.bind_eq_bind, Option.bind_some]; rw [if_pos hc], q⟩
    | _ => exact ⟨_, _, by simp [h1], q⟩
theorem triQ_ex {cs : List Str} {c : Str} {xx : D ⊕ Nat} {Q} : triQ cs i j Q (.ex r c xx) m = (cs.contains c = true ∧ Q (.nx ((r.set j (some (.er c xx))).set i none)) m) := rfl
theorem triQ_nx {cs : List Str} {Q} : triQ cs i j Q (.nx r) m = Q (.nx r) m := rfl
theorem triQ_rt {cs : List Str} {v : Vl} {Q} : triQ cs i j Q (.rt v) m = Q (.rt v) m := rfl
theorem exF_ok {v : Vl} : exF r (.ok v) = .nx r := rfl
theorem exF_ex {c : Str} {xx : D ⊕ Nat} : exF r (.ex c xx) = .ex r c xx := rfl
theorem retF_ok {v : Vl} : retF r (.ok v) = .rt v := rfl
theorem retF_ex {c : Str} {xx : D ⊕ Nat} : retF r (.ex c xx) = .ex r c xx := rfl
theorem sim_t : (Vl.t d).sim = some (.inl d) := rfl
theorem sim_loc : (Vl.loc n).sim = some (.inr n) := rfl
theorem s_inl : Vl.s (.inl d) = .t d := rfl
theorem s_inr : Vl.s (.inr n) = .loc n := rfl
theorem wE_isx {c : Str} {cs : List (Str × Bool)} {Q} : wE call b (.isx c cs e) r m Q ↔ wE call b e r m fun v m => ∃ k, (match v with
    | .er c _ => cs.lookup c
    | .t _ => some false
    | _ => none) = some k ∧ Q (.t (.bool k)) m := by
  unfold wE
  conv => lhs; unfold evalE
  constructor
  · rintro ⟨v, m', h, q⟩
    cases h1 : evalE call b e r m with
    | none => simp [h1] at h
    | some a =>
      obtain ⟨u, m1⟩ := a
      simp only [h1, Option.bind_eq_bind, Option.bind_some] at h
      refine ⟨u, m1, rfl, ?_⟩
      cases u with
      | er c x =>
        simp only at h ⊢
        split at h
        · rename_i k hk; cases h; exact ⟨k, hk, q⟩
        · cases h
      | t d => cases h; exact ⟨false, rfl, q⟩
      | loc n => cases h
      | tv xs => cases h
  · rintro ⟨u, m1, h1, k, hk, q⟩
    cases u with
    | er c x => exact ⟨_, _, by simp only [h1, Option.bind_eq_bind, Option.bind_some]; simp only at hk; rw [hk], q⟩
    | t d => cases hk; exact ⟨_, _, by simp [h1], q⟩
    | loc n => cases hk
    | tv xs => cases hk
theorem wE_fld {cs : List Str} {Q} : wE call b (.fld cs e) r m Q ↔ wE call b e r m fun v m => ∃ u, (match v with
    | .er c x => if cs.contains c = true then some (Vl.s x) else none
    | _ => none) = some u ∧ Q u m := by
  unfold wE
  conv => lhs; unfold evalE
  constructor
  · rintro ⟨v, m', h, q⟩
    cases h1 : evalE call b e r m with
    | none => simp [h1] at h
    | some a =>
      obtain ⟨u, m1⟩ := a
      simp only [h1, Option.bind_eq_bind, Option.bind_some] at h
      refine ⟨u, m1, rfl, ?_⟩
      cases u with
      | er c x =>
        simp only at h ⊢
        split at h
        · rename_i hk; cases h; exact ⟨_, by rw [if_pos hk], q⟩
        · cases h
      | t d => cases h
      | loc n => cases h
      | tv xs => cases h
  · rintro ⟨u, m1, h1, w, hw, q⟩
    cases u with
    | er c x =>
      simp only at hw
      split at hw
      · rename_i hk
        cases hw
        exact ⟨_, _, by simp only [h1, Option.bind_eq_bind, Option.bind_some]; rw [if_pos hk], q⟩
      · cases hw
    | t d => cases hw
    | loc n => cases hw
    | tv xs => cases hw
theorem wE_isNe {neg : Bool} {Q} : wE call b (.isNe neg e) r m Q ↔ wE call b e r m fun v m => ∃ k, (match v with
    | .er _ _ => some neg
    | .t d => some (if neg then !isNone d else isNone d)
    | _ => none) = some k ∧ Q (.t (.bool k)) m := by
  unfold wE
  conv => lhs; unfold evalE
  constructor
  · rintro ⟨v, m', h, q⟩
    cases h1 : evalE call b e r m with
    | none => simp [h1] at h
    | some a =>
      obtain ⟨u, m1⟩ := a
      simp only [h1, Option.bind_eq_bind, Option.bind_some] at h
      refine ⟨u, m1, rfl, ?_⟩
      cases u with
      | er c x => cases h; exact ⟨_, rfl, q⟩
      | t d => cases h; exact ⟨_, rfl, q⟩
      | loc n => cases h
      | tv xs => cases h
  · rintro ⟨u, m1, h1, k, hk, q⟩
    cases u with
    | er c x => cases hk; exact ⟨_, _, by simp [h1], q⟩
    | t d => cases hk; exact ⟨_, _, by simp [h1], q⟩
    | loc n => cases hk
    | tv xs => cases hk
theorem wE_tupv {Q} : wE call b (.tupv es) r m Q ↔ wL call b es r m fun vs m => ∃ xs, simL vs = some xs ∧ xs.length ≤ 1000000 ∧ Q (tupX xs) m := by
  unfold wE wL
  conv => lhs; unfold evalE
  constructor
  · rintro ⟨v, m', h, q⟩
    cases h1 : evalL call b es r m with
    | none => simp [h1] at h
    | some a =>
      obtain ⟨u, m1⟩ := a
      simp only [h1, Option.bind_eq_bind, Option.bind_some] at h
      refine ⟨u, m1, rfl, ?_⟩
      cases h2 : simL u with
      | none => simp [h2] at h
      | some xs =>
        simp only [h2, Option.bind_some] at h
        split at h
        · rename_i hk; cases h; exact ⟨xs, h2, hk, q⟩
        · cases h
  · rintro ⟨u, m1, h1, xs, h2, h3, q⟩
    exact ⟨_, _, by simp only [h1, h2, Option.bind_eq_bind, Option.bind_some]; rw [if_pos h3], q⟩
theorem wE_idxv {Q} : wE call b (.idxv i e) r m Q ↔ wE call b e r m fun v m => ∃ u, (match v with
    | .tv xs => (xs[i]?).map Vl.s
    | .t d => (fIdxN d i).map Vl.t
    | _ => none) = some u ∧ Q u m := by
  unfold wE
  conv => lhs; unfold evalE
  constructor
  · rintro ⟨v, m', h, q⟩
    cases h1 : evalE call b e r m with
    | none => simp [h1] at h
    | some a =>
      obtain ⟨u, m1⟩ := a
      simp only [h1, Option.bind_eq_bind, Option.bind_some] at h
      refine ⟨u, m1, rfl, ?_⟩
      cases u with
      | er c x => cases h
      | t d =>
        simp only at h ⊢
        split at h
        · rename_i k hk; cases h; exact ⟨_, by rw [hk]; rfl, q⟩
        · cases h
      | loc n => cases h
      | tv xs =>
        simp only at h ⊢
        split at h
        · rename_i k hk; cases h; exact ⟨_, by rw [hk]; rfl, q⟩
        · cases h
  · rintro ⟨u, m1, h1, k, hk, q⟩
    cases u with
    | er c x => cases hk
    | t d =>
      simp only at hk
      cases h2 : fIdxN d i with
      | none => rw [h2] at hk; cases hk
      | some y => rw [h2] at hk; cases hk; exact ⟨_, _, by simp [h1, h2], q⟩
    | loc n => cases hk
    | tv xs =>
      simp only at hk
      cases h2 : xs[i]? with
      | none => rw [h2] at hk; cases hk
      | some y => rw [h2] at hk; cases hk; exact ⟨_, _, by simp [h1, h2], q⟩
theorem wE_reprL {Q} : wE call b (.reprL es) r m Q ↔ wL call b es r m fun vs m => wV m vs fun ds => (decide (ds.length ≤ 1000) && reprOkL ds) = true ∧ Q (.t (.str (PyData.shown (.list ds)))) m := by
  unfold wE wL wV
  conv => lhs; unfold evalE
  constructor
  · rintro ⟨v, m', h, q⟩
    cases h1 : evalL call b es r m with
    | none => simp [h1] at h
    | some a =>
      obtain ⟨u, m1⟩ := a
      simp only [h1, Option.bind_eq_bind, Option.bind_some] at h
      refine ⟨u, m1, rfl, ?_⟩
      cases h2 : views m1 u with
      | none => simp [h2] at h
      | some xs =>
        simp only [h2, Option.bind_some] at h
        split at h
        · rename_i hk; cases h; exact ⟨xs, h2, hk, q⟩
        · cases h
  · rintro ⟨u, m1, h1, xs, h2, h3, q⟩
    exact ⟨_, _, by simp only [h1, h2, Option.bind_eq_bind, Option.bind_some]; rw [if_pos h3], q⟩
theorem wC_call {vs : List Vl} {v : Vl} {m1 : Mu} {Q} (h : call f vs m = some (v, m1)) (q : Q v m1) : wC call f vs m Q := ⟨_, _, h, q⟩
theorem wC_eq {vs : List Vl} {v : Vl} {m1 : Mu} {Q} (h : call f vs m = some (v, m1)) : wC call f vs m Q ↔ Q v m1 := by simp [wC, h, and_assoc]
theorem wN_eq {w : Nw} {c : Cell} {m1 : Mu} {Q} (h : evalN call b w r m = some (c, m1)) : wN call b w r m Q ↔ Q c m1 := by simp [wN, h, and_assoc]
theorem wN_of {w : Nw} {c : Cell} {m1 : Mu} (h : wN call b w r m fun c' m' => c' = c ∧ m' = m1) : evalN call b w r m = some (c, m1) := by
  obtain ⟨v, m', e, rfl, rfl⟩ := h
  exact e
theorem wE_mono {Q R : Vl → Mu → Prop} (h : wE call b e r m Q) (i : ∀ v m, Q v m → R v m) : wE call b e r m R := by obtain ⟨v, m, e, q⟩ := h; exact ⟨v, m, e, i _ _ q⟩
theorem wN_mono {w : Nw} {Q R : Cell → Mu → Prop} (h : wN call b w r m Q) (i : ∀ v m, Q v m → R v m) : wN call b w r m R := by obtain ⟨v, m, e, q⟩ := h; exact ⟨v, m, e, i _ _ q⟩
theorem wC_mono {vs : List Vl} {Q R : Vl → Mu → Prop} (h : wC call f vs m Q) (i : ∀ v m, Q v m → R v m) : wC call f vs m R := by obtain ⟨v, m, e, q⟩ := h; exact ⟨v, m, e, i _ _ q⟩
theorem wXs_mono {s : Sts} {Q R : Fl → Mu → Prop} (h : wXs cx b s r m Q) (i : ∀ v m, Q v m → R v m) : wXs cx b s r m R := by obtain ⟨v, m, e, q⟩ := h; exact ⟨v, m, e, i _ _ q⟩
theorem wFor_inv {body : Sts} {tg : Tg} {Q : Fl → Mu → Prop} {I : Nat → En → Mu → Prop} : ∀ (ds : List D) (j0 : Nat) (r : En) (m : Mu), I j0 r m → (∀ j d r m, ds[j]? = some d → I (j0 + j) r m → ∃ r1, setTg r tg d = some r1 ∧ wXs cx b body r1 m (loopQ (I (j0 + j + 1)) Q)) → (∀ r m, I (j0 + ds.length) r m → Q (.nx r) m) → wFor cx b body tg ds r m Q
  | [], j0, r, m, h, _, q => by rw [wFor_nil]; exact q r m h
  | d :: ds, j0, r, m, h, st, q => by
    rw [wFor_cons]
    obtain ⟨r1, e1, w⟩ := st 0 d r m rfl h
    refine ⟨r1, e1, wXs_mono w fun f m => ?_⟩
    have rest : ∀ r m, I (j0 + 1) r m → wFor cx b body tg ds r m Q := fun r m hI => wFor_inv (I := I) ds (j0 + 1) r m hI (fun j d r m hj hi => by
      have := st (j + 1) d r m hj (by rw [← Nat.add_assoc, Nat.add_right_comm]; exact hi)
      rw [← Nat.add_assoc, Nat.add_right_comm j0 j 1] at this
      exact this) fun r m hI => q r m (by rw [List.length_cons, ← Nat.add_assoc, Nat.add_right_comm]; exact hI)
    cases f with
    | nx r => exact rest r m
    | ct r => exact rest r m
    | bk r => exact id
    | rt v => exact id
    | ex r c x => exact id
theorem wWh_inv {c : Ex} {body : Sts} {Q : Fl → Mu → Prop} {I : Nat → En → Mu → Prop} (st : ∀ t r m, I t r m → wE (valC cx) b c r m fun v m => ∃ k, v = .t (.bool k) ∧ (k = true → wXs cx b body r m (loopQ (fun r m => ∃ t', t' < t ∧ I t' r m) Q)) ∧ (k = false → Q (.nx r) m)) : ∀ (n t : Nat) (r : En) (m : Mu), I t r m → t < n → wWh cx b c body n r m Q
  | 0, t, _, _, _, h => by omega
  | n + 1, t, r, m, hI, h => by
    rw [wWh_succ]
    refine wE_mono (st t r m hI) fun v m ⟨k, e, q1, q2⟩ => ⟨k, e, fun hk => wXs_mono (q1 hk) fun f m => ?_, q2⟩
    have rest : ∀ r m, (∃ t', t' < t ∧ I t' r m) → wWh cx b c body n r m Q := fun r m ⟨t', h1, h2⟩ => wWh_inv st n t' r m h2 (by omega)
    cases f with
    | nx r => exact rest r m
    | ct r => exact rest r m
    | bk r => exact id
    | rt v => exact id
    | ex r c x => exact id
theorem wCp_inv {elt : Ex} {tg : Tg} {r0 : En} {Q : Mu → Prop} {I : Nat → List D → Mu → Prop} : ∀ (ds : List D) (j0 : Nat) (acc : List D) (m : Mu), I j0 acc m → acc.length + ds.length < 1000000 → (∀ j acc m d, ds[j]? = some d → I (j0 + j) acc m → ∃ r1, setTg r0 tg d = some r1 ∧ wE call b elt r1 m fun v m => wDn b m v fun d m => m[n]? = some (.lst acc false) ∧ I (j0 + j + 1) (acc ++ [d]) (m.set n (.lst (acc ++ [d]) false))) → (∀ acc' m, I (j0 + ds.length) acc' m → acc'.length = acc.length + ds.length → Q m) → wCp call b n elt none tg r0 ds m Q
  | [], j0, acc, m, h, _, _, q => by rw [wCp_nil]; exact q acc m h rfl
  | d :: ds, j0, acc, m, h, hl, st, q => by
    rw [wCp_cons]
    obtain ⟨r1, e1, w⟩ := st 0 acc m d rfl h
    rw [List.length_cons] at hl
    refine ⟨r1, e1, wE_mono w fun v m ⟨d', m', e', q1, q2⟩ => ⟨d', m', e', acc, q1, by omega, ?_⟩⟩
    exact wCp_inv (I := I) ds (j0 + 1) (acc ++ [d']) _ q2 (by simp; omega) (fun j acc m d hj hi => by
      have := st (j + 1) acc m d hj (by rw [← Nat.add_assoc, Nat.add_right_comm]; exact hi)
      rw [← Nat.add_assoc, Nat.add_right_comm j0 j 1] at this
      exact this) fun acc' m hI hl' => q acc' m (by rw [List.length_cons, ← Nat.add_assoc, Nat.add_right_comm]; exact hI) (by rw [hl']; simp; omega)
theorem wCp_pure {elt : Ex} {tg : Tg} {r0 : En} {Q : Mu → Prop} {f : D → D} (ds : List D) (hl : ds.length < 1000000) (st : ∀ a, ∀ d ∈ ds, ∃ r1, setTg r0 tg d = some r1 ∧ wE call b elt r1 (m ++ [a]) fun v m' => v = .t (f d) ∧ m' = m ++ [a]) (q : Q (m ++ [.lst (ds.map f) false])) : wCp call b m.length elt none tg r0 ds (m ++ [.lst [] false]) Q := by
  have e := compLoop_pure (b := b) (elt := fun r m => evalE call b elt r m) (cond := fun _ m => some (.t (.bool true), m)) (tg := tg) (r0 := r0) (p := fun _ => true) (f := f) ds [] m (by simpa using hl) fun d hd => by
    obtain ⟨r1, e1, _⟩ := st (.lst [] false) d hd
    refine ⟨r1, e1, fun a => ⟨rfl, fun _ => ?_⟩⟩
    obtain ⟨r2, e2, v, m', e3, rfl, rfl⟩ := st a d hd
    rw [e1] at e2; cases e2
    exact e3
  have ft : ds.filter (fun _ => true) = ds := List.filter_eq_self.mpr fun _ _ => rfl
  rw [ft, List.nil_append] at e
  exact ⟨_, e, q⟩
theorem wCp_pureIf {elt c : Ex} {tg : Tg} {r0 : En} {Q : Mu → Prop} {f : D → D} {p : D → Bool} (ds : List D) (hl : ds.length < 1000000) (st : ∀ a, ∀ d ∈ ds, ∃ r1, setTg r0 tg d = some r1 ∧ wE call b c r1 (m ++ [a]) (fun v m' => v = .t (.bool (p d)) ∧ m' = m ++ [a]) ∧ (p d = true → wE call b elt r1 (m ++ [a]) fun v m' => v = .t (f d) ∧ m' = m ++ [a])) (q : Q (m ++ [.lst ((ds.filter p).map f) false])) : wCp call b m.length elt (some c) tg r0 ds (m ++ [.lst [] false]) Q := by
  have e := compLoop_pure (b := b) (elt := fun r m => evalE call b elt r m) (cond := fun r m => evalE call b c r m) (tg := tg) (r0 := r0) (p := p) (f := f) ds [] m (by simpa using hl) fun d hd => by
    obtain ⟨r1, e1, _⟩ := st (.lst [] false) d hd
    refine ⟨r1, e1, fun a => ?_⟩
    obtain ⟨r2, e2, ⟨v, m', e3, rfl, rfl⟩, w⟩ := st a d hd
    rw [e1] at e2; cases e2
    refine ⟨e3, fun hp => ?_⟩
    obtain ⟨v, m', e4, rfl, rfl⟩ := w hp
    exact e4
  rw [List.nil_append] at e
  exact ⟨_, e, q⟩
end
end TI
namespace TI
open PySem
section
variable {i j : Int} {x y : Str} {a c : D} {as cs : List D} {Q : D → Prop} {R : Cell → Prop} {k k1 k2 : Bool} {T : String} {n : Nat} {m : Mu}
theorem ex_some {α : Type} {v : α} {P : α → Prop} : (∃ d, some v = some d ∧ P d) ↔ P v := by simp
theorem wO_addI : wO .add [.int i, .int j] Q ↔ Q (.int (i + j)) := ex_some
theorem wO_addL : wO .add [.list as, .list cs] Q ↔ as.length + cs.length ≤ 1000000 ∧ Q (.list (as ++ cs)) := by
  have e : opR .add [.list as, .list cs] = (nAdd [.list as, .list cs]).map Cell.data := rfl
  unfold wO
  rw [e]; unfold nAdd
  by_cases h : as.length + cs.length ≤ 1000000 <;> simp [h, Cell.data]
theorem wO_addS : wO .add [.str x, .str y] Q ↔ x.length + y.length ≤ 1000000 ∧ Q (.str (x ++ y)) := by
  have e : opR .add [.str x, .str y] = match (if x.length + y.length ≤ 1000000 then some (PyData.str (x ++ y)) else none) with
    | some d => some d
    | none => (nAdd [.str x, .str y]).map Cell.data := rfl
  unfold wO
  rw [e]; unfold nAdd
  by_cases h : x.length + y.length ≤ 1000000 <;> simp [h, Cell.data]
theorem wO_sub : wO .sub [.int i, .int j] Q ↔ Q (.int (i - j)) := ex_some
theorem wO_neg : wO .neg [.int i] Q ↔ Q (.int (-i)) := ex_some
theorem wO_mul : wO .mul [.int i, .int j] Q ↔ mulOk i j = true ∧ Q (.int (i * j)) := by
  have e : opR .mul [.int i, .int j] = match (if mulOk i j then some (PyData.int (i * j)) else none) with
    | some d => some d
    | none => none := rfl
  unfold wO
  rw [e]
  by_cases h : mulOk i j = true <;> simp [h]
theorem wO_fdiv : wO .fdiv [.int i, .int j] Q ↔ divOk i j = true ∧ Q (.int (i.fdiv j)) := by
  have e : opR .fdiv [.int i, .int j] = match (if divOk i j then some (PyData.int (i.fdiv j)) else none) with
    | some d => some d
    | none => none := rfl
  unfold wO
  rw [e]
  by_cases h : divOk i j = true <;> simp [h]
theorem wO_mod : wO .mod [.int i, .int j] Q ↔ j ≠ 0 ∧ Q (.int (i.fmod j)) := by
  have e : opR .mod [.int i, .int j] = match (if decide (j ≠ 0) then some (PyData.int (i.fmod j)) else none) with
    | some d => some d
    | none => none := rfl
  unfold wO
  rw [e]
  by_cases h : j = 0 <;> simp [h]
theorem wO_eq : wO .eq [a, c] Q ↔ ∃ d, fEq false a c = some d ∧ Q d := by
  have e : opR .eq [a, c] = match fEq false a c with
    | some d => some d
    | none => none := rfl
  unfold wO
  rw [e]
  cases fEq false a c <;> simp
theorem wO_ne : wO .ne [a, c] Q ↔ ∃ d, fEq true a c = some d ∧ Q d := by
  have e : opR .ne [a, c] = match fEq true a c with
    | some d => some d
    | none => none := rfl
  unfold wO
  rw [e]
  cases fEq true a c <;> simp
theorem wO_inn : wO .inn [a, c] Q ↔ ∃ d, fIn false a c = some d ∧ Q d := by
  have e : opR .inn [a, c] = match fIn false a c with
    | some d => some d
    | none => none := rfl
  unfold wO
  rw [e]
  cases fIn false a c <;> simp
theorem wO_nin : wO .nin [a, c] Q ↔ ∃ d, fIn true a c = some d ∧ Q d := by
  have e : opR .nin [a, c] = match fIn true a c with
    | some d => some d
    | none => none := rfl
  unfold wO
  rw [e]
  cases fIn true a c <;> simp
theorem wO_idx : wO .idx [a, c] Q ↔ ∃ d, fIdx a c = some d ∧ Q d := by
  have e : opR .idx [a, c] = match fIdx a c with
    | some d => some d
    | none => none := rfl
  unfold wO
  rw [e]
  cases fIdx a c <;> simp
theorem wO_len : wO .len [a] Q ↔ ∃ d, fLen a = some d ∧ Q d := by
  have e : opR .len [a] = match fLen a with
    | some d => some d
    | none => none := rfl
  unfold wO
  rw [e]
  cases fLen a <;> simp
theorem wO_toInt : wO .toInt [.int i] Q ↔ Q (.int i) := ex_some
theorem wO_toStr : wO .toStr [.int i] Q ↔ i.natAbs.log2 < 1920 ∧ Q (.str (toString i)) := by
  have e : opR .toStr [.int i] = match (if i.natAbs.log2 < 1920 then some (PyData.str (toString i)) else none) with
    | some d => some d
    | none => none := rfl
  unfold wO
  rw [e]
  by_cases h : i.natAbs.log2 < 1920 <;> simp [h]
theorem wO_lt : wO .lt [.int i, .int j] Q ↔ Q (.bool (decide (i < j))) := ex_some
theorem wO_le : wO .le [.int i, .int j] Q ↔ Q (.bool (decide (i ≤ j))) := ex_some
theorem wO_gt : wO .gt [.int i, .int j] Q ↔ Q (.bool (decide (j < i))) := ex_some
theorem wO_ge : wO .ge [.int i, .int j] Q ↔ Q (.bool (decide (j ≤ i))) := ex_some
theorem wO_isN : wO .isN [a] Q ↔ Q (.bool (isNone a)) := ex_some
theorem wO_notN : wO .notN [a] Q ↔ Q (.bool (!isNone a)) := ex_some
theorem wO_isB : wO (.isB k) [.bool k1] Q ↔ Q (.bool (decide (k1 = k))) := ex_some
theorem wO_notB : wO (.notB k) [.bool k1] Q ↔ Q (.bool (!decide (k1 = k))) := ex_some
theorem wO_not : wO .not [.bool k] Q ↔ Q (.bool (!k)) := ex_some
theorem wO_isi : wO (.isi T) [a] Q ↔ Q (.bool (isT a T)) := ex_some
theorem wO_repr : wO .repr [a] Q ↔ reprOk a = true ∧ Q (.str a.shown) := by
  have e : opR .repr [a] = match (if reprOk a then some (PyData.str a.shown) else none) with
    | some d => some d
    | none => none := rfl
  unfold wO
  rw [e]
  by_cases h : reprOk a = true <;> simp [h]
theorem wO_tuple : wO .tuple [.list as] Q ↔ Q (.tuple as) := ex_some
theorem wO_max2 : wO .max2 [.int i, .int j] Q ↔ Q (.int (if j > i then j else i)) := ex_some
theorem wO_min2 : wO .min2 [.int i, .int j] Q ↔ Q (.int (if j < i then j else i)) := ex_some
theorem nO_add : (∃ q, opN .add [.list as, .list cs] = some q ∧ R q) ↔ as.length + cs.length ≤ 1000000 ∧ R (.lst (as ++ cs) false) := by
  show (∃ q, nAdd [.list as, .list cs] = some q ∧ R q) ↔ _
  unfold nAdd
  by_cases h : as.length + cs.length ≤ 1000000 <;> simp [h]
theorem nO_list : (∃ q, opN .list [.list as] = some q ∧ R q) ↔ R (.lst as false) := ex_some
theorem nO_listT : (∃ q, opN .list [.tuple as] = some q ∧ R q) ↔ R (.lst as false) := ex_some
theorem nO_rev : (∃ q, opN .slRev [.list as] = some q ∧ R q) ↔ R (.lst as.reverse false) := ex_some
theorem nO_lo : (∃ q, opN .slLo [.list as, .int i] = some q ∧ R q) ↔ R (.lst (cutA as (some i) none) false) := ex_some
theorem nO_hi : (∃ q, opN .slHi [.list as, .int i] = some q ∧ R q) ↔ R (.lst (cutA as none (some i)) false) := ex_some
theorem nO_lohi : (∃ q, opN .slLH [.list as, .int i, .int j] = some q ∧ R q) ↔ R (.lst (cutA as (some i) (some j)) false) := ex_some
theorem fLen_list : fLen (.list as) = some (.int as.length) := rfl
theorem fLen_tuple : fLen (.tuple as) = some (.int as.length) := rfl
theorem fIdx_list : fIdx (.list as) (.int i) = L2.atI as i := rfl
theorem fIdx_tuple : fIdx (.tuple as) (.int i) = L2.atI as i := rfl
theorem fEq_str {neg : Bool} : fEq neg (.str x) (.str y) = some (.bool (if neg then !decide (x = y) else decide (x = y))) := rfl
theorem fEq_int {neg : Bool} : fEq neg (.int i) (.int j) = some (.bool (if neg then !decide (i = j) else decide (i = j))) := rfl
theorem srcF_list : srcF (.list as) = some as := rfl
theorem srcF_tuple : srcF (.tuple as) = some as := rfl
theorem lstF_list : lstF (.list as) = some as := rfl
theorem setTg_one {r : En} : setTg r (.one n) a = some (r.set n (some (.t a))) := rfl
theorem setTg_many {r : En} {is : List Nat} : setTg r (.many is) (.tuple as) = if as.length = is.length then some (setTg.setMany r is as) else none := rfl
theorem setMany_nil {r : En} {as : List D} : setTg.setMany r [] as = r := by unfold setTg.setMany; rfl
theorem setMany_cons {r : En} {is : List Nat} : setTg.setMany r (n :: is) (a :: as) = setTg.setMany (r.set n (some (.t a))) is as := rfl
theorem wipe_nil {r : En} : wipeE r [] = r := rfl
theorem wipe_cons {r : En} {is : List Nat} : wipeE r (n :: is) = (wipeE r is).set n none := rfl
theorem data_lst {f : Bool} : Cell.data (.lst as f) = .list as := rfl
theorem defQ_rt {b : Nat} {kp : Bool} {Q : Vl → Mu → Prop} {v : Vl} : defQ b kp Q (.rt v) m = wF b kp v m Q := rfl
theorem defQ_nx {b : Nat} {kp : Bool} {Q : Vl → Mu → Prop} {r : En} : defQ b kp Q (.nx r) m = wF b kp (.t .none) m Q := rfl
theorem loopQ_nx {N : En → Mu → Prop} {Q : Fl → Mu → Prop} {r : En} : loopQ N Q (.nx r) m = N r m := rfl
theorem loopQ_ct {N : En → Mu → Prop} {Q : Fl → Mu → Prop} {r : En} : loopQ N Q (.ct r) m = N r m := rfl
theorem loopQ_bk {N : En → Mu → Prop} {Q : Fl → Mu → Prop} {r : En} : loopQ N Q (.bk r) m = Q (.nx r) m := rfl
theorem loopQ_rt {N : En → Mu → Prop} {Q : Fl → Mu → Prop} {v : Vl} : loopQ N Q (.rt v) m = Q (.rt v) m := rfl
theorem wO_mulS : wO .mul [.str x, .int i] Q ↔ ∃ d, fMul [.str x, .int i] = some d ∧ Q d := by
  have e : opR .mul [.str x, .int i] = match fMul [.str x, .int i] with
    | some d => some d
    | none => none := rfl
  unfold wO
  rw [e]
  cases fMul [.str x, .int i] <;> simp
theorem freeze_lst {f : Bool} : Cell.freeze (.lst as f) = .lst as true := rfl
theorem data_dct {kvs : List (D × D)} {f : Bool} : Cell.data (.dct kvs f) = .dict kvs := rfl
theorem wN_rep {call : Nat → List Vl → Mu → Option (Vl × Mu)} {b : Nat} {r : En} {es : Exs} {e : Ex} {Q : Cell → Mu → Prop} : wN call b (.rep es e) r m Q ↔ wD call b es r m fun ds m => wE call b e r m fun v m => ∃ i, v = .t (.int i) ∧ ds.length ≤ 1000 ∧ 0 ≤ i ∧ i ≤ 1000 ∧ Q (.lst (List.replicate i.toNat ds).flatten false) m := by
  unfold wN wD wE evalN
  constructor
  · rintro ⟨v, m', h, q⟩
    cases h1 : evalD call b es r m with
    | none => simp [h1] at h
    | some a =>
      obtain ⟨ds, m1⟩ := a
      simp only [h1, Option.bind_eq_bind, Option.bind_some] at h
      cases h2 : evalE call b e r m1 with
      | none => simp [h2] at h
      | some a =>
        obtain ⟨u, m2⟩ := a
        simp only [h2, Option.bind_some] at h
        refine ⟨ds, m1, rfl, u, m2, h2, ?_⟩
        split at h
        · rename_i i
          split at h
          · rename_i hl
            simp only [Bool.and_eq_true, decide_eq_true_eq] at hl
            cases h
            exact ⟨i, rfl, hl.1.1, hl.1.2, hl.2, q⟩
          · cases h
        · cases h
  · rintro ⟨ds, m1, h1, u, m2, h2, i, rfl, l1, l2, l3, q⟩
    exact ⟨_, _, by simp [h1, h2, l1, l2, l3], q⟩
end
end TI
namespace TI
open PySem
def GenC (B : Int) (c : Cell) : Prop := ∃ a s i, c = .lst [.int a, .int s, .int i] false ∧ 0 ≤ a ∧ 0 ≤ s ∧ s < 2147483647 ∧ 0 ≤ i ∧ i ≤ B
theorem GenC.up {B B' : Int} {c : Cell} (h : GenC B c) (hB : B ≤ B') : GenC B' c := by
  obtain ⟨a, s, i, e, h1, h2, h3, h4, h5⟩ := h
  exact ⟨a, s, i, e, h1, h2, h3, h4, by omega⟩
theorem gen_iff {B : Int} {m : Mu} {n : Nat} : Gen B m n ↔ ∃ c, m[n]? = some c ∧ GenC B c := by
  constructor
  · rintro ⟨a, s, i, e, h⟩
    exact ⟨_, e, a, s, i, rfl, h⟩
  · rintro ⟨_, e, a, s, i, rfl, h⟩
    exact ⟨a, s, i, e, h⟩
section
variable {α : Type} {a x : α} {l r : List α} {i : Nat}
theorem len_cons : (a :: l).length = 1 + l.length := by rw [List.length_cons, Nat.add_comm]
theorem cons_get : (a :: l)[1 + i]? = l[i]? := by rw [Nat.add_comm, List.getElem?_cons_succ]
theorem cons_set : (a :: l).set (1 + i) x = a :: l.set i x := by rw [Nat.add_comm, List.set_cons_succ]
theorem app_get : (r ++ l)[r.length + i]? = l[i]? := by rw [List.getElem?_append_right (by omega)]; simp
theorem app_get0 : (r ++ l)[r.length]? = l[0]? := by rw [List.getElem?_append_right (by omega)]; simp
theorem app_set : (r ++ l).set (r.length + i) x = r ++ l.set i x := by rw [List.set_append_right _ _ (by omega)]; simp
theorem app_set0 : (r ++ l).set r.length x = r ++ l.set 0 x := by rw [List.set_append_right _ _ (by omega)]; simp
theorem eq_add1 (a b : Nat) : (a + (b + 1) = a + b + 1) = True := by simp [Nat.add_assoc]
theorem lt_self_add (n : Nat) : (n + i < n) = False := by simp
end
def W (m : Mu) (g : Nat) (c : Cell) (L : List Cell) : Mu := m.set g c ++ L
section
variable {m : Mu} {g i : Nat} {c c' x : Cell} {L : List Cell}
theorem W_len : (W m g c L).length = m.length + L.length := by simp [W]
theorem W_get0 : (W m g c L)[m.length]? = L[0]? := by
  unfold W
  rw [List.getElem?_append_right (by simp)]; simp
theorem W_get : (W m g c L)[m.length + i]? = L[i]? := by
  unfold W
  rw [List.getElem?_append_right (by simp)]; simp
theorem W_set0 : (W m g c L).set m.length x = W m g c (L.set 0 x) := by
  unfold W
  rw [List.set_append_right _ _ (by simp)]; simp
theorem W_set : (W m g c L).set (m.length + i) x = W m g c (L.set i x) := by
  unfold W
  rw [List.set_append_right _ _ (by simp)]; simp
theorem W_app : W m g c L ++ [x] = W m g c (L ++ [x]) := by unfold W; rw [List.append_assoc]
theorem W_take0 : (W m g c L).take m.length = W m g c [] := by
  unfold W
  rw [List.take_append_of_le_length (by simp), List.take_of_length_le (by simp), List.append_nil]
theorem W_take : (W m g c L).take (m.length + i) = W m g c (L.take i) := by
  unfold W
  rw [List.take_append, List.take_of_length_le (by simp)]
  simp
theorem W_gen (hg : g < m.length) : (W m g c L)[g]? = some c := by
  unfold W
  rw [List.getElem?_append_left (by simpa using hg), List.getElem?_set_self hg]
theorem W_gset (hg : g < m.length) : (W m g c L).set g c' = W m g c' L := by
  unfold W
  rw [List.set_append_left _ _ (by simpa using hg), List.set_set]
theorem W_nil : W m g c [] = m.set g c := by simp [W]
theorem W_self (h : m[g]? = some c) : W m g c [] = m := by
  rw [W_nil]
  obtain ⟨hg, rfl⟩ := List.getElem?_eq_some_iff.mp h
  simp
theorem W_up : W (W m g c L) g c' [] = W m g c' L ∨ m.length ≤ g := by
  by_cases hg : g < m.length
  · left; rw [W_nil, W_gset hg]
  · right; omega
theorem lt_loc : (m.length + i < m.length) = False := by simp
theorem lt_loc0 : (m.length < m.length) = False := by simp
theorem le_loc : (m.length ≤ m.length + i) = True := by simp
theorem le_loc0 : (m.length ≤ m.length) = True := by simp
end
theorem acc_get {m : Mu} {g : Nat} {c x : Cell} {L : List Cell} : (W m g c (L ++ [x]))[m.length + L.length]? = some x := by rw [W_get, List.getElem?_concat_length]
theorem acc_set {m : Mu} {g : Nat} {c x y : Cell} {L : List Cell} : (W m g c (L ++ [x])).set (m.length + L.length) y = W m g c (L ++ [y]) := by rw [W_set, set_last]
theorem w_rand {P : List Fn} {ir ih k : Nat} (hp : P[ir]? = some ⟨2, 4, bRandom ih, false⟩) (hh : P[ih]? = some ⟨2, 3, bHash, false⟩) {B : Int} {m : Mu} {g : Nat} {c : Cell} {L : List Cell} {bd : Int} {Q : Vl → Mu → Prop} (hg : g < m.length) (gc : GenC B c) (hb : B < 2 ^ 60) (h0 : 0 < bd) (h1 : bd < 2 ^ 29)
    (q : ∀ (r : Nat) (c' : Cell), (r : Int) < bd → GenC (B + 1) c' → Q (.t (.int r)) (W m g c' L)) : wC (callF P (k + 2)) ir [.loc g, .t (.int bd)] (W m g c L) Q := by
  obtain ⟨r, c', e, r0, r1, g'⟩ := ev_random (k := k) hp hh hb (gen_iff.mpr ⟨c, W_gen (L := L) hg, gc⟩) h0 h1
  obtain ⟨t, rfl⟩ := Int.eq_ofNat_of_zero_le r0
  rw [W_gset hg] at e g'
  obtain ⟨c2, e2, g2⟩ := gen_iff.mp g'
  rw [W_gen hg] at e2
  cases e2
  exact ⟨_, _, e, q t c' r1 g2⟩
def RandOk (call : Nat → List Vl → Mu → Option (Vl × Mu)) (ir : Nat) : Prop := ∀ (B : Int) (m : Mu) (g : Nat) (c : Cell) (L : List Cell) (bd : Int) (Q : Vl → Mu → Prop), g < m.length → GenC B c → B < 2 ^ 60 → 0 < bd → bd < 2 ^ 29 →
    (∀ (r : Nat) (c' : Cell), (r : Int) < bd → GenC (B + 1) c' → Q (.t (.int r)) (W m g c' L)) → wC call ir [.loc g, .t (.int bd)] (W m g c L) Q
theorem rand_ok {P : List Fn} {ir ih k : Nat} (hp : P[ir]? = some ⟨2, 4, bRandom ih, false⟩) (hh : P[ih]? = some ⟨2, 3, bHash, false⟩) : RandOk (callF P (k + 2)) ir :=
  fun _ _ _ _ _ _ _ hg gc hb h0 h1 q => w_rand hp hh hg gc hb h0 h1 q
theorem atI_nat {ds : List D} {r : Nat} (h : r < ds.length) : L2.atI ds (r : Int) = some ds[r] := by
  simp [L2.atI, L2.ixN, h]
theorem rangeF1 {n : Nat} (h : n < 2 ^ 60) : rangeF [.int n] = some ((List.range n).map fun (k : Nat) => .int k) := by
  have sm : small (n : Int) = true := by unfold small; simp; omega
  show (if small (n : Int) = true then some (rangeD 0 (n : Int).toNat) else none) = _
  rw [if_pos sm]
  simp [rangeD]
theorem wCp_pureW {call : Nat → List Vl → Mu → Option (Vl × Mu)} {b : Nat} {m : Mu} {g : Nat} {c : Cell} {L : List Cell} {elt : Ex} {tg : Tg} {r0 : En} {Q : Mu → Prop} {f : D → D} (ds : List D) (hl : ds.length < 1000000) (st : ∀ a, ∀ d ∈ ds, ∃ r1, setTg r0 tg d = some r1 ∧ wE call b elt r1 (W m g c (L ++ [a])) fun v m' => v = .t (f d) ∧ m' = W m g c (L ++ [a])) (q : Q (W m g c (L ++ [.lst (ds.map f) false]))) : wCp call b (m.length + L.length) elt none tg r0 ds (W m g c (L ++ [.lst [] false])) Q := by
  have := wCp_pure (call := call) (b := b) (m := W m g c L) (elt := elt) (tg := tg) (r0 := r0) (Q := Q) (f := f) ds hl (fun a d hd => by rw [W_app]; exact st a d hd) (by rw [W_app]; exact q)
  rw [W_len, W_app] at this
  exact this
theorem wCp_pureIfW {call : Nat → List Vl → Mu → Option (Vl × Mu)} {b : Nat} {m : Mu} {g : Nat} {c : Cell} {L : List Cell} {elt cnd : Ex} {tg : Tg} {r0 : En} {Q : Mu → Prop} {f : D → D} {p : D → Bool} (ds : List D) (hl : ds.length < 1000000) (st : ∀ a, ∀ d ∈ ds, ∃ r1, setTg r0 tg d = some r1 ∧ wE call b cnd r1 (W m g c (L ++ [a])) (fun v m' => v = .t (.bool (p d)) ∧ m' = W m g c (L ++ [a])) ∧ (p d = true → wE call b elt r1 (W m g c (L ++ [a])) fun v m' => v = .t (f d) ∧ m' = W m g c (L ++ [a]))) (q : Q (W m g c (L ++ [.lst ((ds.filter p).map f) false]))) : wCp call b (m.length + L.length) elt (some cnd) tg r0 ds (W m g c (L ++ [.lst [] false])) Q := by
  have := wCp_pureIf (call := call) (b := b) (m := W m g c L) (elt := elt) (c := cnd) (tg := tg) (r0 := r0) (Q := Q) (f := f) (p := p) ds hl (fun a d hd => by rw [W_app]; exact st a d hd) (by rw [W_app]; exact q)
  rw [W_len, W_app] at this
  exact this
theorem range_at {t j : Nat} {d : D} (h : ((List.range t).map fun (k : Nat) => PyData.int (k : Int))[j]? = some d) : j < t ∧ d = .int j := by
  rw [List.getElem?_map] at h
  cases e : (List.range t)[j]? with
  | none => rw [e] at h; cases h
  | some x =>
    rw [e] at h
    obtain ⟨h1, h2⟩ := List.getElem?_eq_some_iff.mp e
    rw [List.getElem_range] at h2
    subst h2
    cases h
    exact ⟨by simpa using h1, rfl⟩
theorem range_len {t : Nat} : ((List.range t).map fun (k : Nat) => PyData.int (k : Int)).length = t := by simp
theorem enum_at {ds : List D} {j : Nat} {d : D} (h : (enumD ds)[j]? = some d) : ∃ x, ds[j]? = some x ∧ d = .tuple [.int (j : Nat), x] := by
  unfold enumD at h
  rw [List.getElem?_zipWith] at h
  cases e : ds[j]? with
  | none => rw [e] at h; revert h; cases (List.range ds.length)[j]? <;> (intro h; cases h)
  | some x =>
    have hj := (List.getElem?_eq_some_iff.mp e).1
    rw [e, List.getElem?_eq_getElem (by simpa using hj)] at h
    simp at h
    exact ⟨x, rfl, h.symm⟩
theorem enum_len {ds : List D} : (enumD ds).length = ds.length := by simp [enumD]
theorem cutA_hi {α : Type} {xs : List α} (n : Nat) : cutA xs none (some (n : Int)) = xs.take n := by
  unfold cutA
  rw [HT.sIx_nat, HT.sIx_none]
  simp [List.take_eq_take_iff]
theorem cutA_lo {α : Type} {xs : List α} (n : Nat) : cutA xs (some (n : Int)) none = xs.drop n := by
  unfold cutA
  rw [HT.sIx_nat, HT.sIx_none, List.take_of_length_le (by simp)]
  by_cases h : n ≤ xs.length
  · rw [Nat.min_eq_left h]
  · rw [Nat.min_eq_right (by omega), List.drop_of_length_le (Nat.le_refl _), List.drop_of_length_le (by omega)]
theorem cutA_all {α : Type} {xs : List α} : cutA xs none (some (-1)) = xs.dropLast := by
  unfold cutA HT.sIx
  simp [List.dropLast_eq_take]
  congr 1
  omega
end TI
namespace TI
open PySem
mutual
def tmB : D → Bool
  | .none | .bool _ => true
  | .int i => decide (i.natAbs < 10 ^ 24)
  | .str x => PyData.strOk x
  | .list xs | .tuple xs => tmAll xs
  | .dict _ => false
def tmAll : List D → Bool
  | [] => true
  | x :: xs => tmB x && tmAll xs
end
theorem shown_int24 {i : Int} (h : i.natAbs < 10 ^ 24) : (PyData.shown (.int i)).length ≤ 25 := by
  have e := int_text_length_le10 (k := 24) (by decide) h
  show (Str.ofString (toString i)).length ≤ 25
  rw [ofString_length]; exact e
mutual
theorem tm_lay : ∀ {d : D}, tmB d = true → d.canLay0 = true ∧ d.showable = true ∧ d.intsShort 25 = true
  | .none, _ => by simp [PyData.canLay0, PyData.showable, PyData.intsShort]
  | .bool _, _ => by simp [PyData.canLay0, PyData.showable, PyData.intsShort]
  | .int i, h => by
    simp only [tmB, decide_eq_true_eq] at h
    refine ⟨by simp [PyData.canLay0], ?_, by simp only [PyData.intsShort, decide_eq_true_eq]; exact shown_int24 h⟩
    simp only [PyData.showable, decide_eq_true_eq]
    by_cases h0 : i.natAbs = 0
    · rw [h0]; decide
    · have : i.natAbs.log2 < 80 := (Nat.log2_lt h0).mpr (by omega)
      omega
  | .str x, h => by simp only [tmB] at h; simp [PyData.canLay0, PyData.showable, PyData.intsShort, h]
  | .list xs, h => by simp only [tmB] at h; have := tmAll_lay h; simp [PyData.canLay0, PyData.showable, PyData.intsShort, this]
  | .tuple xs, h => by simp only [tmB] at h; have := tmAll_lay h; simp [PyData.canLay0, PyData.showable, PyData.intsShort, this]
  | .dict _, h => by simp [tmB] at h
theorem tmAll_lay : ∀ {ds : List D}, tmAll ds = true → PyData.canLayAll0 ds = true ∧ PyData.showableAll ds = true ∧ PyData.intsShortAll 25 ds = true
  | [], _ => by simp [PyData.canLayAll0, PyData.showableAll, PyData.intsShortAll]
  | d :: ds, h => by
    simp only [tmAll, Bool.and_eq_true] at h
    have h1 := tm_lay h.1
    have h2 := tmAll_lay h.2
    simp [PyData.canLayAll0, PyData.showableAll, PyData.intsShortAll, h1, h2]
end
theorem tmAll_mem : ∀ {ds : List D}, tmAll ds = true ↔ ∀ d ∈ ds, tmB d = true
  | [] => by simp [tmAll]
  | x :: xs => by simp [tmAll, tmAll_mem (ds := xs)]
structure Tm (n w : Nat) (d : D) : Prop where
  ok : tmB d = true
  dep : d.depth ≤ n
  wt : d.weight ≤ w
theorem Tm.up {n w n' w' : Nat} {d : D} (h : Tm n w d) (hn : n ≤ n') (hw : w ≤ w') : Tm n' w' d := ⟨h.ok, Nat.le_trans h.dep hn, Nat.le_trans h.wt hw⟩
theorem tmShaped {n w : Nat} {d : D} (h : Tm n w d) (hn : n ≤ 60) : SeqAt.shaped d = true := by
  unfold SeqAt.shaped
  have := h.dep
  rw [Bool.and_eq_true, decide_eq_true_eq]
  exact ⟨(tm_lay h.ok).1, by omega⟩
theorem tmRepr {n w : Nat} {d : D} (h : Tm n w d) (hn : n ≤ 60) (hw : w ≤ 30000) : reprOk d = true := by
  have s := tmShaped h hn
  have l := tm_lay h.ok
  have b := PyData.shown_le 25 (by decide) d (PyData.leavesShort_of_canLay0 25 d l.1 l.2.2)
  have h1 := h.dep
  have h2 := h.wt
  have h3 : d.shown.length ≤ 1000000 := by omega
  cases d with
  | none => rfl
  | bool _ => rfl
  | int i =>
    have := l.2.1
    simp only [PyData.showable] at this
    exact this
  | str x => simp only [reprOk, s, l.2.1, h3, Bool.true_and, Bool.true_or, decide_true, Bool.and_true, decide_eq_true_eq]; omega
  | list x => simp only [reprOk, s, l.2.1, h3, Bool.true_and, Bool.true_or, decide_true, Bool.and_true, decide_eq_true_eq]; omega
  | tuple x => simp only [reprOk, s, l.2.1, h3, Bool.true_and, Bool.true_or, decide_true, Bool.and_true, decide_eq_true_eq]; omega
  | dict x => have := h.ok; simp [tmB] at this
theorem wtAll_le {w : Nat} : ∀ {ds : List D}, (∀ d ∈ ds, d.weight ≤ w) → PyData.weightAll ds ≤ ds.length * (w + 1)
  | [], _ => by simp [PyData.weightAll]
  | x :: xs, h => by
    have h1 := h x List.mem_cons_self
    have h2 := wtAll_le fun d hd => h d (List.mem_cons_of_mem _ hd)
    simp only [PyData.weightAll, List.length_cons, Nat.add_mul, Nat.one_mul]
    omega
theorem depAll_le {n : Nat} : ∀ {ds : List D}, (∀ d ∈ ds, d.depth ≤ n) → PyData.depthAll ds ≤ n
  | [], _ => by simp [PyData.depthAll]
  | x :: xs, h => by
    simp only [PyData.depthAll]
    exact Nat.max_le.mpr ⟨h x List.mem_cons_self, depAll_le fun d hd => h d (List.mem_cons_of_mem _ hd)⟩
theorem tmList {n w k : Nat} {l : List D} (h : ∀ x ∈ l, Tm n w x) (hk : l.length ≤ k) : Tm (n + 1) (k * (w + 1)) (.list l) := by
  refine ⟨by simp only [tmB]; exact tmAll_mem.mpr fun d hd => (h d hd).ok, ?_, ?_⟩
  · simp only [PyData.depth]
    have := depAll_le fun d hd => (h d hd).dep
    omega
  · simp only [PyData.weight]
    exact Nat.le_trans (wtAll_le fun d hd => (h d hd).wt) (Nat.mul_le_mul_right _ hk)
theorem tmTuple {n w k : Nat} {l : List D} (h : ∀ x ∈ l, Tm n w x) (hk : l.length ≤ k) : Tm (n + 1) (k * (w + 1)) (.tuple l) := by
  have := tmList h hk
  exact ⟨by simpa only [tmB] using this.ok, by simpa only [PyData.depth] using this.dep, by simpa only [PyData.weight] using this.wt⟩
theorem tmStr {x : Str} {w : Nat} (h : PyData.strOk x = true) (hw : x.length ≤ w) : Tm 0 w (.str x) := ⟨by simpa only [tmB] using h, by simp [PyData.depth], by simp only [PyData.weight]; exact hw⟩
theorem tmCons {n w w2 : Nat} {d : D} {l : List D} (h : Tm n w d) (h2 : Tm (n + 1) w2 (.list l)) : Tm (n + 1) (w + 1 + w2) (.list (d :: l)) := by
  obtain ⟨a1, a2, a3⟩ := h
  obtain ⟨b1, b2, b3⟩ := h2
  simp only [tmB, PyData.depth, PyData.weight] at b1 b2 b3
  refine ⟨?_, ?_, ?_⟩
  · simp only [tmB, tmAll, a1, b1]; rfl
  · simp only [PyData.depth, PyData.depthAll]; omega
  · simp only [PyData.weight, PyData.weightAll]; omega
theorem tmTupCons {n w w2 : Nat} {d : D} {l : List D} (h : Tm n w d) (h2 : Tm (n + 1) w2 (.tuple l)) : Tm (n + 1) (w + 1 + w2) (.tuple (d :: l)) := by
  obtain ⟨a1, a2, a3⟩ := h
  obtain ⟨b1, b2, b3⟩ := h2
  simp only [tmB, PyData.depth, PyData.weight] at b1 b2 b3
  refine ⟨?_, ?_, ?_⟩
  · simp only [tmB, tmAll, a1, b1]; rfl
  · simp only [PyData.depth, PyData.depthAll]; omega
  · simp only [PyData.weight, PyData.weightAll]; omega
theorem tmTupNil {n w : Nat} : Tm (n + 1) w (.tuple []) := ⟨by simp [tmB, tmAll], by simp [PyData.depth, PyData.depthAll], by simp [PyData.weight, PyData.weightAll]⟩
theorem tmListNil {n w : Nat} : Tm (n + 1) w (.list []) := ⟨by simp [tmB, tmAll], by simp [PyData.depth, PyData.depthAll], by simp [PyData.weight, PyData.weightAll]⟩
theorem tmMem {n w : Nat} {l : List D} (h : Tm (n + 1) w (.list l)) : ∀ x ∈ l, Tm n w x := by
  obtain ⟨b1, b2, b3⟩ := h
  simp only [tmB, PyData.depth, PyData.weight] at b1 b2 b3
  intro x hx
  refine ⟨tmAll_mem.mp b1 x hx, ?_, ?_⟩
  · have : ∀ {ds : List D}, x ∈ ds → x.depth ≤ PyData.depthAll ds := by
      intro ds
      induction ds with
      | nil => intro h; cases h
      | cons y ys ih =>
        intro h
        simp only [PyData.depthAll]
        rcases List.mem_cons.mp h with rfl | h
        · exact Nat.le_max_left _ _
        · exact Nat.le_trans (ih h) (Nat.le_max_right _ _)
    have := this hx
    omega
  · have : ∀ {ds : List D}, x ∈ ds → x.weight ≤ PyData.weightAll ds := by
      intro ds
      induction ds with
      | nil => intro h; cases h
      | cons y ys ih =>
        intro h
        simp only [PyData.weightAll]
        rcases List.mem_cons.mp h with rfl | h
        · omega
        · have := ih h; omega
    exact Nat.le_trans (this hx) b3
end TI
namespace TI
open PySem
section
variable {call : Nat → List Vl → Mu → Option (Vl × Mu)} {cx : Nat → List Vl → Mu → Option (XR × Mu)} {b : Nat} {r : En} {m : Mu} {x y : Ex} {f : Nat}
theorem defQX_rt {kp : Bool} {Q : XR → Mu → Prop} {v : Vl} : defQX b kp Q (.rt v) m = wF b kp v m fun v m => Q (.ok v) m := rfl
theorem defQX_nx {kp : Bool} {Q : XR → Mu → Prop} : defQX b kp Q (.nx r) m = wF b kp (.t .none) m fun v m => Q (.ok v) m := rfl
theorem defQX_ex {kp : Bool} {Q : XR → Mu → Prop} {c : Str} {z : D ⊕ Nat} : defQX b kp Q (.ex r c z) m = (okX b z = true ∧ Q (.ex c z) (m.take b)) := rfl
theorem loopQ_ex {N : En → Mu → Prop} {Q : Fl → Mu → Prop} {c : Str} {z : D ⊕ Nat} : loopQ N Q (.ex r c z) m = Q (.ex r c z) m := rfl
theorem okX_inl {d : D} : okX b (.inl d) = true := rfl
theorem okX_inr {n : Nat} : okX b (.inr n) = decide (n < b) := rfl
theorem XR_ok {v w : Vl} : (XR.ok v = XR.ok w) = (v = w) := by simp
theorem wCX_of {vs : List Vl} {q : XR} {m1 : Mu} (h : wCX cx f vs m fun q' m' => q' = q ∧ m' = m1) : cx f vs m = some (q, m1) := by
  obtain ⟨v, m', e, rfl, rfl⟩ := h
  exact e
theorem wS_zip {Q} : wS call b (.zipS x y) r m Q ↔ wE call b x r m fun v m => wDn b m v fun d m => wE call b y r m fun u m => wDn b m u fun e m => ∃ ds, lstF d = some ds ∧ ∃ es, lstF e = some es ∧ ds.length = es.length ∧ Q (zipD ds es) m := by
  unfold wS wE wDn
  conv => lhs; unfold evalS
  constructor
  · rintro ⟨v, m', h, q⟩
    cases h1 : evalE call b x r m with
    | none => simp [h1] at h
    | some a =>
      obtain ⟨u, m1⟩ := a
      simp only [h1, Option.bind_eq_bind, Option.bind_some] at h
      cases h2 : down b m1 u with
      | none => simp [h2] at h
      | some a =>
        obtain ⟨d, m2⟩ := a
        simp only [h2, Option.bind_some] at h
        cases h3 : evalE call b y r m2 with
        | none => simp [h3] at h
        | some a =>
          obtain ⟨w, m3⟩ := a
          simp only [h3, Option.bind_some] at h
          cases h4 : down b m3 w with
          | none => simp [h4] at h
          | some a =>
            obtain ⟨e, m4⟩ := a
            simp only [h4, Option.bind_some] at h
            cases h5 : lstF d with
            | none => simp [h5] at h
            | some ds =>
              simp only [h5, Option.bind_some] at h
              cases h6 : lstF e with
              | none => simp [h6] at h
              | some es =>
                simp only [h6, Option.bind_some] at h
                split at h
                · rename_i hl
                  cases h
                  exact ⟨u, m1, rfl, d, m2, h2, w, m3, h3, e, m', h4, ds, h5, es, h6, hl, q⟩
                · cases h
  · rintro ⟨u, m1, h1, d, m2, h2, w, m3, h3, e, m4, h4, ds, h5, es, h6, hl, q⟩
    exact ⟨_, _, by simp only [h1, h2, h3, h4, h5, h6, Option.bind_eq_bind, Option.bind_some]; rw [if_pos hl], q⟩
theorem simL_nil : simL [] = some [] := rfl
theorem simL_t {d : D} {vs : List Vl} : simL (.t d :: vs) = (simL vs).map (.inl d :: ·) := by
  conv => lhs; unfold simL
  cases simL vs <;> rfl
theorem simL_loc {n : Nat} {vs : List Vl} : simL (.loc n :: vs) = (simL vs).map (.inr n :: ·) := by
  conv => lhs; unfold simL
  cases simL vs <;> rfl
theorem reprL_of {ds : List D} (h : reprOk (.list ds) = true) : reprOkL ds = true := by
  have ok : ((PyData.list ds).showable && decide ((PyData.list ds).depth ≤ 64) && decide ((PyData.list ds).shown.length ≤ 1000000) && (SeqAt.shaped (.list ds) || false)) = true := h
  simp only [Bool.and_eq_true, Bool.or_false] at ok
  unfold reprOkL
  simp [ok.1.1.1, ok.1.1.2, ok.1.2, ok.2]
end
end TI
namespace TI
open PySem
section
variable {call : Nat → List Vl → Mu → Option (Vl × Mu)} {b : Nat} {r : En} {m : Mu} {es : Exs}
theorem wN_dct {ks : List Str} {Q} : wN call b (.dct ks es) r m Q ↔ wD call b es r (m ++ [.dct [] false]) fun ds m' => m'[m.length]? = some (.dct [] false) ∧ (decide (m'.length = m.length + 1) && decide (ds.length = ks.length) && decide (ks.length ≤ 15) && decide ks.Nodup) = true ∧ Q (.dct (dpair ks ds) false) (m'.take m.length) := by
  unfold wN wD
  conv => lhs; unfold evalN
  constructor
  · rintro ⟨v, m', h, q⟩
    cases h1 : evalD call b es r (m ++ [.dct [] false]) with
    | none => simp [h1] at h
    | some a =>
      obtain ⟨ds, m1⟩ := a
      simp only [h1, Option.bind_eq_bind, Option.bind_some] at h
      refine ⟨ds, m1, rfl, ?_⟩
      split at h
      · rename_i hx
        split at h
        · rename_i hl
          cases h
          exact ⟨hx, hl, q⟩
        · cases h
      · cases h
  · rintro ⟨ds, m1, h1, h2, h3, q⟩
    exact ⟨_, _, by simp only [h1, Option.bind_eq_bind, Option.bind_some]; rw [h2]; simp only; rw [if_pos h3], q⟩
theorem fIdx_dctS {kvs : List (D × D)} {k : Str} : fIdx (.dict kvs) (.str k) = dLook kvs k := rfl
theorem dLook_cons {kvs : List (D × D)} {x k : Str} {v : D} : dLook ((.str x, v) :: kvs) k = if x = k then some v else dLook kvs k := rfl
theorem dpair_cons {k : Str} {ks : List Str} {d : D} {ds : List D} : dpair (k :: ks) (d :: ds) = (.str k, d) :: dpair ks ds := rfl
theorem dpair_nil : dpair [] [] = [] := rfl
theorem fIn_lst {a : D} {ds : List D} {v : Bool} (h : (eqOk a (.list ds) && ((ds.any fun z => PyData.eqv z a) == v)) = true) : fIn false a (.list ds) = some (.bool v) := by
  simp only [Bool.and_eq_true, beq_iff_eq] at h
  have e : fIn false a (.list ds) = if eqOk a (.list ds) then some (.bool (ds.any fun z => PyData.eqv z a)) else none := by cases a <;> rfl
  rw [e, if_pos h.1, h.2]
end
end TI
namespace TI
open PySem
section
variable {call : Nat → List Vl → Mu → Option (Vl × Mu)} {cx : Nat → List Vl → Mu → Option (XR × Mu)} {b : Nat} {r : En} {m : Mu} {e o k x : Ex} {i n : Nat} {d : D}
def wG (m : Mu) (v : Vl) (Q : List (D × D) → Prop) : Prop := ∃ kvs, view m v = some (.dict kvs) ∧ Q kvs
theorem wG_t {kvs : List (D × D)} {Q} : wG m (.t (.dict kvs)) Q ↔ Q kvs := by
  constructor
  · rintro ⟨a, h, q⟩
    have h : some (PyData.dict kvs) = some (PyData.dict a) := h
    cases h; exact q
  · intro q
    exact ⟨kvs, rfl, q⟩
theorem wG_loc {Q} : wG m (.loc n) Q ↔ ∃ kvs fz, m[n]? = some (.dct kvs fz) ∧ Q kvs := by
  constructor
  · rintro ⟨a, h, q⟩
    have h : (m[n]?).map Cell.data = some (PyData.dict a) := h
    cases hc : m[n]? with
    | none => rw [hc] at h; cases h
    | some c =>
      rw [hc] at h
      cases c with
      | lst xs f => cases h
      | dct kvs f => cases h; exact ⟨_, _, rfl, q⟩
  · rintro ⟨kvs, fz, h, q⟩
    refine ⟨kvs, ?_, q⟩
    show (m[n]?).map Cell.data = _
    rw [h]; rfl
theorem dctV_iff {v : Vl} : dctV m v = some () ↔ ∃ kvs, view m v = some (.dict kvs) := by
  unfold dctV
  constructor
  · intro h
    split at h
    · rename_i kvs hk; exact ⟨kvs, hk⟩
    · cases h
  · rintro ⟨kvs, h⟩
    rw [h]
theorem wE_get2 {Q} : wE call b (.get2 o k x) r m Q ↔ wE call b o r m fun v m => wG m v fun _ => wE call b k r m fun u m => wE call b x r m fun w m => wG m v fun kvs => ∃ z d, u = .t (.int z) ∧ w = .t d ∧ allK kvs = true ∧ Q (.t ((dLookI kvs z).getD d)) m := by
  unfold wE wG
  conv => lhs; unfold evalE
  constructor
  · rintro ⟨v, m', h, q⟩
    cases h1 : evalE call b o r m with
    | none => simp [h1] at h
    | some a =>
      obtain ⟨v1, m1⟩ := a
      simp only [h1, Option.bind_eq_bind, Option.bind_some] at h
      cases h2 : dctV m1 v1 with
      | none => simp [h2] at h
      | some _ =>
        obtain ⟨kv, hk⟩ := dctV_iff.mp h2
        simp only [h2, Option.bind_some] at h
        cases h3 : evalE call b k r m1 with
        | none => simp [h3] at h
        | some a =>
          obtain ⟨u, m2⟩ := a
          simp only [h3, Option.bind_some] at h
          cases h4 : evalE call b x r m2 with
          | none => simp [h4] at h
          | some a =>
            obtain ⟨w, m3⟩ := a
            simp only [h4, Option.bind_some] at h
            refine ⟨v1, m1, rfl, kv, hk, u, m2, h3, w, m3, h4, ?_⟩
            unfold get2F at h
            split at h
            · rename_i kvs z d hv
              split at h
              · rename_i ha
                cases h
                exact ⟨kvs, hv, z, d, rfl, rfl, ha, q⟩
              · cases h
            · cases h
  · rintro ⟨v1, m1, h1, kv, hk, u, m2, h3, w, m3, h4, kvs, hv, z, d, rfl, rfl, ha, q⟩
    refine ⟨_, _, ?_, q⟩
    simp only [h1, dctV_iff.mpr ⟨kv, hk⟩, h3, h4, Option.bind_eq_bind, Option.bind_some]
    unfold get2F
    rw [hv]
    simp [ha]
theorem lstV_iff {m : Mu} : lstV r i m = some () ↔ ∃ n, r[i]? = some (some (.loc n)) ∧ ∃ xs fz, m[n]? = some (.lst xs fz) := by
  unfold lstV
  constructor
  · intro h
    split at h
    · rename_i n hn
      split at h
      · rename_i xs fz hc
        exact ⟨n, hn, xs, fz, hc⟩
      · cases h
    · cases h
  · rintro ⟨n, hn, xs, fz, hc⟩
    rw [hn]
    simp only
    rw [hc]
theorem wE_popAt {Q} : wE call b (.popAt i e) r m Q ↔ ∃ n, r[i]? = some (some (.loc n)) ∧ (∃ xs fz, m[n]? = some (.lst xs fz)) ∧ wE call b e r m fun v m => ∃ z xs j d, v = .t (.int z) ∧ m[n]? = some (.lst xs false) ∧ small z = true ∧ L2.ixN xs.length z = some j ∧ xs[j]? = some d ∧ Q (.t d) (m.set n (.lst (xs.eraseIdx j) false)) := by
  unfold wE
  conv => lhs; unfold evalE
  constructor
  · rintro ⟨v, m', h, q⟩
    cases h1 : lstV r i m with
    | none => simp [h1] at h
    | some _ =>
      obtain ⟨n, hn, hc⟩ := lstV_iff.mp h1
      refine ⟨n, hn, hc, ?_⟩
      simp only [h1, Option.bind_eq_bind, Option.bind_some] at h
      cases h2 : evalE call b e r m with
      | none => simp [h2] at h
      | some a =>
        obtain ⟨u, m1⟩ := a
        simp only [h2, Option.bind_some] at h
        refine ⟨u, m1, rfl, ?_⟩
        unfold popF at h
        rw [hn] at h
        split at h
        · rename_i n' z e1
          cases e1
          split at h
          · rename_i xs hx
            split at h
            · rename_i hs
              split at h
              · rename_i j hj
                split at h
                · rename_i d hd
                  cases h
                  exact ⟨z, xs, j, d, rfl, hx, hs, hj, hd, q⟩
                · cases h
              · cases h
            · cases h
          · cases h
        · cases h
  · rintro ⟨n, hn, hc, u, m1, h2, z, xs, j, d, rfl, hx, hs, hj, hd, q⟩
    refine ⟨_, _, ?_, q⟩
    simp only [lstV_iff.mpr ⟨n, hn, hc⟩, h2, Option.bind_eq_bind, Option.bind_some]
    unfold popF
    rw [hn]
    simp only
    rw [hx]
    simp only [hs, if_true]
    rw [hj]
    simp only
    rw [hd]
theorem wN_srtU {Q} : wN call b (.srtU e) r m Q ↔ wE call b e r m fun v m => wDn b m v fun d m => ∃ c, srtF d = some c ∧ Q c m := by
  unfold wN wE wDn
  conv => lhs; unfold evalN
  constructor
  · rintro ⟨v, m', h, q⟩
    cases h1 : evalE call b e r m with
    | none => simp [h1] at h
    | some a =>
      obtain ⟨u, m1⟩ := a
      simp only [h1, Option.bind_eq_bind, Option.bind_some] at h
      cases h2 : down b m1 u with
      | none => simp [h2] at h
      | some a =>
        obtain ⟨d, m2⟩ := a
        simp only [h2, Option.bind_some] at h
        cases h3 : srtF d with
        | none => simp [h3] at h
        | some c => simp [h3] at h; obtain ⟨rfl, rfl⟩ := h; exact ⟨u, m1, rfl, d, m2, h2, c, h3, q⟩
  · rintro ⟨u, m1, h1, d, m2, h2, c, h3, q⟩
    exact ⟨_, _, by simp [h1, h2, h3], q⟩
theorem wX_putd {Q} : wX cx b (.putd i k e) r m Q ↔ wE (valC cx) b e r m fun v m => wDn b m v fun d m => ∃ n, r[i]? = some (some (.loc n)) ∧ wE (valC cx) b k r m fun kv m => ∃ z kvs, kv = .t (.int z) ∧ m[n]? = some (.dct kvs false) ∧ allK kvs = true ∧ kvs.length < 1000000 ∧ Q (.nx r) (m.set n (.dct (dPutI kvs z d) false)) := by
  unfold wX wE wDn
  conv => lhs; unfold execS
  constructor
  · rintro ⟨v, m', h, q⟩
    cases h1 : evalE (valC cx) b e r m with
    | none => simp [h1] at h
    | some a =>
      obtain ⟨u, m1⟩ := a
      simp only [h1, Option.bind_eq_bind, Option.bind_some] at h
      cases h2 : down b m1 u with
      | none => simp [h2] at h
      | some a =>
        obtain ⟨d, m2⟩ := a
        simp only [h2, Option.bind_some] at h
        refine ⟨u, m1, rfl, d, m2, h2, ?_⟩
        split at h
        · rename_i n hn
          refine ⟨n, hn, ?_⟩
          cases h3 : evalE (valC cx) b k r m2 with
          | none => simp [h3] at h
          | some a =>
            obtain ⟨kv, m3⟩ := a
            simp only [h3, Option.bind_some] at h
            refine ⟨kv, m3, rfl, ?_⟩
            split at h
            · rename_i z kvs hk
              split at h
              · rename_i ha
                cases h
                simp only [Bool.and_eq_true, decide_eq_true_eq] at ha
                exact ⟨z, kvs, rfl, hk, ha.1, ha.2, q⟩
              · cases h
            · cases h
        · cases h
  · rintro ⟨u, m1, h1, d, m2, h2, n, hn, kv, m3, h3, z, kvs, rfl, hk, ha, hl, q⟩
    refine ⟨_, _, ?_, q⟩
    simp only [h1, h2, hn, h3, hk, Option.bind_eq_bind, Option.bind_some]
    simp [ha, hl]
theorem wX_par3 {i j l : Nat} {x y z : Ex} {Q} : wX cx b (.par3 i j l x y z) r m Q ↔ wE (valC cx) b x r m fun v m => wE (valC cx) b y r m fun u m => wE (valC cx) b z r m fun w m => Q (.nx (((r.set i (some v)).set j (some u)).set l (some w))) m := by
  unfold wX wE
  conv => lhs; unfold execS
  constructor
  · rintro ⟨v, m', h, q⟩
    cases h1 : evalE (valC cx) b x r m with
    | none => simp [h1] at h
    | some a =>
      obtain ⟨u, m1⟩ := a
      simp only [h1, Option.bind_eq_bind, Option.bind_some] at h
      cases h2 : evalE (valC cx) b y r m1 with
      | none => simp [h2] at h
      | some a =>
        obtain ⟨w, m2⟩ := a
        simp only [h2, Option.bind_some] at h
        cases h3 : evalE (valC cx) b z r m2 with
        | none => simp [h3] at h
        | some a => obtain ⟨w', m3⟩ := a; simp [h3] at h; obtain ⟨rfl, rfl⟩ := h; exact ⟨u, m1, rfl, w, m2, h2, w', m3, h3, q⟩
  · rintro ⟨u, m1, h1, w, m2, h2, w', m3, h3, q⟩
    exact ⟨_, _, by simp [h1, h2, h3], q⟩
def wCp2 (call : Nat → List Vl → Mu → Option (Vl × Mu)) (b n : Nat) (src1 : Src) (elt : Ex) (tg tg1 : Tg) (r0 : En) (own1 : List Nat) (ds : List D) (m : Mu) (Q : Mu → Prop) : Prop := ∃ m', comp2Loop b n (fun r m => evalS call b src1 r m) (fun r m => evalE call b elt r m) tg tg1 r0 own1 ds m = some m' ∧ Q m'
theorem wN_comp2 {elt : Ex} {tg tg1 : Tg} {src src1 : Src} {own own1 : List Nat} {Q} : wN call b (.comp2 elt tg src tg1 src1 own own1) r m Q ↔ wS call b src r m fun ds m => wCp2 call b m.length src1 elt tg tg1 (wipeE r own) own1 ds (m ++ [.lst [] false]) fun m' => ∃ xs, m'[m.length]? = some (.lst xs false) ∧ m'.length = m.length + 1 ∧ Q (.lst xs false) (m'.take m.length) := by
  unfold wN wS wCp2
  conv => lhs; unfold evalN
  constructor
  · rintro ⟨v, m', h, q⟩
    cases h1 : evalS call b src r m with
    | none => simp [h1] at h
    | some a =>
      obtain ⟨ds, m1⟩ := a
      simp only [h1, Option.bind_eq_bind, Option.bind_some] at h
      refine ⟨ds, m1, rfl, ?_⟩
      rw [Option.bind_eq_some_iff] at h
      obtain ⟨m2, h2, h⟩ := h
      refine ⟨m2, h2, ?_⟩
      split at h
      · rename_i xs hx
        split at h
        · rename_i hl
          cases h; exact ⟨xs, hx, hl, q⟩
        · cases h
      · cases h
  · rintro ⟨ds, m1, h1, m2, h2, xs, h3, hl, q⟩
    exact ⟨_, _, by simp only [h1, Option.bind_eq_bind, Option.bind_some]; exact Option.bind_eq_some_iff.mpr ⟨m2, h2, by rw [h3]; simp [hl]⟩, q⟩
theorem wCp2_nil {elt : Ex} {tg tg1 : Tg} {src1 : Src} {r0 : En} {own1 : List Nat} {Q} : wCp2 call b n src1 elt tg tg1 r0 own1 [] m Q ↔ Q m := by simp [wCp2, comp2Loop]
theorem wCp2_cons {elt : Ex} {tg tg1 : Tg} {src1 : Src} {r0 : En} {own1 : List Nat} {ds : List D} {Q} : wCp2 call b n src1 elt tg tg1 r0 own1 (d :: ds) m Q ↔ ∃ r1, setTg r0 tg d = some r1 ∧ wS call b src1 r1 m fun es m => wCp call b n elt none tg1 (wipeE r1 own1) es m fun m => wCp2 call b n src1 elt tg tg1 r0 own1 ds m Q := by
  unfold wCp2 wS wCp
  constructor
  · rintro ⟨m', h, q⟩
    simp only [comp2Loop, Option.bind_eq_bind] at h
    rw [Option.bind_eq_some_iff] at h
    obtain ⟨r1, h1, h⟩ := h
    rw [Option.bind_eq_some_iff] at h
    obtain ⟨⟨es, m1⟩, h2, h⟩ := h
    rw [Option.bind_eq_some_iff] at h
    obtain ⟨m2, h3, h⟩ := h
    exact ⟨r1, h1, es, m1, h2, m2, h3, m', h, q⟩
  · rintro ⟨r1, h1, es, m1, h2, m2, h3, m', h, q⟩
    refine ⟨m', ?_, q⟩
    simp only [comp2Loop, Option.bind_eq_bind]
    exact Option.bind_eq_some_iff.mpr ⟨r1, h1, Option.bind_eq_some_iff.mpr ⟨(es, m1), h2, Option.bind_eq_some_iff.mpr ⟨m2, h3, h⟩⟩⟩
theorem nO_dict {ds : List D} {c : Cell} : opN .dictP [.list ds] = some c ↔ ∃ l, prI ds = some l ∧ c = .dct (l.foldl (fun acc p => dPutI acc p.1 p.2) []) false := by
  show (match prI ds with
    | some l => some (Cell.dct (l.foldl (fun acc p => dPutI acc p.1 p.2) []) false)
    | none => none) = some c ↔ _
  cases h : prI ds with
  | none => simp
  | some l => simp [eq_comm]
theorem wO_dict {ds : List D} {Q : D → Prop} : wO .dictP [.list ds] Q ↔ ∃ l, prI ds = some l ∧ Q (.dict (l.foldl (fun acc p => dPutI acc p.1 p.2) [])) := by
  have e : opR .dictP [.list ds] = (opN .dictP [.list ds]).map Cell.data := rfl
  unfold wO
  rw [e]
  constructor
  · rintro ⟨d, h, q⟩
    cases h1 : opN .dictP [.list ds] with
    | none => rw [h1] at h; cases h
    | some c =>
      rw [h1] at h
      obtain ⟨l, hl, rfl⟩ := nO_dict.mp h1
      cases h
      exact ⟨l, hl, q⟩
  · rintro ⟨l, hl, q⟩
    rw [nO_dict.mpr ⟨l, hl, rfl⟩]
    exact ⟨_, rfl, q⟩
end
end TI
namespace TI
open PySem
theorem wO_list {as : List D} {Q : D → Prop} : wO .list [.list as] Q ↔ Q (.list as) := by simp [wO, opR, opF, opN, nList, Cell.data]
theorem wO_listT {as : List D} {Q : D → Prop} : wO .list [.tuple as] Q ↔ Q (.list as) := by simp [wO, opR, opF, opN, nList, Cell.data]
theorem fEq_nil (neg : Bool) (ds : List D) : fEq neg (.list ds) (.list []) = some (.bool (if neg then !ds.isEmpty else ds.isEmpty)) := by
  have v : PyData.eqv (.list ds) (.list []) = ds.isEmpty := by cases ds <;> simp [PyData.eqv, PyData.eqvAll]
  simp only [fEq, v]
  split
  · rfl
  · rename_i h
    cases ds with
    | nil => exact absurd (by decide) h
    | cons d ds => cases neg <;> simp [lensOk]
theorem allStrs_int (n : Int) (ns : List D) : allStrs (.int n :: ns) = none := rfl
theorem wO_setlenI {ns : List Int} {Q : D → Prop} (h : ns.Nodup) (hl : ns.length < 60) (q : Q (.int ns.length)) : wO .setlen [.list (ns.map PyData.int)] Q := by
  refine ⟨.int ns.length, ?_, q⟩
  have e : opF .setlen [.list (ns.map PyData.int)] = some (.int ns.length) := by
    show fSetlen (.list (ns.map PyData.int)) = _
    unfold fSetlen
    cases ns with
    | nil => rfl
    | cons n ns =>
      simp only [List.map_cons, allStrs_int]
      rw [← List.map_cons, allInts_map]
      simp only
      rw [if_pos (by rw [decide_eq_true h, decide_eq_true hl]; rfl)]
  unfold opR
  rw [e]
theorem shaped_ints (ns : List Int) : SeqAt.shaped (.list (ns.map PyData.int)) = true := by
  have h1 : ∀ l : List Int, PyData.canLayAll0 (l.map PyData.int) = true := fun l => by
    induction l with
    | nil => rfl
    | cons a l ih => simpa [PyData.canLayAll0, PyData.canLay0] using ih
  have h2 : ∀ l : List Int, PyData.depthAll (l.map PyData.int) = 0 := fun l => by
    induction l with
    | nil => rfl
    | cons a l ih => simp [PyData.depthAll, PyData.depth, ih]
  simp [SeqAt.shaped, PyData.canLay0, PyData.depth, h1, h2]
theorem fIn_ints {x : Int} {ns : List Int} {neg : Bool} : fIn neg (.int x) (.list (ns.map PyData.int)) = some (.bool (if neg then !ns.contains x else ns.contains x)) := by
  have h1 : eqOk (.int x) (.list (ns.map PyData.int)) = true := by
    unfold eqOk
    rw [shaped_ints, Bool.and_true]
    rfl
  have h2 : (ns.map PyData.int).any (fun z => PyData.eqv z (.int x)) = ns.contains x := by
    rw [List.any_map, List.contains_eq_any_beq]
    congr 1
    funext z
    simp [PyData.eqv, Bool.beq_comm, eq_comm]
  simp only [fIn]
  rw [if_pos h1, h2]
end TI
namespace TI
open PySem
theorem wCp_pureIf1 {call : Nat → List Vl → Mu → Option (Vl × Mu)} {b : Nat} {m : Mu} {c1 : Cell} {elt cnd : Ex} {tg : Tg} {r0 : En} {Q : Mu → Prop} {f : D → D} {p : D → Bool} (ds : List D) (hl : ds.length < 1000000) (st : ∀ a, ∀ d ∈ ds, ∃ r1, setTg r0 tg d = some r1 ∧ wE call b cnd r1 (m ++ [c1, a]) (fun v m' => v = .t (.bool (p d)) ∧ m' = m ++ [c1, a]) ∧ (p d = true → wE call b elt r1 (m ++ [c1, a]) fun v m' => v = .t (f d) ∧ m' = m ++ [c1, a])) (q : Q (m ++ [c1, .lst ((ds.filter p).map f) false])) : wCp call b (m.length + 1) elt (some cnd) tg r0 ds (m ++ [c1, .lst [] false]) Q := by
  have := wCp_pureIf (call := call) (b := b) (m := m ++ [c1]) (elt := elt) (c := cnd) (tg := tg) (r0 := r0) (Q := Q) (f := f) (p := p) ds hl (fun a d hd => by rw [List.append_assoc]; exact st a d hd) (by rw [List.append_assoc]; exact q)
  rw [List.append_assoc, List.length_append] at this
  exact this
end TI
namespace TI
open PySem
section
variable {call : Nat → List Vl → Mu → Option (Vl × Mu)} {cx : Nat → List Vl → Mu → Option (XR × Mu)} {b : Nat} {r : En} {m : Mu} {e : Ex} {es : Exs} {i n : Nat} {d : D}
theorem wE_mkE {c : Str} {Q} : wE call b (.mkE c e) r m Q ↔ wE call b e r m fun v m => ∃ x, v.sim = some x ∧ Q (.er c x) m := by
  unfold wE
  conv => lhs; unfold evalE
  constructor
  · rintro ⟨v, m', h, q⟩
    cases h1 : evalE call b e r m with
    | none => simp [h1] at h
    | some a =>
      obtain ⟨u, m1⟩ := a
      simp only [h1, Option.bind_eq_bind, Option.bind_some] at h
      split at h
      · rename_i x hx
        cases h; exact ⟨u, _, rfl, x, hx, q⟩
      · cases h
  · rintro ⟨u, m1, h1, x, hx, q⟩
    exact ⟨_, _, by simp only [h1, Option.bind_eq_bind, Option.bind_some]; rw [hx], q⟩
theorem wE_mkB {c : Str} {Q} : wE call b (.mkB c) r m Q ↔ Q (.er c (.inl .none)) m := by simp [wE, evalE, and_assoc]
theorem wE_isv {cs : List Str} {Q} : wE call b (.isv cs e) r m Q ↔ wE call b e r m fun v m => ∃ c x, v = .er c x ∧ cs.contains c = true ∧ Q (.t (.bool true)) m := by
  unfold wE
  conv => lhs; unfold evalE
  constructor
  · rintro ⟨v, m', h, q⟩
    cases h1 : evalE call b e r m with
    | none => simp [h1] at h
    | some a =>
      obtain ⟨u, m1⟩ := a
      simp only [h1, Option.bind_eq_bind, Option.bind_some] at h
      split at h
      · rename_i c x
        split at h
        · rename_i hc
          cases h; exact ⟨_, _, rfl, c, x, rfl, hc, q⟩
        · cases h
      · cases h
  · rintro ⟨u, m1, h1, c, x, rfl, hc, q⟩
    exact ⟨_, _, by simp only [h1, Option.bind_eq_bind, Option.bind_some]; rw [if_pos hc], q⟩
theorem wE_pick {Q} : wE call b (.pick es e) r m Q ↔ wL call b es r m fun vs m => ∃ xs, simL vs = some xs ∧ xs.length ≤ 1000000 ∧ wE call b e r m fun v m => ∃ z x, v = .t (.int z) ∧ L2.atI xs z = some x ∧ Q (Vl.s x) m := by
  unfold wE wL
  conv => lhs; unfold evalE
  constructor
  · rintro ⟨v, m', h, q⟩
    cases h1 : evalL call b es r m with
    | none => simp [h1] at h
    | some a =>
      obtain ⟨vs, m1⟩ := a
      simp only [h1, Option.bind_eq_bind, Option.bind_some] at h
      cases h2 : simL vs with
      | none => simp [h2] at h
      | some xs =>
        simp only [h2, Option.bind_some] at h
        split at h
        · rename_i hl
          cases h3 : evalE call b e r m1 with
          | none => simp [h3] at h
          | some a =>
            obtain ⟨u, m2⟩ := a
            simp only [h3, Option.bind_some] at h
            split at h
            · rename_i z
              split at h
              · rename_i x hx
                cases h
                exact ⟨vs, m1, rfl, xs, h2, hl, _, _, h3, z, x, rfl, hx, q⟩
              · cases h
            · cases h
        · cases h
  · rintro ⟨vs, m1, h1, xs, h2, hl, u, m2, h3, z, x, rfl, hx, q⟩
    exact ⟨_, _, by simp [h1, h2, h3, hl, hx], q⟩
theorem eqv_bools : ∀ bs : List Bool, PyData.eqvAll (bs.map PyData.bool) (bs.map PyData.bool) = true
  | [] => rfl
  | b :: bs => by
    rw [List.map_cons]
    have := eqv_bools bs
    cases b <;> simp [PyData.eqvAll, PyData.eqv, this]
theorem shaped_bools (bs : List Bool) : SeqAt.shaped (.list (bs.map PyData.bool)) = true := by
  have h1 : ∀ l : List Bool, PyData.canLayAll0 (l.map PyData.bool) = true := fun l => by
    induction l with
    | nil => rfl
    | cons a l ih => simpa [PyData.canLayAll0, PyData.canLay0] using ih
  have h2 : ∀ l : List Bool, PyData.depthAll (l.map PyData.bool) = 0 := fun l => by
    induction l with
    | nil => rfl
    | cons a l ih => simp [PyData.depthAll, PyData.depth, ih]
  simp [SeqAt.shaped, PyData.canLay0, PyData.depth, h1, h2]
theorem fEq_bools (neg : Bool) (bs : List Bool) : fEq neg (.list (bs.map PyData.bool)) (.list (bs.map PyData.bool)) = some (.bool (!neg)) := by
  have h1 : eqOk (.list (bs.map PyData.bool)) (.list (bs.map PyData.bool)) = true := by
    unfold eqOk
    rw [shaped_bools]; rfl
  have h2 : PyData.eqv (.list (bs.map PyData.bool)) (.list (bs.map PyData.bool)) = true := by
    simp only [PyData.eqv]
    exact eqv_bools bs
  simp only [fEq]
  rw [if_pos h1, h2]
  cases neg <;> rfl
end
end TI
namespace TI
open PySem
section
variable {P : List Fn} {k ir ih : Nat} {m : Mu}
theorem bits20 : ((Builtin.Int.intBits 100000000000000000000 : Nat) : Int).fdiv 30 = 2 := by decide +kernel
theorem ev_hash2 (hp : P[ih]? = some ⟨2, 3, bHash, false⟩) {s i : Int} (h1 : s.natAbs < 2 ^ 62) (h2 : i.natAbs < 2 ^ 62) : ∃ r, callF P (k + 1) ih [.t (.int s), .t (.int i)] m = some (.t (.int r), m) ∧ 0 ≤ r ∧ r < 2147483647 := by
  have a1 : mulOk s 1140671 = true := mul_small (by omega)
  have a2 : mulOk 27644437 i = true := mul_small (by decide)
  have a3 : mulOk (27644437 * i) i = true := mul_both (by rw [Int.natAbs_mul, show (27644437 : Int).natAbs = 27644437 from rfl]; omega) (by omega)
  have a4 : mulOk 131 i = true := mul_small (by decide)
  have a5 : mulOk 62089 i = true := mul_small (by decide)
  generalize hx : (s * 1140671 + 27644437 * i * i + 131 * i + 19).fmod 2147483629 = x
  have bx := fmod_in (s * 1140671 + 27644437 * i * i + 131 * i + 19) (b := 2147483629) (by decide)
  rw [hx] at bx
  have a6 : mulOk x x = true := mul_small (by omega)
  generalize hy : (x * x + 62089 * i + 32416187).fmod 2147483587 = y
  have b_y := fmod_in (x * x + 62089 * i + 32416187) (b := 2147483587) (by decide)
  rw [hy] at b_y
  have a7 : mulOk y 48271 = true := mul_small (by omega)
  refine ⟨(y * 48271).fmod 2147483647, ?_, (fmod_in _ (by decide)).1, (fmod_in _ (by decide)).2⟩
  rw [call_eq hp rfl (by decide)]
  simp [bHash, TI.execs, TI.execS, TI.evalE, TI.evalL, TI.evalD, TI.evalN, TI.evalS, TI.views, TI.view, TI.down, TI.opF, TI.opN, TI.fAdd, TI.fMul, TI.fII, TI.fI, TI.fB, TI.f1, TI.f2, TI.fin_t, TI.Cell.data, TI.valC_callX, fToInt, a1, a2, a3, a4, a5, a6, a7, hx, hy]
theorem ev_random20 (hp : P[ir]? = some ⟨2, 4, bRandom ih, false⟩) (hh : P[ih]? = some ⟨2, 3, bHash, false⟩) {B : Int} {n : Nat} (hb : B < 2 ^ 60) (g : Gen B m n) :
    ∃ r c, callF P (k + 2) ir [.loc n, .t (.int 100000000000000000000)] m = some (.t (.int r), m.set n c) ∧ 0 ≤ r ∧ r < 100000000000000000000 ∧ Gen (B + 3) (m.set n c) n := by
  have hn := g.lt
  obtain ⟨a, s, c, e, g1, g2, g3, g4, g5⟩ := g
  have he : m[n] = .lst [.int a, .int s, .int c] false := (List.getElem?_eq_some_iff.mp e).2
  rw [call_eq hp rfl (show 2 ≤ 4 by decide)]
  by_cases ha : 0 < a
  · have d1 : divOk a 100000000000000000000 = true := div_ok (by omega) (by decide)
    refine ⟨a.fmod 100000000000000000000, .lst [.int (a.fdiv 100000000000000000000), .int s, .int c] false, ?_, (fmod_in a (by decide)).1, (fmod_in a (by decide)).2, a.fdiv 100000000000000000000, s, c, by rw [List.getElem?_set_self hn], Int.fdiv_nonneg g1 (by decide), g2, g3, g4, by omega⟩
    simp [bRandom, TI.execs, TI.execS, TI.evalE, TI.evalL, TI.evalD, TI.evalN, TI.evalS, TI.views, TI.view, TI.down, TI.opF, TI.opN, TI.fAdd, TI.fMul, TI.fII, TI.fI, TI.fB, TI.f1, TI.f2, TI.fin_t, TI.Cell.data, TI.valC_callX, fToInt, fIdx, L2.atI, L2.ixN, e, ha, d1]
    rw [List.take_of_length_le (by simp)]
  · have hz : a = 0 := by omega
    subst hz
    obtain ⟨r1, hr1, p1, q1⟩ := ev_hash2 (k := k) (m := m.set n (.lst [.int 0, .int s, .int (c + 1)] false)) hh (s := s) (i := c + 1) (by omega) (by omega)
    obtain ⟨r2, hr2, p2, q2⟩ := ev_hash2 (k := k) (m := m.set n (.lst [.int 0, .int s, .int (c + 1 + 1)] false)) hh (s := s) (i := c + 1 + 1) (by omega) (by omega)
    obtain ⟨r3, hr3, p3, q3⟩ := ev_hash2 (k := k) (m := m.set n (.lst [.int 0, .int s, .int (c + 1 + 1 + 1)] false)) hh (s := s) (i := c + 1 + 1 + 1) (by omega) (by omega)
    refine ⟨((r1 * 2147483587 + r2) * 2147483587 + r3).fmod 100000000000000000000, .lst [.int 0, .int s, .int (c + 1 + 1 + 1)] false, ?_, (fmod_in _ (by decide)).1, (fmod_in _ (by decide)).2, 0, s, c + 1 + 1 + 1, by rw [List.getElem?_set_self hn], by omega, g2, g3, by omega, by omega⟩
    have hm0 : mulOk 0 2147483587 = true := mul_small (by decide)
    have hm1 : mulOk r1 2147483587 = true := mul_small (by omega)
    have hm2 : mulOk (r1 * 2147483587 + r2) 2147483587 = true := mul_both (by omega) (by decide)
    have sm : small (3 : Int) = true := by decide
    have d30 : ∀ x, divOk x 30 = true := fun x => div_ok (by decide) (by decide)
    simp [bRandom, TI.execs, TI.execS, TI.evalE, TI.evalL, TI.evalD, TI.evalN, TI.evalS, TI.views, TI.view, TI.down, TI.opF, TI.opN, TI.fAdd, TI.fMul, TI.fII, TI.fI, TI.fB, TI.f1, TI.f2, TI.fin_t, TI.Cell.data, TI.valC_callX, fToInt, fIdx, L2.atI, L2.ixN, e, d30, bits20, rangeF, sm, rangeD, List.range, List.range.loop, forLoop, setTg, hr1, hr2, hr3, hn, he, hm0, hm1, hm2]
    rw [List.take_of_length_le (by simp)]
end
end TI
namespace K01
open PySem TI
def NM : List Str := ["InvalidNumber", "InvalidKind", "InvalidValue", "InvalidProgram", "InvalidName", "InvalidBill", "InvalidPaper", "InvalidRows", "InvalidText", "InvalidUnit", "InvalidList", "InvalidDeed", "InvalidFlag", "Unlike", "TooMany"]
def NMS : List Str := ["InvalidNumber", "InvalidKind", "InvalidValue", "InvalidProgram", "InvalidName", "InvalidBill", "InvalidPaper", "InvalidRows", "InvalidText", "InvalidUnit", "InvalidList", "InvalidDeed", "InvalidFlag", "Unlike", "TooMany", "NothingToUndo", "NothingToRedo"]
theorem lk0 : ∀ c ∈ NMS, List.lookup c ([("InvalidNumber", true), ("InvalidKind", false), ("InvalidValue", false), ("InvalidProgram", false), ("InvalidName", false), ("InvalidBill", false), ("InvalidPaper", false), ("InvalidRows", false), ("InvalidText", false), ("InvalidUnit", false), ("InvalidList", false), ("InvalidDeed", false), ("InvalidFlag", false), ("Unlike", false), ("TooMany", false), ("NothingToUndo", false), ("NothingToRedo", false)] : List (Str × Bool)) = some (c == ("InvalidNumber" : Str)) := by decide +kernel
theorem lk1 : ∀ c ∈ NMS, List.lookup c ([("InvalidNumber", false), ("InvalidKind", true), ("InvalidValue", false), ("InvalidProgram", false), ("InvalidName", false), ("InvalidBill", false), ("InvalidPaper", false), ("InvalidRows", false), ("InvalidText", false), ("InvalidUnit", false), ("InvalidList", false), ("InvalidDeed", false), ("InvalidFlag", false), ("Unlike", false), ("TooMany", false), ("NothingToUndo", false), ("NothingToRedo", false)] : List (Str × Bool)) = some (c == ("InvalidKind" : Str)) := by decide +kernel
theorem lk2 : ∀ c ∈ NMS, List.lookup c ([("InvalidNumber", false), ("InvalidKind", false), ("InvalidValue", true), ("InvalidProgram", false), ("InvalidName", false), ("InvalidBill", false), ("InvalidPaper", false), ("InvalidRows", false), ("InvalidText", false), ("InvalidUnit", false), ("InvalidList", false), ("InvalidDeed", false), ("InvalidFlag", false), ("Unlike", false), ("TooMany", false), ("NothingToUndo", false), ("NothingToRedo", false)] : List (Str × Bool)) = some (c == ("InvalidValue" : Str)) := by decide +kernel
theorem lk3 : ∀ c ∈ NMS, List.lookup c ([("InvalidNumber", false), ("InvalidKind", false), ("InvalidValue", false), ("InvalidProgram", true), ("InvalidName", false), ("InvalidBill", false), ("InvalidPaper", false), ("InvalidRows", false), ("InvalidText", false), ("InvalidUnit", false), ("InvalidList", false), ("InvalidDeed", false), ("InvalidFlag", false), ("Unlike", false), ("TooMany", false), ("NothingToUndo", false), ("NothingToRedo", false)] : List (Str × Bool)) = some (c == ("InvalidProgram" : Str)) := by decide +kernel
theorem lk4 : ∀ c ∈ NMS, List.lookup c ([("InvalidNumber", false), ("InvalidKind", false), ("InvalidValue", false), ("InvalidProgram", false), ("InvalidName", true), ("InvalidBill", false), ("InvalidPaper", false), ("InvalidRows", false), ("InvalidText", false), ("InvalidUnit", false), ("InvalidList", false), ("InvalidDeed", false), ("InvalidFlag", false), ("Unlike", false), ("TooMany", false), ("NothingToUndo", false), ("NothingToRedo", false)] : List (Str × Bool)) = some (c == ("InvalidName" : Str)) := by decide +kernel
theorem lk5 : ∀ c ∈ NMS, List.lookup c ([("InvalidNumber", false), ("InvalidKind", false), ("InvalidValue", false), ("InvalidProgram", false), ("InvalidName", false), ("InvalidBill", true), ("InvalidPaper", false), ("InvalidRows", false), ("InvalidText", false), ("InvalidUnit", false), ("InvalidList", false), ("InvalidDeed", false), ("InvalidFlag", false), ("Unlike", false), ("TooMany", false), ("NothingToUndo", false), ("NothingToRedo", false)] : List (Str × Bool)) = some (c == ("InvalidBill" : Str)) := by decide +kernel
theorem lk6 : ∀ c ∈ NMS, List.lookup c ([("InvalidNumber", false), ("InvalidKind", false), ("InvalidValue", false), ("InvalidProgram", false), ("InvalidName", false), ("InvalidBill", false), ("InvalidPaper", true), ("InvalidRows", false), ("InvalidText", false), ("InvalidUnit", false), ("InvalidList", false), ("InvalidDeed", false), ("InvalidFlag", false), ("Unlike", false), ("TooMany", false), ("NothingToUndo", false), ("NothingToRedo", false)] : List (Str × Bool)) = some (c == ("InvalidPaper" : Str)) := by decide +kernel
theorem lk7 : ∀ c ∈ NMS, List.lookup c ([("InvalidNumber", false), ("InvalidKind", false), ("InvalidValue", false), ("InvalidProgram", false), ("InvalidName", false), ("InvalidBill", false), ("InvalidPaper", false), ("InvalidRows", true), ("InvalidText", false), ("InvalidUnit", false), ("InvalidList", false), ("InvalidDeed", false), ("InvalidFlag", false), ("Unlike", false), ("TooMany", false), ("NothingToUndo", false), ("NothingToRedo", false)] : List (Str × Bool)) = some (c == ("InvalidRows" : Str)) := by decide +kernel
theorem lk8 : ∀ c ∈ NMS, List.lookup c ([("InvalidNumber", false), ("InvalidKind", false), ("InvalidValue", false), ("InvalidProgram", false), ("InvalidName", false), ("InvalidBill", false), ("InvalidPaper", false), ("InvalidRows", false), ("InvalidText", true), ("InvalidUnit", false), ("InvalidList", false), ("InvalidDeed", false), ("InvalidFlag", false), ("Unlike", false), ("TooMany", false), ("NothingToUndo", false), ("NothingToRedo", false)] : List (Str × Bool)) = some (c == ("InvalidText" : Str)) := by decide +kernel
theorem lk9 : ∀ c ∈ NMS, List.lookup c ([("InvalidNumber", false), ("InvalidKind", false), ("InvalidValue", false), ("InvalidProgram", false), ("InvalidName", false), ("InvalidBill", false), ("InvalidPaper", false), ("InvalidRows", false), ("InvalidText", false), ("InvalidUnit", true), ("InvalidList", false), ("InvalidDeed", false), ("InvalidFlag", false), ("Unlike", false), ("TooMany", false), ("NothingToUndo", false), ("NothingToRedo", false)] : List (Str × Bool)) = some (c == ("InvalidUnit" : Str)) := by decide +kernel
theorem lk10 : ∀ c ∈ NMS, List.lookup c ([("InvalidNumber", false), ("InvalidKind", false), ("InvalidValue", false), ("InvalidProgram", false), ("InvalidName", false), ("InvalidBill", false), ("InvalidPaper", false), ("InvalidRows", false), ("InvalidText", false), ("InvalidUnit", false), ("InvalidList", true), ("InvalidDeed", false), ("InvalidFlag", false), ("Unlike", false), ("TooMany", false), ("NothingToUndo", false), ("NothingToRedo", false)] : List (Str × Bool)) = some (c == ("InvalidList" : Str)) := by decide +kernel
theorem lk11 : ∀ c ∈ NMS, List.lookup c ([("InvalidNumber", false), ("InvalidKind", false), ("InvalidValue", false), ("InvalidProgram", false), ("InvalidName", false), ("InvalidBill", false), ("InvalidPaper", false), ("InvalidRows", false), ("InvalidText", false), ("InvalidUnit", false), ("InvalidList", false), ("InvalidDeed", true), ("InvalidFlag", false), ("Unlike", false), ("TooMany", false), ("NothingToUndo", false), ("NothingToRedo", false)] : List (Str × Bool)) = some (c == ("InvalidDeed" : Str)) := by decide +kernel
theorem lk12 : ∀ c ∈ NMS, List.lookup c ([("InvalidNumber", false), ("InvalidKind", false), ("InvalidValue", false), ("InvalidProgram", false), ("InvalidName", false), ("InvalidBill", false), ("InvalidPaper", false), ("InvalidRows", false), ("InvalidText", false), ("InvalidUnit", false), ("InvalidList", false), ("InvalidDeed", false), ("InvalidFlag", true), ("Unlike", false), ("TooMany", false), ("NothingToUndo", false), ("NothingToRedo", false)] : List (Str × Bool)) = some (c == ("InvalidFlag" : Str)) := by decide +kernel
theorem lk13 : ∀ c ∈ NMS, List.lookup c ([("InvalidNumber", false), ("InvalidKind", false), ("InvalidValue", false), ("InvalidProgram", false), ("InvalidName", false), ("InvalidBill", false), ("InvalidPaper", false), ("InvalidRows", false), ("InvalidText", false), ("InvalidUnit", false), ("InvalidList", false), ("InvalidDeed", false), ("InvalidFlag", false), ("Unlike", true), ("TooMany", false), ("NothingToUndo", false), ("NothingToRedo", false)] : List (Str × Bool)) = some (c == ("Unlike" : Str)) := by decide +kernel
theorem lk14 : ∀ c ∈ NMS, List.lookup c ([("InvalidNumber", false), ("InvalidKind", false), ("InvalidValue", false), ("InvalidProgram", false), ("InvalidName", false), ("InvalidBill", false), ("InvalidPaper", false), ("InvalidRows", false), ("InvalidText", false), ("InvalidUnit", false), ("InvalidList", false), ("InvalidDeed", false), ("InvalidFlag", false), ("Unlike", false), ("TooMany", true), ("NothingToUndo", false), ("NothingToRedo", false)] : List (Str × Bool)) = some (c == ("TooMany" : Str)) := by decide +kernel
theorem lk15 : ∀ c ∈ NMS, List.lookup c ([("InvalidNumber", false), ("InvalidKind", false), ("InvalidValue", false), ("InvalidProgram", false), ("InvalidName", false), ("InvalidBill", false), ("InvalidPaper", false), ("InvalidRows", false), ("InvalidText", false), ("InvalidUnit", false), ("InvalidList", false), ("InvalidDeed", false), ("InvalidFlag", false), ("Unlike", false), ("TooMany", false), ("NothingToUndo", true), ("NothingToRedo", false)] : List (Str × Bool)) = some (c == ("NothingToUndo" : Str)) := by decide +kernel
theorem lk16 : ∀ c ∈ NMS, List.lookup c ([("InvalidNumber", false), ("InvalidKind", false), ("InvalidValue", false), ("InvalidProgram", false), ("InvalidName", false), ("InvalidBill", false), ("InvalidPaper", false), ("InvalidRows", false), ("InvalidText", false), ("InvalidUnit", false), ("InvalidList", false), ("InvalidDeed", false), ("InvalidFlag", false), ("Unlike", false), ("TooMany", false), ("NothingToUndo", false), ("NothingToRedo", true)] : List (Str × Bool)) = some (c == ("NothingToRedo" : Str)) := by decide +kernel
theorem lkB : ∀ c ∈ NMS, List.lookup c ([("InvalidNumber", true), ("InvalidKind", true), ("InvalidValue", true), ("InvalidProgram", true), ("InvalidName", true), ("InvalidBill", true), ("InvalidPaper", true), ("InvalidRows", true), ("InvalidText", true), ("InvalidUnit", true), ("InvalidList", true), ("InvalidDeed", true), ("InvalidFlag", true), ("Unlike", true), ("TooMany", true), ("NothingToUndo", true), ("NothingToRedo", true)] : List (Str × Bool)) = some true := by decide +kernel
theorem hasV : ∀ c ∈ NM, List.contains (["InvalidNumber", "InvalidKind", "InvalidValue", "InvalidProgram", "InvalidName", "InvalidBill", "InvalidPaper", "InvalidRows", "InvalidText", "InvalidUnit", "InvalidList", "InvalidDeed", "InvalidFlag", "Unlike", "TooMany"] : List Str) c = true := by decide +kernel
theorem hasE : ∀ c ∈ (("BillError" : Str) :: NMS), List.contains (["InvalidNumber", "InvalidKind", "InvalidValue", "InvalidProgram", "InvalidName", "InvalidBill", "InvalidPaper", "InvalidRows", "InvalidText", "InvalidUnit", "InvalidList", "InvalidDeed", "InvalidFlag", "Unlike", "TooMany", "BillError", "NothingToUndo", "NothingToRedo"] : List Str) c = true := by decide +kernel
def flB (c : Str) : List Bool := NMS.map fun q => c == q
def flD (c : Str) : D := .list ((flB c).map PyData.bool)
section
variable (k : Nat) (m : Mu)
theorem e6 (c : Str) (x : D ⊕ Nat) (hc : c ∈ NMS) : callX prog (k + 1) 6 [.er c x] m = some (.ok (.t (flD c)), m) := by
  refine wCX_of (wCX_def (fn := ⟨1, 2, b6, false⟩) rfl rfl (by decide) ?_)
  unfold b6
  have h0 := lk0 c hc
  have h1 := lk1 c hc
  have h2 := lk2 c hc
  have h3 := lk3 c hc
  have h4 := lk4 c hc
  have h5 := lk5 c hc
  have h6 := lk6 c hc
  have h7 := lk7 c hc
  have h8 := lk8 c hc
  have h9 := lk9 c hc
  have h10 := lk10 c hc
  have h11 := lk11 c hc
  have h12 := lk12 c hc
  have h13 := lk13 c hc
  have h14 := lk14 c hc
  have h15 := lk15 c hc
  have h16 := lk16 c hc
  have e : flD c = .list [.bool (c == ("InvalidNumber" : Str)), .bool (c == ("InvalidKind" : Str)), .bool (c == ("InvalidValue" : Str)), .bool (c == ("InvalidProgram" : Str)), .bool (c == ("InvalidName" : Str)), .bool (c == ("InvalidBill" : Str)), .bool (c == ("InvalidPaper" : Str)), .bool (c == ("InvalidRows" : Str)), .bool (c == ("InvalidText" : Str)), .bool (c == ("InvalidUnit" : Str)), .bool (c == ("InvalidList" : Str)), .bool (c == ("InvalidDeed" : Str)), .bool (c == ("InvalidFlag" : Str)), .bool (c == ("Unlike" : Str)), .bool (c == ("TooMany" : Str)), .bool (c == ("NothingToUndo" : Str)), .bool (c == ("NothingToRedo" : Str))] := rfl
  rw [e]
  generalize (c == ("InvalidNumber" : Str)) = k0 at h0 ⊢
  generalize (c == ("InvalidKind" : Str)) = k1 at h1 ⊢
  generalize (c == ("InvalidValue" : Str)) = k2 at h2 ⊢
  generalize (c == ("InvalidProgram" : Str)) = k3 at h3 ⊢
  generalize (c == ("InvalidName" : Str)) = k4 at h4 ⊢
  generalize (c == ("InvalidBill" : Str)) = k5 at h5 ⊢
  generalize (c == ("InvalidPaper" : Str)) = k6 at h6 ⊢
  generalize (c == ("InvalidRows" : Str)) = k7 at h7 ⊢
  generalize (c == ("InvalidText" : Str)) = k8 at h8 ⊢
  generalize (c == ("InvalidUnit" : Str)) = k9 at h9 ⊢
  generalize (c == ("InvalidList" : Str)) = k10 at h10 ⊢
  generalize (c == ("InvalidDeed" : Str)) = k11 at h11 ⊢
  generalize (c == ("InvalidFlag" : Str)) = k12 at h12 ⊢
  generalize (c == ("Unlike" : Str)) = k13 at h13 ⊢
  generalize (c == ("TooMany" : Str)) = k14 at h14 ⊢
  generalize (c == ("NothingToUndo" : Str)) = k15 at h15 ⊢
  generalize (c == ("NothingToRedo" : Str)) = k16 at h16 ⊢
  simp only [TI.freeze_lst, TI.wO_mulS, TI.data_dct, TI.wN_rep, TI.wE_var, TI.wE_con, TI.wE_op, TI.wE_and, TI.wE_or, TI.wE_ife, TI.wE_chain, TI.wE_tup, TI.wE_new, TI.wE_mk, TI.wE_frz, TI.wE_call, TI.wE_callk, TI.wL_nil, TI.wL_cons, TI.wD_nil, TI.wD_cons, TI.wDn_t, TI.wDn_loc, TI.wV_nil, TI.wV_t, TI.wV_loc, TI.wN_lst, TI.wN_op, TI.wN_dct0, TI.wN_comp, TI.wS_val, TI.wS_range, TI.wS_enum, TI.wX_set, TI.wX_exp, TI.wX_ret, TI.wX_unp, TI.wX_par, TI.wX_app, TI.wX_ext, TI.wX_put, TI.wX_iff, TI.wX_for, TI.wX_whl, TI.wX_pass, TI.wX_brk, TI.wX_cont, TI.wXs_nil, TI.wXs_cons, TI.seqQ_nx, TI.seqQ_rt, TI.seqQ_bk, TI.seqQ_ct, TI.wF_t, TI.wO_addI, TI.wO_addL, TI.wO_addS, TI.wO_sub, TI.wO_neg, TI.wO_mul, TI.wO_fdiv, TI.wO_mod, TI.wO_eq, TI.wO_ne, TI.wO_inn, TI.wO_nin, TI.wO_idx, TI.wO_len, TI.wO_toInt, TI.wO_toStr, TI.wO_lt, TI.wO_le, TI.wO_gt, TI.wO_ge, TI.wO_isN, TI.wO_notN, TI.wO_isB, TI.wO_notB, TI.wO_not, TI.wO_isi, TI.wO_repr, TI.wO_tuple, TI.wO_max2, TI.wO_min2, TI.nO_add, TI.nO_list, TI.nO_listT, TI.nO_rev, TI.nO_lo, TI.nO_hi, TI.nO_lohi, TI.fLen_list, TI.fLen_tuple, TI.fIdx_list, TI.fIdx_tuple, TI.fEq_str, TI.fEq_int, TI.srcF_list, TI.srcF_tuple, TI.lstF_list, TI.setTg_one, TI.setTg_many, TI.setMany_nil, TI.setMany_cons, TI.wipe_nil, TI.wipe_cons, TI.data_lst, TI.defQ_rt, TI.defQ_nx, TI.loopQ_nx, TI.loopQ_ct, TI.loopQ_bk, TI.loopQ_rt, TI.wX_rs, TI.wX_expx, TI.wX_retx, TI.wX_tri, TI.triQ_ex, TI.triQ_nx, TI.triQ_rt, TI.exF_ok, TI.exF_ex, TI.retF_ok, TI.retF_ex, TI.sim_t, TI.sim_loc, TI.s_inl, TI.s_inr, TI.wE_isx, TI.wE_fld, TI.wE_isNe, TI.wE_tupv, TI.wE_idxv, TI.wE_reprL, TI.seqQ_ex, TI.loopQ_ex, TI.wF_er, TI.wF_tv, TI.defQX_rt, TI.defQX_nx, TI.defQX_ex, TI.wC_X, TI.wS_zip, TI.okX_inl, TI.okX_inr, TI.XR_ok, TI.wE_get2, TI.wE_popAt, TI.wN_srtU, TI.wX_putd, TI.wX_par3, TI.wN_comp2, TI.wG_t, TI.wG_loc, TI.nO_dict, TI.wO_dict, TI.wE_mkE, TI.wE_mkB, TI.wE_isv, TI.wE_pick, List.getElem?_cons_zero, List.getElem?_cons_succ, List.set_cons_zero, List.set_cons_succ, TI.len_cons, TI.cons_get, TI.cons_set, TI.app_get, TI.app_get0, TI.app_set, TI.app_set0, TI.eq_add1, List.length_nil, List.map_cons, List.map_nil, List.replicate_succ, List.replicate_zero, List.cons_append, List.nil_append, Option.some.injEq, Vl.t.injEq, Vl.loc.injEq, PyData.bool.injEq, PyData.int.injEq, PyData.list.injEq, PyData.tuple.injEq, PyData.str.injEq, exists_eq, exists_eq', exists_eq_left, exists_eq_left', exists_eq_right, exists_eq_right', forall_eq, forall_eq', forall_const, true_and, and_true, Bool.true_eq_false, Bool.false_eq_true, reduceCtorEq, false_implies, true_implies, forall_eq_apply_imp_iff, List.append_assoc, TI.Cell.lst.injEq, List.getElem?_concat_length, List.take_left, List.length_append, TI.set_last, Nat.le_refl, Nat.lt_irrefl, not_true_eq_false, not_false_eq_true, if_true, if_false, ne_eq, Bool.not_true, Bool.not_false, Bool.not_eq_true, Bool.not_eq_false, decide_eq_true_eq, decide_true, decide_false, List.filterMap_cons, List.filterMap_nil, decide_eq_false_iff_not, if_neg, if_pos, Nat.reduceLeDiff, Int.reduceLE, Int.reduceLT, Int.reduceToNat, Int.reduceNeg, List.flatten_cons, List.flatten_nil, List.take_succ_cons, List.take_zero, Nat.reduceAdd, Nat.reduceLT, Nat.reduceEqDiff, Nat.zero_le, Nat.zero_add, Nat.add_zero, Nat.reduceSub, TI.W_len, TI.W_get0, TI.W_get, TI.W_set0, TI.W_set, TI.W_app, TI.W_take0, TI.W_take, TI.lt_loc, TI.lt_loc0, TI.le_loc, TI.le_loc0, h0, h1, h2, h3, h4, h5, h6, h7, h8, h9, h10, h11, h12, h13, h14, h15, h16, List.take_length, eq_self]
end
end K01
namespace K01
open PySem TI
def nmJ (j : Nat) : Str := NM.getD j "TooMany"
theorem nm_mem : ∀ j < 15, nmJ j ∈ NM := by decide +kernel
theorem nm_memS : ∀ j < 15, nmJ j ∈ NMS := by decide +kernel
theorem fl_at : ∀ j < 15, flB (nmJ j) = (List.range 17).map fun i => decide (i = j) := by decide +kernel
section
variable (k : Nat) (m : Mu) {v : Vl} {x : D ⊕ Nat}
theorem e4 (j : Nat) (hj : j < 8) (hx : v.sim = some x) (hb : okX m.length x = true) : callX prog (k + 1) 4 [.t (.int j), v] m = some (.ok (.er (nmJ j) x), m) := by
  refine wCX_of (wCX_def (fn := ⟨2, 2, b4, false⟩) rfl rfl (by decide) ?_)
  unfold b4
  have hj : j = 0 ∨ j = 1 ∨ j = 2 ∨ j = 3 ∨ j = 4 ∨ j = 5 ∨ j = 6 ∨ j = 7 := by omega
  rcases hj with rfl | rfl | rfl | rfl | rfl | rfl | rfl | rfl <;> (simp [TI.freeze_lst, TI.wO_mulS, TI.data_dct, TI.wN_rep, TI.wE_var, TI.wE_con, TI.wE_op, TI.wE_and, TI.wE_or, TI.wE_ife, TI.wE_chain, TI.wE_tup, TI.wE_new, TI.wE_mk, TI.wE_frz, TI.wE_call, TI.wE_callk, TI.wL_nil, TI.wL_cons, TI.wD_nil, TI.wD_cons, TI.wDn_t, TI.wDn_loc, TI.wV_nil, TI.wV_t, TI.wV_loc, TI.wN_lst, TI.wN_op, TI.wN_dct0, TI.wN_comp, TI.wS_val, TI.wS_range, TI.wS_enum, TI.wX_set, TI.wX_exp, TI.wX_ret, TI.wX_unp, TI.wX_par, TI.wX_app, TI.wX_ext, TI.wX_put, TI.wX_iff, TI.wX_for, TI.wX_whl, TI.wX_pass, TI.wX_brk, TI.wX_cont, TI.wXs_nil, TI.wXs_cons, TI.seqQ_nx, TI.seqQ_rt, TI.seqQ_bk, TI.seqQ_ct, TI.wF_t, TI.wO_addI, TI.wO_addL, TI.wO_addS, TI.wO_sub, TI.wO_neg, TI.wO_mul, TI.wO_fdiv, TI.wO_mod, TI.wO_eq, TI.wO_ne, TI.wO_inn, TI.wO_nin, TI.wO_idx, TI.wO_len, TI.wO_toInt, TI.wO_toStr, TI.wO_lt, TI.wO_le, TI.wO_gt, TI.wO_ge, TI.wO_isN, TI.wO_notN, TI.wO_isB, TI.wO_notB, TI.wO_not, TI.wO_isi, TI.wO_repr, TI.wO_tuple, TI.wO_max2, TI.wO_min2, TI.nO_add, TI.nO_list, TI.nO_listT, TI.nO_rev, TI.nO_lo, TI.nO_hi, TI.nO_lohi, TI.fLen_list, TI.fLen_tuple, TI.fIdx_list, TI.fIdx_tuple, TI.fEq_str, TI.fEq_int, TI.srcF_list, TI.srcF_tuple, TI.lstF_list, TI.setTg_one, TI.setTg_many, TI.setMany_nil, TI.setMany_cons, TI.wipe_nil, TI.wipe_cons, TI.data_lst, TI.defQ_rt, TI.defQ_nx, TI.loopQ_nx, TI.loopQ_ct, TI.loopQ_bk, TI.loopQ_rt, TI.wX_rs, TI.wX_expx, TI.wX_retx, TI.wX_tri, TI.triQ_ex, TI.triQ_nx, TI.triQ_rt, TI.exF_ok, TI.exF_ex, TI.retF_ok, TI.retF_ex, TI.sim_t, TI.sim_loc, TI.s_inl, TI.s_inr, TI.wE_isx, TI.wE_fld, TI.wE_isNe, TI.wE_tupv, TI.wE_idxv, TI.wE_reprL, TI.seqQ_ex, TI.loopQ_ex, TI.wF_er, TI.wF_tv, TI.defQX_rt, TI.defQX_nx, TI.defQX_ex, TI.wC_X, TI.wS_zip, TI.okX_inl, TI.okX_inr, TI.XR_ok, TI.wE_get2, TI.wE_popAt, TI.wN_srtU, TI.wX_putd, TI.wX_par3, TI.wN_comp2, TI.wG_t, TI.wG_loc, TI.nO_dict, TI.wO_dict, TI.wE_mkE, TI.wE_mkB, TI.wE_isv, TI.wE_pick, List.getElem?_cons_zero, List.getElem?_cons_succ, List.set_cons_zero, List.set_cons_succ, TI.len_cons, TI.cons_get, TI.cons_set, TI.app_get, TI.app_get0, TI.app_set, TI.app_set0, TI.eq_add1, List.length_nil, List.map_cons, List.map_nil, List.replicate_succ, List.replicate_zero, List.cons_append, List.nil_append, Option.some.injEq, Vl.t.injEq, Vl.loc.injEq, PyData.bool.injEq, PyData.int.injEq, PyData.list.injEq, PyData.tuple.injEq, PyData.str.injEq, exists_eq, exists_eq', exists_eq_left, exists_eq_left', exists_eq_right, exists_eq_right', forall_eq, forall_eq', forall_const, true_and, and_true, Bool.true_eq_false, Bool.false_eq_true, reduceCtorEq, false_implies, true_implies, forall_eq_apply_imp_iff, List.append_assoc, TI.Cell.lst.injEq, List.getElem?_concat_length, List.take_left, List.length_append, TI.set_last, Nat.le_refl, Nat.lt_irrefl, not_true_eq_false, not_false_eq_true, if_true, if_false, ne_eq, Bool.not_true, Bool.not_false, Bool.not_eq_true, Bool.not_eq_false, decide_eq_true_eq, decide_true, decide_false, List.filterMap_cons, List.filterMap_nil, decide_eq_false_iff_not, if_neg, if_pos, Nat.reduceLeDiff, Int.reduceLE, Int.reduceLT, Int.reduceToNat, Int.reduceNeg, List.flatten_cons, List.flatten_nil, List.take_succ_cons, List.take_zero, Nat.reduceAdd, Nat.reduceLT, Nat.reduceEqDiff, Nat.zero_le, Nat.zero_add, Nat.add_zero, Nat.reduceSub, TI.W_len, TI.W_get0, TI.W_get, TI.W_set0, TI.W_set, TI.W_app, TI.W_take0, TI.W_take, TI.lt_loc, TI.lt_loc0, TI.le_loc, TI.le_loc0, hx, hb, List.take_length]; rfl)
theorem e5 (j : Nat) (hj : j < 15) (h8 : 8 ≤ j) (hx : v.sim = some x) (hb : okX m.length x = true) : callX prog (k + 1) 5 [.t (.int j), v] m = some (.ok (.er (nmJ j) x), m) := by
  refine wCX_of (wCX_def (fn := ⟨2, 2, b5, false⟩) rfl rfl (by decide) ?_)
  unfold b5
  have hj : j = 8 ∨ j = 9 ∨ j = 10 ∨ j = 11 ∨ j = 12 ∨ j = 13 ∨ j = 14 := by omega
  rcases hj with rfl | rfl | rfl | rfl | rfl | rfl | rfl <;> (simp [TI.freeze_lst, TI.wO_mulS, TI.data_dct, TI.wN_rep, TI.wE_var, TI.wE_con, TI.wE_op, TI.wE_and, TI.wE_or, TI.wE_ife, TI.wE_chain, TI.wE_tup, TI.wE_new, TI.wE_mk, TI.wE_frz, TI.wE_call, TI.wE_callk, TI.wL_nil, TI.wL_cons, TI.wD_nil, TI.wD_cons, TI.wDn_t, TI.wDn_loc, TI.wV_nil, TI.wV_t, TI.wV_loc, TI.wN_lst, TI.wN_op, TI.wN_dct0, TI.wN_comp, TI.wS_val, TI.wS_range, TI.wS_enum, TI.wX_set, TI.wX_exp, TI.wX_ret, TI.wX_unp, TI.wX_par, TI.wX_app, TI.wX_ext, TI.wX_put, TI.wX_iff, TI.wX_for, TI.wX_whl, TI.wX_pass, TI.wX_brk, TI.wX_cont, TI.wXs_nil, TI.wXs_cons, TI.seqQ_nx, TI.seqQ_rt, TI.seqQ_bk, TI.seqQ_ct, TI.wF_t, TI.wO_addI, TI.wO_addL, TI.wO_addS, TI.wO_sub, TI.wO_neg, TI.wO_mul, TI.wO_fdiv, TI.wO_mod, TI.wO_eq, TI.wO_ne, TI.wO_inn, TI.wO_nin, TI.wO_idx, TI.wO_len, TI.wO_toInt, TI.wO_toStr, TI.wO_lt, TI.wO_le, TI.wO_gt, TI.wO_ge, TI.wO_isN, TI.wO_notN, TI.wO_isB, TI.wO_notB, TI.wO_not, TI.wO_isi, TI.wO_repr, TI.wO_tuple, TI.wO_max2, TI.wO_min2, TI.nO_add, TI.nO_list, TI.nO_listT, TI.nO_rev, TI.nO_lo, TI.nO_hi, TI.nO_lohi, TI.fLen_list, TI.fLen_tuple, TI.fIdx_list, TI.fIdx_tuple, TI.fEq_str, TI.fEq_int, TI.srcF_list, TI.srcF_tuple, TI.lstF_list, TI.setTg_one, TI.setTg_many, TI.setMany_nil, TI.setMany_cons, TI.wipe_nil, TI.wipe_cons, TI.data_lst, TI.defQ_rt, TI.defQ_nx, TI.loopQ_nx, TI.loopQ_ct, TI.loopQ_bk, TI.loopQ_rt, TI.wX_rs, TI.wX_expx, TI.wX_retx, TI.wX_tri, TI.triQ_ex, TI.triQ_nx, TI.triQ_rt, TI.exF_ok, TI.exF_ex, TI.retF_ok, TI.retF_ex, TI.sim_t, TI.sim_loc, TI.s_inl, TI.s_inr, TI.wE_isx, TI.wE_fld, TI.wE_isNe, TI.wE_tupv, TI.wE_idxv, TI.wE_reprL, TI.seqQ_ex, TI.loopQ_ex, TI.wF_er, TI.wF_tv, TI.defQX_rt, TI.defQX_nx, TI.defQX_ex, TI.wC_X, TI.wS_zip, TI.okX_inl, TI.okX_inr, TI.XR_ok, TI.wE_get2, TI.wE_popAt, TI.wN_srtU, TI.wX_putd, TI.wX_par3, TI.wN_comp2, TI.wG_t, TI.wG_loc, TI.nO_dict, TI.wO_dict, TI.wE_mkE, TI.wE_mkB, TI.wE_isv, TI.wE_pick, List.getElem?_cons_zero, List.getElem?_cons_succ, List.set_cons_zero, List.set_cons_succ, TI.len_cons, TI.cons_get, TI.cons_set, TI.app_get, TI.app_get0, TI.app_set, TI.app_set0, TI.eq_add1, List.length_nil, List.map_cons, List.map_nil, List.replicate_succ, List.replicate_zero, List.cons_append, List.nil_append, Option.some.injEq, Vl.t.injEq, Vl.loc.injEq, PyData.bool.injEq, PyData.int.injEq, PyData.list.injEq, PyData.tuple.injEq, PyData.str.injEq, exists_eq, exists_eq', exists_eq_left, exists_eq_left', exists_eq_right, exists_eq_right', forall_eq, forall_eq', forall_const, true_and, and_true, Bool.true_eq_false, Bool.false_eq_true, reduceCtorEq, false_implies, true_implies, forall_eq_apply_imp_iff, List.append_assoc, TI.Cell.lst.injEq, List.getElem?_concat_length, List.take_left, List.length_append, TI.set_last, Nat.le_refl, Nat.lt_irrefl, not_true_eq_false, not_false_eq_true, if_true, if_false, ne_eq, Bool.not_true, Bool.not_false, Bool.not_eq_true, Bool.not_eq_false, decide_eq_true_eq, decide_true, decide_false, List.filterMap_cons, List.filterMap_nil, decide_eq_false_iff_not, if_neg, if_pos, Nat.reduceLeDiff, Int.reduceLE, Int.reduceLT, Int.reduceToNat, Int.reduceNeg, List.flatten_cons, List.flatten_nil, List.take_succ_cons, List.take_zero, Nat.reduceAdd, Nat.reduceLT, Nat.reduceEqDiff, Nat.zero_le, Nat.zero_add, Nat.add_zero, Nat.reduceSub, TI.W_len, TI.W_get0, TI.W_get, TI.W_set0, TI.W_set, TI.W_app, TI.W_take0, TI.W_take, TI.lt_loc, TI.lt_loc0, TI.le_loc, TI.le_loc0, hx, hb, List.take_length]; rfl)
end
def atD (j : Nat) : D → D
  | .int i => .bool (decide (i = (j : Int)))
  | _ => .none
theorem range17 : rangeF [.int 17] = some ((List.range 17).map fun (k : Nat) => .int k) := rangeF1 (n := 17) (by decide)
theorem at_map (j : Nat) : ((List.range 17).map fun (k : Nat) => PyData.int (k : Int)).map (atD j) = ((List.range 17).map fun i => decide (i = j)).map PyData.bool := by
  rw [List.map_map, List.map_map]
  refine List.map_congr_left fun i _ => ?_
  show PyData.bool (decide ((i : Int) = (j : Int))) = PyData.bool (decide (i = j))
  congr 1
  by_cases h : i = j
  · subst h; simp
  · rw [decide_eq_false h, decide_eq_false (by omega)]
def plainD (d : D) : Prop := isT d "list" = false ∧ fEq false d d = some (.bool true)
section
variable {m : Mu} {b : Nat} {a0 a1 a4 a5 a6 a7 : Option Vl} {v : Vl} {x : D ⊕ Nat} {Q : Fl → Mu → Prop}
theorem fl_eq {j : Nat} (hj : j < 15) : fEq true (flD (nmJ j)) (.list (((List.range 17).map fun (k : Nat) => PyData.int (k : Int)).map (atD j))) = some (.bool false) := by
  unfold flD
  rw [at_map, ← fl_at j hj]
  exact fEq_bools true _
theorem turnA (j : Nat) (hj : j < 15) (hx : v.sim = some x) (hb : okX m.length x = true) (rest : Sts)
    (q : wXs (callX prog 11) b rest [a0, a1, some v, some (.t (.int j)), a4, some (.er (nmJ j) x), a6, a7] m Q) :
    wX (callX prog 11) b (.set 5 (.ife (.op .lt (.cons (.var 3) (.cons (.con (.int 8)) .nil))) (.call 4 (.cons (.var 3) (.cons (.var 2) .nil))) (.call 5 (.cons (.var 3) (.cons (.var 2) .nil))))) [a0, a1, some v, some (.t (.int j)), a4, a5, a6, a7] m (seqQ (callX prog 11) b rest Q) := by
  by_cases h8 : j < 8
  · have e := e4 10 m j h8 hx hb
    simp [TI.freeze_lst, TI.wO_mulS, TI.data_dct, TI.wN_rep, TI.wE_var, TI.wE_con, TI.wE_op, TI.wE_and, TI.wE_or, TI.wE_ife, TI.wE_chain, TI.wE_tup, TI.wE_new, TI.wE_mk, TI.wE_frz, TI.wE_call, TI.wE_callk, TI.wL_nil, TI.wL_cons, TI.wD_nil, TI.wD_cons, TI.wDn_t, TI.wDn_loc, TI.wV_nil, TI.wV_t, TI.wV_loc, TI.wN_lst, TI.wN_op, TI.wN_dct0, TI.wN_comp, TI.wS_val, TI.wS_range, TI.wS_enum, TI.wX_set, TI.wX_exp, TI.wX_ret, TI.wX_unp, TI.wX_par, TI.wX_app, TI.wX_ext, TI.wX_put, TI.wX_iff, TI.wX_for, TI.wX_whl, TI.wX_pass, TI.wX_brk, TI.wX_cont, TI.wXs_nil, TI.wXs_cons, TI.seqQ_rt, TI.seqQ_bk, TI.seqQ_ct, TI.wF_t, TI.wO_addI, TI.wO_addL, TI.wO_addS, TI.wO_sub, TI.wO_neg, TI.wO_mul, TI.wO_fdiv, TI.wO_mod, TI.wO_eq, TI.wO_ne, TI.wO_inn, TI.wO_nin, TI.wO_idx, TI.wO_len, TI.wO_toInt, TI.wO_toStr, TI.wO_lt, TI.wO_le, TI.wO_gt, TI.wO_ge, TI.wO_isN, TI.wO_notN, TI.wO_isB, TI.wO_notB, TI.wO_not, TI.wO_isi, TI.wO_repr, TI.wO_tuple, TI.wO_max2, TI.wO_min2, TI.nO_add, TI.nO_list, TI.nO_listT, TI.nO_rev, TI.nO_lo, TI.nO_hi, TI.nO_lohi, TI.fLen_list, TI.fLen_tuple, TI.fIdx_list, TI.fIdx_tuple, TI.fEq_str, TI.fEq_int, TI.srcF_list, TI.srcF_tuple, TI.lstF_list, TI.setTg_one, TI.setTg_many, TI.setMany_nil, TI.setMany_cons, TI.wipe_nil, TI.wipe_cons, TI.data_lst, TI.defQ_rt, TI.defQ_nx, TI.loopQ_nx, TI.loopQ_ct, TI.loopQ_bk, TI.loopQ_rt, TI.wX_rs, TI.wX_expx, TI.wX_retx, TI.wX_tri, TI.triQ_ex, TI.triQ_nx, TI.triQ_rt, TI.exF_ok, TI.exF_ex, TI.retF_ok, TI.retF_ex, TI.sim_t, TI.sim_loc, TI.s_inl, TI.s_inr, TI.wE_isx, TI.wE_fld, TI.wE_isNe, TI.wE_tupv, TI.wE_idxv, TI.wE_reprL, TI.seqQ_ex, TI.loopQ_ex, TI.wF_er, TI.wF_tv, TI.defQX_rt, TI.defQX_nx, TI.defQX_ex, TI.wC_X, TI.wS_zip, TI.okX_inl, TI.okX_inr, TI.XR_ok, TI.wE_get2, TI.wE_popAt, TI.wN_srtU, TI.wX_putd, TI.wX_par3, TI.wN_comp2, TI.wG_t, TI.wG_loc, TI.nO_dict, TI.wO_dict, TI.wE_mkE, TI.wE_mkB, TI.wE_isv, TI.wE_pick, List.getElem?_cons_zero, List.getElem?_cons_succ, List.set_cons_zero, List.set_cons_succ, TI.len_cons, TI.cons_get, TI.cons_set, TI.app_get, TI.app_get0, TI.app_set, TI.app_set0, TI.eq_add1, List.length_nil, List.map_cons, List.map_nil, List.replicate_succ, List.replicate_zero, List.cons_append, List.nil_append, Option.some.injEq, Vl.t.injEq, Vl.loc.injEq, PyData.bool.injEq, PyData.int.injEq, PyData.list.injEq, PyData.tuple.injEq, PyData.str.injEq, exists_eq, exists_eq', exists_eq_left, exists_eq_left', exists_eq_right, exists_eq_right', forall_eq, forall_eq', forall_const, true_and, and_true, Bool.true_eq_false, Bool.false_eq_true, reduceCtorEq, false_implies, true_implies, forall_eq_apply_imp_iff, List.append_assoc, TI.Cell.lst.injEq, List.getElem?_concat_length, List.take_left, List.length_append, TI.set_last, Nat.le_refl, Nat.lt_irrefl, not_true_eq_false, not_false_eq_true, if_true, if_false, ne_eq, Bool.not_true, Bool.not_false, Bool.not_eq_true, Bool.not_eq_false, decide_eq_true_eq, decide_true, decide_false, List.filterMap_cons, List.filterMap_nil, decide_eq_false_iff_not, if_neg, if_pos, Nat.reduceLeDiff, Int.reduceLE, Int.reduceLT, Int.reduceToNat, Int.reduceNeg, List.flatten_cons, List.flatten_nil, List.take_succ_cons, List.take_zero, Nat.reduceAdd, Nat.reduceLT, Nat.reduceEqDiff, Nat.zero_le, Nat.zero_add, Nat.add_zero, Nat.reduceSub, TI.W_len, TI.W_get0, TI.W_get, TI.W_set0, TI.W_set, TI.W_app, TI.W_take0, TI.W_take, TI.lt_loc, TI.lt_loc0, TI.le_loc, TI.le_loc0, show (j : Int) < 8 by omega, wCX_eq e]
    exact q
  · have e := e5 10 m j hj (by omega) hx hb
    simp [TI.freeze_lst, TI.wO_mulS, TI.data_dct, TI.wN_rep, TI.wE_var, TI.wE_con, TI.wE_op, TI.wE_and, TI.wE_or, TI.wE_ife, TI.wE_chain, TI.wE_tup, TI.wE_new, TI.wE_mk, TI.wE_frz, TI.wE_call, TI.wE_callk, TI.wL_nil, TI.wL_cons, TI.wD_nil, TI.wD_cons, TI.wDn_t, TI.wDn_loc, TI.wV_nil, TI.wV_t, TI.wV_loc, TI.wN_lst, TI.wN_op, TI.wN_dct0, TI.wN_comp, TI.wS_val, TI.wS_range, TI.wS_enum, TI.wX_set, TI.wX_exp, TI.wX_ret, TI.wX_unp, TI.wX_par, TI.wX_app, TI.wX_ext, TI.wX_put, TI.wX_iff, TI.wX_for, TI.wX_whl, TI.wX_pass, TI.wX_brk, TI.wX_cont, TI.wXs_nil, TI.wXs_cons, TI.seqQ_rt, TI.seqQ_bk, TI.seqQ_ct, TI.wF_t, TI.wO_addI, TI.wO_addL, TI.wO_addS, TI.wO_sub, TI.wO_neg, TI.wO_mul, TI.wO_fdiv, TI.wO_mod, TI.wO_eq, TI.wO_ne, TI.wO_inn, TI.wO_nin, TI.wO_idx, TI.wO_len, TI.wO_toInt, TI.wO_toStr, TI.wO_lt, TI.wO_le, TI.wO_gt, TI.wO_ge, TI.wO_isN, TI.wO_notN, TI.wO_isB, TI.wO_notB, TI.wO_not, TI.wO_isi, TI.wO_repr, TI.wO_tuple, TI.wO_max2, TI.wO_min2, TI.nO_add, TI.nO_list, TI.nO_listT, TI.nO_rev, TI.nO_lo, TI.nO_hi, TI.nO_lohi, TI.fLen_list, TI.fLen_tuple, TI.fIdx_list, TI.fIdx_tuple, TI.fEq_str, TI.fEq_int, TI.srcF_list, TI.srcF_tuple, TI.lstF_list, TI.setTg_one, TI.setTg_many, TI.setMany_nil, TI.setMany_cons, TI.wipe_nil, TI.wipe_cons, TI.data_lst, TI.defQ_rt, TI.defQ_nx, TI.loopQ_nx, TI.loopQ_ct, TI.loopQ_bk, TI.loopQ_rt, TI.wX_rs, TI.wX_expx, TI.wX_retx, TI.wX_tri, TI.triQ_ex, TI.triQ_nx, TI.triQ_rt, TI.exF_ok, TI.exF_ex, TI.retF_ok, TI.retF_ex, TI.sim_t, TI.sim_loc, TI.s_inl, TI.s_inr, TI.wE_isx, TI.wE_fld, TI.wE_isNe, TI.wE_tupv, TI.wE_idxv, TI.wE_reprL, TI.seqQ_ex, TI.loopQ_ex, TI.wF_er, TI.wF_tv, TI.defQX_rt, TI.defQX_nx, TI.defQX_ex, TI.wC_X, TI.wS_zip, TI.okX_inl, TI.okX_inr, TI.XR_ok, TI.wE_get2, TI.wE_popAt, TI.wN_srtU, TI.wX_putd, TI.wX_par3, TI.wN_comp2, TI.wG_t, TI.wG_loc, TI.nO_dict, TI.wO_dict, TI.wE_mkE, TI.wE_mkB, TI.wE_isv, TI.wE_pick, List.getElem?_cons_zero, List.getElem?_cons_succ, List.set_cons_zero, List.set_cons_succ, TI.len_cons, TI.cons_get, TI.cons_set, TI.app_get, TI.app_get0, TI.app_set, TI.app_set0, TI.eq_add1, List.length_nil, List.map_cons, List.map_nil, List.replicate_succ, List.replicate_zero, List.cons_append, List.nil_append, Option.some.injEq, Vl.t.injEq, Vl.loc.injEq, PyData.bool.injEq, PyData.int.injEq, PyData.list.injEq, PyData.tuple.injEq, PyData.str.injEq, exists_eq, exists_eq', exists_eq_left, exists_eq_left', exists_eq_right, exists_eq_right', forall_eq, forall_eq', forall_const, true_and, and_true, Bool.true_eq_false, Bool.false_eq_true, reduceCtorEq, false_implies, true_implies, forall_eq_apply_imp_iff, List.append_assoc, TI.Cell.lst.injEq, List.getElem?_concat_length, List.take_left, List.length_append, TI.set_last, Nat.le_refl, Nat.lt_irrefl, not_true_eq_false, not_false_eq_true, if_true, if_false, ne_eq, Bool.not_true, Bool.not_false, Bool.not_eq_true, Bool.not_eq_false, decide_eq_true_eq, decide_true, decide_false, List.filterMap_cons, List.filterMap_nil, decide_eq_false_iff_not, if_neg, if_pos, Nat.reduceLeDiff, Int.reduceLE, Int.reduceLT, Int.reduceToNat, Int.reduceNeg, List.flatten_cons, List.flatten_nil, List.take_succ_cons, List.take_zero, Nat.reduceAdd, Nat.reduceLT, Nat.reduceEqDiff, Nat.zero_le, Nat.zero_add, Nat.add_zero, Nat.reduceSub, TI.W_len, TI.W_get0, TI.W_get, TI.W_set0, TI.W_set, TI.W_app, TI.W_take0, TI.W_take, TI.lt_loc, TI.lt_loc0, TI.le_loc, TI.le_loc0, show ¬ ((j : Int) < 8) by omega, wCX_eq e]
    exact q
theorem turn (j : Nat) (hj : j < 15) (hx : v.sim = some x) (hb : okX m.length x = true)
    (hd : ∀ d, v = .t d → plainD d ∧ Q (.nx [a0, a1, some v, some (.t (.int j)), a4, some (.er (nmJ j) x), a6, a7]) m)
    (hl : ∀ n, v = .loc n → ∃ L, m[n]? = some (.lst L false) ∧ L.length < 1000 ∧ fEq false (.list (L ++ [.int j])) (.list (L ++ [.int j])) = some (.bool true) ∧ Q (.nx [a0, a1, some v, some (.t (.int j)), a4, some (.er (nmJ j) x), a6, a7]) (m.set n (.lst (L ++ [.int j]) false))) :
    wXs (callX prog 11) b l7_0 [a0, a1, some v, some (.t (.int j)), a4, a5, a6, a7] m Q := by
  unfold l7_0
  rw [wXs_cons]
  refine turnA j hj hx hb _ ?_
  have e6' := e6 10 m (nmJ j) x (nm_memS j hj)
  have hB := lkB (nmJ j) (nm_memS j hj)
  have hE := hasE (nmJ j) (List.mem_cons_of_mem _ (nm_memS j hj))
  have hV := hasV (nmJ j) (nm_mem j hj)
  rw [wXs_cons]
  simp only [TI.freeze_lst, TI.wO_mulS, TI.data_dct, TI.wN_rep, TI.wE_var, TI.wE_con, TI.wE_op, TI.wE_and, TI.wE_or, TI.wE_ife, TI.wE_chain, TI.wE_tup, TI.wE_new, TI.wE_mk, TI.wE_frz, TI.wE_call, TI.wE_callk, TI.wL_nil, TI.wL_cons, TI.wD_nil, TI.wD_cons, TI.wDn_t, TI.wDn_loc, TI.wV_nil, TI.wV_t, TI.wV_loc, TI.wN_lst, TI.wN_op, TI.wN_dct0, TI.wN_comp, TI.wS_val, TI.wS_range, TI.wS_enum, TI.wX_set, TI.wX_exp, TI.wX_ret, TI.wX_unp, TI.wX_par, TI.wX_app, TI.wX_ext, TI.wX_put, TI.wX_iff, TI.wX_for, TI.wX_whl, TI.wX_pass, TI.wX_brk, TI.wX_cont, TI.wXs_nil, TI.wXs_cons, TI.seqQ_rt, TI.seqQ_bk, TI.seqQ_ct, TI.wF_t, TI.wO_addI, TI.wO_addL, TI.wO_addS, TI.wO_sub, TI.wO_neg, TI.wO_mul, TI.wO_fdiv, TI.wO_mod, TI.wO_eq, TI.wO_ne, TI.wO_inn, TI.wO_nin, TI.wO_idx, TI.wO_len, TI.wO_toInt, TI.wO_toStr, TI.wO_lt, TI.wO_le, TI.wO_gt, TI.wO_ge, TI.wO_isN, TI.wO_notN, TI.wO_isB, TI.wO_notB, TI.wO_not, TI.wO_isi, TI.wO_repr, TI.wO_tuple, TI.wO_max2, TI.wO_min2, TI.nO_add, TI.nO_list, TI.nO_listT, TI.nO_rev, TI.nO_lo, TI.nO_hi, TI.nO_lohi, TI.fLen_list, TI.fLen_tuple, TI.fIdx_list, TI.fIdx_tuple, TI.fEq_str, TI.fEq_int, TI.srcF_list, TI.srcF_tuple, TI.lstF_list, TI.setTg_one, TI.setTg_many, TI.setMany_nil, TI.setMany_cons, TI.wipe_nil, TI.wipe_cons, TI.data_lst, TI.defQ_rt, TI.defQ_nx, TI.loopQ_nx, TI.loopQ_ct, TI.loopQ_bk, TI.loopQ_rt, TI.wX_rs, TI.wX_expx, TI.wX_retx, TI.wX_tri, TI.triQ_ex, TI.triQ_nx, TI.triQ_rt, TI.exF_ok, TI.exF_ex, TI.retF_ok, TI.retF_ex, TI.sim_t, TI.sim_loc, TI.s_inl, TI.s_inr, TI.wE_isx, TI.wE_fld, TI.wE_isNe, TI.wE_tupv, TI.wE_idxv, TI.wE_reprL, TI.seqQ_ex, TI.loopQ_ex, TI.wF_er, TI.wF_tv, TI.defQX_rt, TI.defQX_nx, TI.defQX_ex, TI.wC_X, TI.wS_zip, TI.okX_inl, TI.okX_inr, TI.XR_ok, TI.wE_get2, TI.wE_popAt, TI.wN_srtU, TI.wX_putd, TI.wX_par3, TI.wN_comp2, TI.wG_t, TI.wG_loc, TI.nO_dict, TI.wO_dict, TI.wE_mkE, TI.wE_mkB, TI.wE_isv, TI.wE_pick, List.getElem?_cons_zero, List.getElem?_cons_succ, List.set_cons_zero, List.set_cons_succ, TI.len_cons, TI.cons_get, TI.cons_set, TI.app_get, TI.app_get0, TI.app_set, TI.app_set0, TI.eq_add1, List.length_nil, List.map_cons, List.map_nil, List.replicate_succ, List.replicate_zero, List.cons_append, List.nil_append, Option.some.injEq, Vl.t.injEq, Vl.loc.injEq, PyData.bool.injEq, PyData.int.injEq, PyData.list.injEq, PyData.tuple.injEq, PyData.str.injEq, exists_eq, exists_eq', exists_eq_left, exists_eq_left', exists_eq_right, exists_eq_right', forall_eq, forall_eq', forall_const, true_and, and_true, Bool.true_eq_false, Bool.false_eq_true, reduceCtorEq, false_implies, true_implies, forall_eq_apply_imp_iff, List.append_assoc, TI.Cell.lst.injEq, List.getElem?_concat_length, List.take_left, List.length_append, TI.set_last, Nat.le_refl, Nat.lt_irrefl, not_true_eq_false, not_false_eq_true, if_true, if_false, ne_eq, Bool.not_true, Bool.not_false, Bool.not_eq_true, Bool.not_eq_false, decide_eq_true_eq, decide_true, decide_false, List.filterMap_cons, List.filterMap_nil, decide_eq_false_iff_not, if_neg, if_pos, Nat.reduceLeDiff, Int.reduceLE, Int.reduceLT, Int.reduceToNat, Int.reduceNeg, List.flatten_cons, List.flatten_nil, List.take_succ_cons, List.take_zero, Nat.reduceAdd, Nat.reduceLT, Nat.reduceEqDiff, Nat.zero_le, Nat.zero_add, Nat.add_zero, Nat.reduceSub, TI.W_len, TI.W_get0, TI.W_get, TI.W_set0, TI.W_set, TI.W_app, TI.W_take0, TI.W_take, TI.lt_loc, TI.lt_loc0, TI.le_loc, TI.le_loc0, wCX_eq e6', range17, wipeE]
  refine wCp_pure (f := atD j) _ (by simp) (fun c d hd => ?_) ?_
  · obtain ⟨i, hi, rfl⟩ := List.mem_map.mp hd
    refine ⟨_, rfl, ?_⟩
    simp [TI.freeze_lst, TI.wO_mulS, TI.data_dct, TI.wN_rep, TI.wE_var, TI.wE_con, TI.wE_op, TI.wE_and, TI.wE_or, TI.wE_ife, TI.wE_chain, TI.wE_tup, TI.wE_new, TI.wE_mk, TI.wE_frz, TI.wE_call, TI.wE_callk, TI.wL_nil, TI.wL_cons, TI.wD_nil, TI.wD_cons, TI.wDn_t, TI.wDn_loc, TI.wV_nil, TI.wV_t, TI.wV_loc, TI.wN_lst, TI.wN_op, TI.wN_dct0, TI.wN_comp, TI.wS_val, TI.wS_range, TI.wS_enum, TI.wX_set, TI.wX_exp, TI.wX_ret, TI.wX_unp, TI.wX_par, TI.wX_app, TI.wX_ext, TI.wX_put, TI.wX_iff, TI.wX_for, TI.wX_whl, TI.wX_pass, TI.wX_brk, TI.wX_cont, TI.wXs_nil, TI.wXs_cons, TI.seqQ_nx, TI.seqQ_rt, TI.seqQ_bk, TI.seqQ_ct, TI.wF_t, TI.wO_addI, TI.wO_addL, TI.wO_addS, TI.wO_sub, TI.wO_neg, TI.wO_mul, TI.wO_fdiv, TI.wO_mod, TI.wO_eq, TI.wO_ne, TI.wO_inn, TI.wO_nin, TI.wO_idx, TI.wO_len, TI.wO_toInt, TI.wO_toStr, TI.wO_lt, TI.wO_le, TI.wO_gt, TI.wO_ge, TI.wO_isN, TI.wO_notN, TI.wO_isB, TI.wO_notB, TI.wO_not, TI.wO_isi, TI.wO_repr, TI.wO_tuple, TI.wO_max2, TI.wO_min2, TI.nO_add, TI.nO_list, TI.nO_listT, TI.nO_rev, TI.nO_lo, TI.nO_hi, TI.nO_lohi, TI.fLen_list, TI.fLen_tuple, TI.fIdx_list, TI.fIdx_tuple, TI.fEq_str, TI.fEq_int, TI.srcF_list, TI.srcF_tuple, TI.lstF_list, TI.setTg_one, TI.setTg_many, TI.setMany_nil, TI.setMany_cons, TI.wipe_nil, TI.wipe_cons, TI.data_lst, TI.defQ_rt, TI.defQ_nx, TI.loopQ_nx, TI.loopQ_ct, TI.loopQ_bk, TI.loopQ_rt, TI.wX_rs, TI.wX_expx, TI.wX_retx, TI.wX_tri, TI.triQ_ex, TI.triQ_nx, TI.triQ_rt, TI.exF_ok, TI.exF_ex, TI.retF_ok, TI.retF_ex, TI.sim_t, TI.sim_loc, TI.s_inl, TI.s_inr, TI.wE_isx, TI.wE_fld, TI.wE_isNe, TI.wE_tupv, TI.wE_idxv, TI.wE_reprL, TI.seqQ_ex, TI.loopQ_ex, TI.wF_er, TI.wF_tv, TI.defQX_rt, TI.defQX_nx, TI.defQX_ex, TI.wC_X, TI.wS_zip, TI.okX_inl, TI.okX_inr, TI.XR_ok, TI.wE_get2, TI.wE_popAt, TI.wN_srtU, TI.wX_putd, TI.wX_par3, TI.wN_comp2, TI.wG_t, TI.wG_loc, TI.nO_dict, TI.wO_dict, TI.wE_mkE, TI.wE_mkB, TI.wE_isv, TI.wE_pick, List.getElem?_cons_zero, List.getElem?_cons_succ, List.set_cons_zero, List.set_cons_succ, TI.len_cons, TI.cons_get, TI.cons_set, TI.app_get, TI.app_get0, TI.app_set, TI.app_set0, TI.eq_add1, List.length_nil, List.map_cons, List.map_nil, List.replicate_succ, List.replicate_zero, List.cons_append, List.nil_append, Option.some.injEq, Vl.t.injEq, Vl.loc.injEq, PyData.bool.injEq, PyData.int.injEq, PyData.list.injEq, PyData.tuple.injEq, PyData.str.injEq, exists_eq, exists_eq', exists_eq_left, exists_eq_left', exists_eq_right, exists_eq_right', forall_eq, forall_eq', forall_const, true_and, and_true, Bool.true_eq_false, Bool.false_eq_true, reduceCtorEq, false_implies, true_implies, forall_eq_apply_imp_iff, List.append_assoc, TI.Cell.lst.injEq, List.getElem?_concat_length, List.take_left, List.length_append, TI.set_last, Nat.le_refl, Nat.lt_irrefl, not_true_eq_false, not_false_eq_true, if_true, if_false, ne_eq, Bool.not_true, Bool.not_false, Bool.not_eq_true, Bool.not_eq_false, decide_eq_true_eq, decide_true, decide_false, List.filterMap_cons, List.filterMap_nil, decide_eq_false_iff_not, if_neg, if_pos, Nat.reduceLeDiff, Int.reduceLE, Int.reduceLT, Int.reduceToNat, Int.reduceNeg, List.flatten_cons, List.flatten_nil, List.take_succ_cons, List.take_zero, Nat.reduceAdd, Nat.reduceLT, Nat.reduceEqDiff, Nat.zero_le, Nat.zero_add, Nat.add_zero, Nat.reduceSub, TI.W_len, TI.W_get0, TI.W_get, TI.W_set0, TI.W_set, TI.W_app, TI.W_take0, TI.W_take, TI.lt_loc, TI.lt_loc0, TI.le_loc, TI.le_loc0, fEq_int]
    rfl
  · refine ⟨_, by rw [List.getElem?_concat_length], by simp, ?_⟩
    rw [List.take_left]
    refine ⟨_, fl_eq hj, false, rfl, (fun h => by cases h), fun _ => ⟨true, hB, (fun h => by cases h), fun _ => ⟨_, _, rfl, hE, ?_⟩⟩⟩
    rw [seqQ_nx, wXs_cons]
    cases v with
    | t d =>
      obtain ⟨⟨h1, h2⟩, q⟩ := hd d rfl
      have hx : x = .inl d := (Option.some.inj hx).symm
      subst hx
      simp only [TI.freeze_lst, TI.wO_mulS, TI.data_dct, TI.wN_rep, TI.wE_var, TI.wE_con, TI.wE_op, TI.wE_and, TI.wE_or, TI.wE_ife, TI.wE_chain, TI.wE_tup, TI.wE_new, TI.wE_mk, TI.wE_frz, TI.wE_call, TI.wE_callk, TI.wL_nil, TI.wL_cons, TI.wD_nil, TI.wD_cons, TI.wDn_t, TI.wDn_loc, TI.wV_nil, TI.wV_t, TI.wV_loc, TI.wN_lst, TI.wN_op, TI.wN_dct0, TI.wN_comp, TI.wS_val, TI.wS_range, TI.wS_enum, TI.wX_set, TI.wX_exp, TI.wX_ret, TI.wX_unp, TI.wX_par, TI.wX_app, TI.wX_ext, TI.wX_put, TI.wX_iff, TI.wX_for, TI.wX_whl, TI.wX_pass, TI.wX_brk, TI.wX_cont, TI.wXs_nil, TI.wXs_cons, TI.seqQ_rt, TI.seqQ_bk, TI.seqQ_ct, TI.wF_t, TI.wO_addI, TI.wO_addL, TI.wO_addS, TI.wO_sub, TI.wO_neg, TI.wO_mul, TI.wO_fdiv, TI.wO_mod, TI.wO_eq, TI.wO_ne, TI.wO_inn, TI.wO_nin, TI.wO_idx, TI.wO_len, TI.wO_toInt, TI.wO_toStr, TI.wO_lt, TI.wO_le, TI.wO_gt, TI.wO_ge, TI.wO_isN, TI.wO_notN, TI.wO_isB, TI.wO_notB, TI.wO_not, TI.wO_isi, TI.wO_repr, TI.wO_tuple, TI.wO_max2, TI.wO_min2, TI.nO_add, TI.nO_list, TI.nO_listT, TI.nO_rev, TI.nO_lo, TI.nO_hi, TI.nO_lohi, TI.fLen_list, TI.fLen_tuple, TI.fIdx_list, TI.fIdx_tuple, TI.fEq_str, TI.fEq_int, TI.srcF_list, TI.srcF_tuple, TI.lstF_list, TI.setTg_one, TI.setTg_many, TI.setMany_nil, TI.setMany_cons, TI.wipe_nil, TI.wipe_cons, TI.data_lst, TI.defQ_rt, TI.defQ_nx, TI.loopQ_nx, TI.loopQ_ct, TI.loopQ_bk, TI.loopQ_rt, TI.wX_rs, TI.wX_expx, TI.wX_retx, TI.wX_tri, TI.triQ_ex, TI.triQ_nx, TI.triQ_rt, TI.exF_ok, TI.exF_ex, TI.retF_ok, TI.retF_ex, TI.sim_t, TI.sim_loc, TI.s_inl, TI.s_inr, TI.wE_isx, TI.wE_fld, TI.wE_isNe, TI.wE_tupv, TI.wE_idxv, TI.wE_reprL, TI.seqQ_ex, TI.loopQ_ex, TI.wF_er, TI.wF_tv, TI.defQX_rt, TI.defQX_nx, TI.defQX_ex, TI.wC_X, TI.wS_zip, TI.okX_inl, TI.okX_inr, TI.XR_ok, TI.wE_get2, TI.wE_popAt, TI.wN_srtU, TI.wX_putd, TI.wX_par3, TI.wN_comp2, TI.wG_t, TI.wG_loc, TI.nO_dict, TI.wO_dict, TI.wE_mkE, TI.wE_mkB, TI.wE_isv, TI.wE_pick, List.getElem?_cons_zero, List.getElem?_cons_succ, List.set_cons_zero, List.set_cons_succ, TI.len_cons, TI.cons_get, TI.cons_set, TI.app_get, TI.app_get0, TI.app_set, TI.app_set0, TI.eq_add1, List.length_nil, List.map_cons, List.map_nil, List.replicate_succ, List.replicate_zero, List.cons_append, List.nil_append, Option.some.injEq, Vl.t.injEq, Vl.loc.injEq, PyData.bool.injEq, PyData.int.injEq, PyData.list.injEq, PyData.tuple.injEq, PyData.str.injEq, exists_eq, exists_eq', exists_eq_left, exists_eq_left', exists_eq_right, exists_eq_right', forall_eq, forall_eq', forall_const, true_and, and_true, Bool.true_eq_false, Bool.false_eq_true, reduceCtorEq, false_implies, true_implies, forall_eq_apply_imp_iff, List.append_assoc, TI.Cell.lst.injEq, List.getElem?_concat_length, List.take_left, List.length_append, TI.set_last, Nat.le_refl, Nat.lt_irrefl, not_true_eq_false, not_false_eq_true, if_true, if_false, ne_eq, Bool.not_true, Bool.not_false, Bool.not_eq_true, Bool.not_eq_false, decide_eq_true_eq, decide_true, decide_false, List.filterMap_cons, List.filterMap_nil, decide_eq_false_iff_not, if_neg, if_pos, Nat.reduceLeDiff, Int.reduceLE, Int.reduceLT, Int.reduceToNat, Int.reduceNeg, List.flatten_cons, List.flatten_nil, List.take_succ_cons, List.take_zero, Nat.reduceAdd, Nat.reduceLT, Nat.reduceEqDiff, Nat.zero_le, Nat.zero_add, Nat.add_zero, Nat.reduceSub, TI.W_len, TI.W_get0, TI.W_get, TI.W_set0, TI.W_set, TI.W_app, TI.W_take0, TI.W_take, TI.lt_loc, TI.lt_loc0, TI.le_loc, TI.le_loc0, h1]
      rw [seqQ_nx, wXs_cons]
      simp only [TI.freeze_lst, TI.wO_mulS, TI.data_dct, TI.wN_rep, TI.wE_var, TI.wE_con, TI.wE_op, TI.wE_and, TI.wE_or, TI.wE_ife, TI.wE_chain, TI.wE_tup, TI.wE_new, TI.wE_mk, TI.wE_frz, TI.wE_call, TI.wE_callk, TI.wL_nil, TI.wL_cons, TI.wD_nil, TI.wD_cons, TI.wDn_t, TI.wDn_loc, TI.wV_nil, TI.wV_t, TI.wV_loc, TI.wN_lst, TI.wN_op, TI.wN_dct0, TI.wN_comp, TI.wS_val, TI.wS_range, TI.wS_enum, TI.wX_set, TI.wX_exp, TI.wX_ret, TI.wX_unp, TI.wX_par, TI.wX_app, TI.wX_ext, TI.wX_put, TI.wX_iff, TI.wX_for, TI.wX_whl, TI.wX_pass, TI.wX_brk, TI.wX_cont, TI.wXs_nil, TI.wXs_cons, TI.seqQ_rt, TI.seqQ_bk, TI.seqQ_ct, TI.wF_t, TI.wO_addI, TI.wO_addL, TI.wO_addS, TI.wO_sub, TI.wO_neg, TI.wO_mul, TI.wO_fdiv, TI.wO_mod, TI.wO_eq, TI.wO_ne, TI.wO_inn, TI.wO_nin, TI.wO_idx, TI.wO_len, TI.wO_toInt, TI.wO_toStr, TI.wO_lt, TI.wO_le, TI.wO_gt, TI.wO_ge, TI.wO_isN, TI.wO_notN, TI.wO_isB, TI.wO_notB, TI.wO_not, TI.wO_isi, TI.wO_repr, TI.wO_tuple, TI.wO_max2, TI.wO_min2, TI.nO_add, TI.nO_list, TI.nO_listT, TI.nO_rev, TI.nO_lo, TI.nO_hi, TI.nO_lohi, TI.fLen_list, TI.fLen_tuple, TI.fIdx_list, TI.fIdx_tuple, TI.fEq_str, TI.fEq_int, TI.srcF_list, TI.srcF_tuple, TI.lstF_list, TI.setTg_one, TI.setTg_many, TI.setMany_nil, TI.setMany_cons, TI.wipe_nil, TI.wipe_cons, TI.data_lst, TI.defQ_rt, TI.defQ_nx, TI.loopQ_nx, TI.loopQ_ct, TI.loopQ_bk, TI.loopQ_rt, TI.wX_rs, TI.wX_expx, TI.wX_retx, TI.wX_tri, TI.triQ_ex, TI.triQ_nx, TI.triQ_rt, TI.exF_ok, TI.exF_ex, TI.retF_ok, TI.retF_ex, TI.sim_t, TI.sim_loc, TI.s_inl, TI.s_inr, TI.wE_isx, TI.wE_fld, TI.wE_isNe, TI.wE_tupv, TI.wE_idxv, TI.wE_reprL, TI.seqQ_ex, TI.loopQ_ex, TI.wF_er, TI.wF_tv, TI.defQX_rt, TI.defQX_nx, TI.defQX_ex, TI.wC_X, TI.wS_zip, TI.okX_inl, TI.okX_inr, TI.XR_ok, TI.wE_get2, TI.wE_popAt, TI.wN_srtU, TI.wX_putd, TI.wX_par3, TI.wN_comp2, TI.wG_t, TI.wG_loc, TI.nO_dict, TI.wO_dict, TI.wE_mkE, TI.wE_mkB, TI.wE_isv, TI.wE_pick, List.getElem?_cons_zero, List.getElem?_cons_succ, List.set_cons_zero, List.set_cons_succ, TI.len_cons, TI.cons_get, TI.cons_set, TI.app_get, TI.app_get0, TI.app_set, TI.app_set0, TI.eq_add1, List.length_nil, List.map_cons, List.map_nil, List.replicate_succ, List.replicate_zero, List.cons_append, List.nil_append, Option.some.injEq, Vl.t.injEq, Vl.loc.injEq, PyData.bool.injEq, PyData.int.injEq, PyData.list.injEq, PyData.tuple.injEq, PyData.str.injEq, exists_eq, exists_eq', exists_eq_left, exists_eq_left', exists_eq_right, exists_eq_right', forall_eq, forall_eq', forall_const, true_and, and_true, Bool.true_eq_false, Bool.false_eq_true, reduceCtorEq, false_implies, true_implies, forall_eq_apply_imp_iff, List.append_assoc, TI.Cell.lst.injEq, List.getElem?_concat_length, List.take_left, List.length_append, TI.set_last, Nat.le_refl, Nat.lt_irrefl, not_true_eq_false, not_false_eq_true, if_true, if_false, ne_eq, Bool.not_true, Bool.not_false, Bool.not_eq_true, Bool.not_eq_false, decide_eq_true_eq, decide_true, decide_false, List.filterMap_cons, List.filterMap_nil, decide_eq_false_iff_not, if_neg, if_pos, Nat.reduceLeDiff, Int.reduceLE, Int.reduceLT, Int.reduceToNat, Int.reduceNeg, List.flatten_cons, List.flatten_nil, List.take_succ_cons, List.take_zero, Nat.reduceAdd, Nat.reduceLT, Nat.reduceEqDiff, Nat.zero_le, Nat.zero_add, Nat.add_zero, Nat.reduceSub, TI.W_len, TI.W_get0, TI.W_get, TI.W_set0, TI.W_set, TI.W_app, TI.W_take0, TI.W_take, TI.lt_loc, TI.lt_loc0, TI.le_loc, TI.le_loc0, hV, h2]
      exact wXs_nil.mpr q
    | loc n =>
      obtain ⟨L, h1, h2, h3, q⟩ := hl n rfl
      have hx : x = .inr n := (Option.some.inj hx).symm
      subst hx
      have hn : n < m.length := (List.getElem?_eq_some_iff.mp h1).1
      have hl' : isT (.list L) "list" = true := rfl
      simp only [TI.freeze_lst, TI.wO_mulS, TI.data_dct, TI.wN_rep, TI.wE_var, TI.wE_con, TI.wE_op, TI.wE_and, TI.wE_or, TI.wE_ife, TI.wE_chain, TI.wE_tup, TI.wE_new, TI.wE_mk, TI.wE_frz, TI.wE_call, TI.wE_callk, TI.wL_nil, TI.wL_cons, TI.wD_nil, TI.wD_cons, TI.wDn_t, TI.wDn_loc, TI.wV_nil, TI.wV_t, TI.wV_loc, TI.wN_lst, TI.wN_op, TI.wN_dct0, TI.wN_comp, TI.wS_val, TI.wS_range, TI.wS_enum, TI.wX_set, TI.wX_exp, TI.wX_ret, TI.wX_unp, TI.wX_par, TI.wX_app, TI.wX_ext, TI.wX_put, TI.wX_iff, TI.wX_for, TI.wX_whl, TI.wX_pass, TI.wX_brk, TI.wX_cont, TI.wXs_nil, TI.wXs_cons, TI.seqQ_rt, TI.seqQ_bk, TI.seqQ_ct, TI.wF_t, TI.wO_addI, TI.wO_addL, TI.wO_addS, TI.wO_sub, TI.wO_neg, TI.wO_mul, TI.wO_fdiv, TI.wO_mod, TI.wO_eq, TI.wO_ne, TI.wO_inn, TI.wO_nin, TI.wO_idx, TI.wO_len, TI.wO_toInt, TI.wO_toStr, TI.wO_lt, TI.wO_le, TI.wO_gt, TI.wO_ge, TI.wO_isN, TI.wO_notN, TI.wO_isB, TI.wO_notB, TI.wO_not, TI.wO_isi, TI.wO_repr, TI.wO_tuple, TI.wO_max2, TI.wO_min2, TI.nO_add, TI.nO_list, TI.nO_listT, TI.nO_rev, TI.nO_lo, TI.nO_hi, TI.nO_lohi, TI.fLen_list, TI.fLen_tuple, TI.fIdx_list, TI.fIdx_tuple, TI.fEq_str, TI.fEq_int, TI.srcF_list, TI.srcF_tuple, TI.lstF_list, TI.setTg_one, TI.setTg_many, TI.setMany_nil, TI.setMany_cons, TI.wipe_nil, TI.wipe_cons, TI.data_lst, TI.defQ_rt, TI.defQ_nx, TI.loopQ_nx, TI.loopQ_ct, TI.loopQ_bk, TI.loopQ_rt, TI.wX_rs, TI.wX_expx, TI.wX_retx, TI.wX_tri, TI.triQ_ex, TI.triQ_nx, TI.triQ_rt, TI.exF_ok, TI.exF_ex, TI.retF_ok, TI.retF_ex, TI.sim_t, TI.sim_loc, TI.s_inl, TI.s_inr, TI.wE_isx, TI.wE_fld, TI.wE_isNe, TI.wE_tupv, TI.wE_idxv, TI.wE_reprL, TI.seqQ_ex, TI.loopQ_ex, TI.wF_er, TI.wF_tv, TI.defQX_rt, TI.defQX_nx, TI.defQX_ex, TI.wC_X, TI.wS_zip, TI.okX_inl, TI.okX_inr, TI.XR_ok, TI.wE_get2, TI.wE_popAt, TI.wN_srtU, TI.wX_putd, TI.wX_par3, TI.wN_comp2, TI.wG_t, TI.wG_loc, TI.nO_dict, TI.wO_dict, TI.wE_mkE, TI.wE_mkB, TI.wE_isv, TI.wE_pick, List.getElem?_cons_zero, List.getElem?_cons_succ, List.set_cons_zero, List.set_cons_succ, TI.len_cons, TI.cons_get, TI.cons_set, TI.app_get, TI.app_get0, TI.app_set, TI.app_set0, TI.eq_add1, List.length_nil, List.map_cons, List.map_nil, List.replicate_succ, List.replicate_zero, List.cons_append, List.nil_append, Option.some.injEq, Vl.t.injEq, Vl.loc.injEq, PyData.bool.injEq, PyData.int.injEq, PyData.list.injEq, PyData.tuple.injEq, PyData.str.injEq, exists_eq, exists_eq', exists_eq_left, exists_eq_left', exists_eq_right, exists_eq_right', forall_eq, forall_eq', forall_const, true_and, and_true, Bool.true_eq_false, Bool.false_eq_true, reduceCtorEq, false_implies, true_implies, forall_eq_apply_imp_iff, List.append_assoc, TI.Cell.lst.injEq, List.getElem?_concat_length, List.take_left, List.length_append, TI.set_last, Nat.le_refl, Nat.lt_irrefl, not_true_eq_false, not_false_eq_true, if_true, if_false, ne_eq, Bool.not_true, Bool.not_false, Bool.not_eq_true, Bool.not_eq_false, decide_eq_true_eq, decide_true, decide_false, List.filterMap_cons, List.filterMap_nil, decide_eq_false_iff_not, if_neg, if_pos, Nat.reduceLeDiff, Int.reduceLE, Int.reduceLT, Int.reduceToNat, Int.reduceNeg, List.flatten_cons, List.flatten_nil, List.take_succ_cons, List.take_zero, Nat.reduceAdd, Nat.reduceLT, Nat.reduceEqDiff, Nat.zero_le, Nat.zero_add, Nat.add_zero, Nat.reduceSub, TI.W_len, TI.W_get0, TI.W_get, TI.W_set0, TI.W_set, TI.W_app, TI.W_take0, TI.W_take, TI.lt_loc, TI.lt_loc0, TI.le_loc, TI.le_loc0, h1, hl']
      refine ⟨by omega, ?_⟩
      rw [seqQ_nx, wXs_nil, seqQ_nx, wXs_cons]
      have hg : (m.set n (.lst (L ++ [.int (j : Int)]) false))[n]? = some (.lst (L ++ [.int (j : Int)]) false) := List.getElem?_set_self hn
      simp only [TI.freeze_lst, TI.wO_mulS, TI.data_dct, TI.wN_rep, TI.wE_var, TI.wE_con, TI.wE_op, TI.wE_and, TI.wE_or, TI.wE_ife, TI.wE_chain, TI.wE_tup, TI.wE_new, TI.wE_mk, TI.wE_frz, TI.wE_call, TI.wE_callk, TI.wL_nil, TI.wL_cons, TI.wD_nil, TI.wD_cons, TI.wDn_t, TI.wDn_loc, TI.wV_nil, TI.wV_t, TI.wV_loc, TI.wN_lst, TI.wN_op, TI.wN_dct0, TI.wN_comp, TI.wS_val, TI.wS_range, TI.wS_enum, TI.wX_set, TI.wX_exp, TI.wX_ret, TI.wX_unp, TI.wX_par, TI.wX_app, TI.wX_ext, TI.wX_put, TI.wX_iff, TI.wX_for, TI.wX_whl, TI.wX_pass, TI.wX_brk, TI.wX_cont, TI.wXs_nil, TI.wXs_cons, TI.seqQ_rt, TI.seqQ_bk, TI.seqQ_ct, TI.wF_t, TI.wO_addI, TI.wO_addL, TI.wO_addS, TI.wO_sub, TI.wO_neg, TI.wO_mul, TI.wO_fdiv, TI.wO_mod, TI.wO_eq, TI.wO_ne, TI.wO_inn, TI.wO_nin, TI.wO_idx, TI.wO_len, TI.wO_toInt, TI.wO_toStr, TI.wO_lt, TI.wO_le, TI.wO_gt, TI.wO_ge, TI.wO_isN, TI.wO_notN, TI.wO_isB, TI.wO_notB, TI.wO_not, TI.wO_isi, TI.wO_repr, TI.wO_tuple, TI.wO_max2, TI.wO_min2, TI.nO_add, TI.nO_list, TI.nO_listT, TI.nO_rev, TI.nO_lo, TI.nO_hi, TI.nO_lohi, TI.fLen_list, TI.fLen_tuple, TI.fIdx_list, TI.fIdx_tuple, TI.fEq_str, TI.fEq_int, TI.srcF_list, TI.srcF_tuple, TI.lstF_list, TI.setTg_one, TI.setTg_many, TI.setMany_nil, TI.setMany_cons, TI.wipe_nil, TI.wipe_cons, TI.data_lst, TI.defQ_rt, TI.defQ_nx, TI.loopQ_nx, TI.loopQ_ct, TI.loopQ_bk, TI.loopQ_rt, TI.wX_rs, TI.wX_expx, TI.wX_retx, TI.wX_tri, TI.triQ_ex, TI.triQ_nx, TI.triQ_rt, TI.exF_ok, TI.exF_ex, TI.retF_ok, TI.retF_ex, TI.sim_t, TI.sim_loc, TI.s_inl, TI.s_inr, TI.wE_isx, TI.wE_fld, TI.wE_isNe, TI.wE_tupv, TI.wE_idxv, TI.wE_reprL, TI.seqQ_ex, TI.loopQ_ex, TI.wF_er, TI.wF_tv, TI.defQX_rt, TI.defQX_nx, TI.defQX_ex, TI.wC_X, TI.wS_zip, TI.okX_inl, TI.okX_inr, TI.XR_ok, TI.wE_get2, TI.wE_popAt, TI.wN_srtU, TI.wX_putd, TI.wX_par3, TI.wN_comp2, TI.wG_t, TI.wG_loc, TI.nO_dict, TI.wO_dict, TI.wE_mkE, TI.wE_mkB, TI.wE_isv, TI.wE_pick, List.getElem?_cons_zero, List.getElem?_cons_succ, List.set_cons_zero, List.set_cons_succ, TI.len_cons, TI.cons_get, TI.cons_set, TI.app_get, TI.app_get0, TI.app_set, TI.app_set0, TI.eq_add1, List.length_nil, List.map_cons, List.map_nil, List.replicate_succ, List.replicate_zero, List.cons_append, List.nil_append, Option.some.injEq, Vl.t.injEq, Vl.loc.injEq, PyData.bool.injEq, PyData.int.injEq, PyData.list.injEq, PyData.tuple.injEq, PyData.str.injEq, exists_eq, exists_eq', exists_eq_left, exists_eq_left', exists_eq_right, exists_eq_right', forall_eq, forall_eq', forall_const, true_and, and_true, Bool.true_eq_false, Bool.false_eq_true, reduceCtorEq, false_implies, true_implies, forall_eq_apply_imp_iff, List.append_assoc, TI.Cell.lst.injEq, List.getElem?_concat_length, List.take_left, List.length_append, TI.set_last, Nat.le_refl, Nat.lt_irrefl, not_true_eq_false, not_false_eq_true, if_true, if_false, ne_eq, Bool.not_true, Bool.not_false, Bool.not_eq_true, Bool.not_eq_false, decide_eq_true_eq, decide_true, decide_false, List.filterMap_cons, List.filterMap_nil, decide_eq_false_iff_not, if_neg, if_pos, Nat.reduceLeDiff, Int.reduceLE, Int.reduceLT, Int.reduceToNat, Int.reduceNeg, List.flatten_cons, List.flatten_nil, List.take_succ_cons, List.take_zero, Nat.reduceAdd, Nat.reduceLT, Nat.reduceEqDiff, Nat.zero_le, Nat.zero_add, Nat.add_zero, Nat.reduceSub, TI.W_len, TI.W_get0, TI.W_get, TI.W_set0, TI.W_set, TI.W_app, TI.W_take0, TI.W_take, TI.lt_loc, TI.lt_loc0, TI.le_loc, TI.le_loc0, hV, hg, h3]
      exact wXs_nil.mpr q
    | er c y => cases hx
    | tv xs => cases hx
end
end K01
namespace K01
open PySem TI
theorem draw (k : Nat) {B : Int} {c : Cell} {E : Mu} {bd : Int} (hb : B < 2 ^ 60) (g : Gen B (c :: E) 0) (h0 : 0 < bd) (h1 : bd < 2 ^ 29) : ∃ (t : Nat) (c' : Cell), callX prog (k + 2) 3 [.loc 0, .t (.int bd)] (c :: E) = some (.ok (.t (.int t)), c' :: E) ∧ (t : Int) < bd ∧ ∀ E', Gen (B + 1) (c' :: E') 0 := by
  obtain ⟨r, c', e, r0, r1, g'⟩ := ev_random (P := prog) (k := k) (ir := 3) (ih := 2) rfl rfl hb g h0 h1
  obtain ⟨t, rfl⟩ := Int.eq_ofNat_of_zero_le r0
  refine ⟨t, c', valC_some e, r1, fun E' => ?_⟩
  obtain ⟨a, s, i, e1, h⟩ := g'
  exact ⟨a, s, i, by simpa using e1, h⟩
theorem draw20 (k : Nat) {B : Int} {c : Cell} {E : Mu} (hb : B < 2 ^ 60) (g : Gen B (c :: E) 0) : ∃ (r : Int) (c' : Cell), callX prog (k + 2) 3 [.loc 0, .t (.int 100000000000000000000)] (c :: E) = some (.ok (.t (.int r)), c' :: E) ∧ ∀ E', Gen (B + 3) (c' :: E') 0 := by
  obtain ⟨r, c', e, r0, r1, g'⟩ := ev_random20 (P := prog) (k := k) (ir := 3) (ih := 2) rfl rfl hb g
  refine ⟨r, c', valC_some e, fun E' => ?_⟩
  obtain ⟨a, s, i, e1, h⟩ := g'
  exact ⟨a, s, i, by simpa using e1, h⟩
theorem gen_E {B : Int} {c : Cell} {E E' : Mu} (g : Gen B (c :: E) 0) : Gen B (c :: E') 0 := by
  obtain ⟨a, s, i, e1, h⟩ := g
  exact ⟨a, s, i, by simpa using e1, h⟩
def atm : D → Bool
  | .int _ => true
  | .none => true
  | _ => false
theorem fEq_atm {ds : List D} (h : ds.all atm = true) : fEq false (.list ds) (.list ds) = some (.bool true) := by
  have key : ∀ ds : List D, ds.all atm = true → PyData.canLayAll0 ds = true ∧ PyData.depthAll ds = 0 ∧ PyData.eqvAll ds ds = true := by
    intro ds
    induction ds with
    | nil => intro _; exact ⟨rfl, rfl, rfl⟩
    | cons d ds ih =>
      intro h
      simp only [List.all_cons, Bool.and_eq_true] at h
      obtain ⟨a, b, c⟩ := ih h.2
      have h1 := h.1
      cases d <;> first | (cases h1; done) | (simp [PyData.canLayAll0, PyData.canLay0, PyData.depthAll, PyData.depth, PyData.eqvAll, PyData.eqv, a, b, c])
  obtain ⟨a, b, c⟩ := key ds h
  have h1 : eqOk (.list ds) (.list ds) = true := by
    unfold eqOk
    simp [SeqAt.shaped, PyData.canLay0, PyData.depth, a, b]
  have h2 : PyData.eqv (.list ds) (.list ds) = true := by
    simp only [PyData.eqv]
    exact c
  simp only [fEq]
  rw [if_pos h1, h2]
  rfl
theorem range15 : rangeF [.int 15] = some ((List.range 15).map fun (k : Nat) => .int k) := rangeF1 (n := 15) (by decide)
theorem fl_eqS (j : Nat) (hj : j < 17) (c : Str) (e : flB c = (List.range 17).map fun i => decide (i = j)) : fEq true (flD c) (.list (((List.range 17).map fun (k : Nat) => PyData.int (k : Int)).map (atD j))) = some (.bool false) := by
  unfold flD
  rw [at_map, ← e]
  exact fEq_bools true _
def goodV (v : Vl) : Prop := (∃ d, v = .t d ∧ plainD d) ∨ v = .loc 1
def endQ : Fl → Mu → Prop := defQX 0 false fun q m' => q = .ok (.t (.bool true)) ∧ m' = []
def tl : Sts → Sts
  | .cons _ r => r
  | .nil => .nil
theorem loop {a0 a3 a5 : Option Vl} {v : Vl} {c : Cell} {Q : Fl → Mu → Prop} (hv : goodV v) (q : ∀ L a3 a5, Q (.nx [a0, some (.loc 0), some v, a3, none, a5, none, none]) [c, .lst L false]) :
    wFor (callX prog 11) 0 l7_0 (.one 3) ((List.range 15).map fun (k : Nat) => .int k) [a0, some (.loc 0), some v, a3, none, a5, none, none] [c, .lst [.int 1, .none] false] Q := by
  refine wFor_inv (I := fun j r m' => ∃ L a3 a5, r = [a0, some (.loc 0), some v, a3, none, a5, none, none] ∧ m' = [c, .lst L false] ∧ L.all atm = true ∧ L.length ≤ 2 + j) _ 0 _ _ ⟨[.int 1, .none], a3, a5, rfl, rfl, rfl, by decide⟩ ?_ ?_
  · rintro j d r m' hd ⟨L, a3, a5, rfl, rfl, hL, hl⟩
    obtain ⟨hj, rfl⟩ := range_at hd
    refine ⟨_, rfl, ?_⟩
    rcases hv with ⟨d, rfl, hd⟩ | rfl
    · refine turn (x := .inl d) j hj rfl rfl (fun d' e => ?_) (fun n e => by cases e)
      cases e
      exact ⟨hd, L, _, _, rfl, rfl, hL, by omega⟩
    · refine turn (x := .inr 1) j hj rfl rfl (fun d' e => by cases e) (fun n e => ?_)
      cases e
      have hL' : (L ++ [PyData.int (j : Int)]).all atm = true := by simp [List.all_append, hL, atm]
      exact ⟨L, rfl, by omega, fEq_atm hL', L ++ [.int (j : Int)], _, _, rfl, rfl, hL', by simp; omega⟩
  · rintro r m' ⟨L, a3, a5, rfl, rfl, hL, hl⟩
    exact q _ _ _
theorem ne1 : fEq true (.tuple [.int 1]) (.tuple [.int 1]) = some (.bool false) := by
  have h1 : eqOk (.tuple [.int 1]) (.tuple [.int 1]) = true := by decide +kernel
  have h2 : PyData.eqv (.tuple [.int 1]) (.tuple [.int 1]) = true := by decide +kernel
  simp only [fEq]
  rw [if_pos h1, h2]
  rfl
theorem flU : flB "NothingToUndo" = (List.range 17).map fun i => decide (i = 15) := by decide +kernel
theorem flR : flB "NothingToRedo" = (List.range 17).map fun i => decide (i = 16) := by decide +kernel
def keepN : D → Bool := fun d => !isNone d
theorem restX (a0 : Option Vl) {v : Vl} (hv : goodV v) (c : Cell) : wXs (callX prog 11) 0 (tl (tl b7)) [a0, some (.loc 0), some v, none, none, none, none, none] [c, .lst [.int 1, .none] false] endQ := by
  unfold b7
  simp only [tl]
  rw [wXs_cons]
  simp only [TI.freeze_lst, TI.wO_mulS, TI.data_dct, TI.wN_rep, TI.wE_var, TI.wE_con, TI.wE_op, TI.wE_and, TI.wE_or, TI.wE_ife, TI.wE_chain, TI.wE_tup, TI.wE_new, TI.wE_mk, TI.wE_frz, TI.wE_call, TI.wE_callk, TI.wL_nil, TI.wL_cons, TI.wD_nil, TI.wD_cons, TI.wDn_t, TI.wDn_loc, TI.wV_nil, TI.wV_t, TI.wV_loc, TI.wN_lst, TI.wN_op, TI.wN_dct0, TI.wN_comp, TI.wS_val, TI.wS_range, TI.wS_enum, TI.wX_set, TI.wX_exp, TI.wX_ret, TI.wX_unp, TI.wX_par, TI.wX_app, TI.wX_ext, TI.wX_put, TI.wX_iff, TI.wX_for, TI.wX_whl, TI.wX_pass, TI.wX_brk, TI.wX_cont, TI.wXs_nil, TI.wXs_cons, TI.seqQ_rt, TI.seqQ_bk, TI.seqQ_ct, TI.wF_t, TI.wO_addI, TI.wO_addL, TI.wO_addS, TI.wO_sub, TI.wO_neg, TI.wO_mul, TI.wO_fdiv, TI.wO_mod, TI.wO_eq, TI.wO_ne, TI.wO_inn, TI.wO_nin, TI.wO_idx, TI.wO_len, TI.wO_toInt, TI.wO_toStr, TI.wO_lt, TI.wO_le, TI.wO_gt, TI.wO_ge, TI.wO_isN, TI.wO_notN, TI.wO_isB, TI.wO_notB, TI.wO_not, TI.wO_isi, TI.wO_repr, TI.wO_tuple, TI.wO_max2, TI.wO_min2, TI.nO_add, TI.nO_list, TI.nO_listT, TI.nO_rev, TI.nO_lo, TI.nO_hi, TI.nO_lohi, TI.fLen_list, TI.fLen_tuple, TI.fIdx_list, TI.fIdx_tuple, TI.fEq_str, TI.fEq_int, TI.srcF_list, TI.srcF_tuple, TI.lstF_list, TI.setTg_one, TI.setTg_many, TI.setMany_nil, TI.setMany_cons, TI.wipe_nil, TI.wipe_cons, TI.data_lst, TI.defQ_rt, TI.defQ_nx, TI.loopQ_nx, TI.loopQ_ct, TI.loopQ_bk, TI.loopQ_rt, TI.wX_rs, TI.wX_expx, TI.wX_retx, TI.wX_tri, TI.triQ_ex, TI.triQ_nx, TI.triQ_rt, TI.exF_ok, TI.exF_ex, TI.retF_ok, TI.retF_ex, TI.sim_t, TI.sim_loc, TI.s_inl, TI.s_inr, TI.wE_isx, TI.wE_fld, TI.wE_isNe, TI.wE_tupv, TI.wE_idxv, TI.wE_reprL, TI.seqQ_ex, TI.loopQ_ex, TI.wF_er, TI.wF_tv, TI.defQX_rt, TI.defQX_nx, TI.defQX_ex, TI.wC_X, TI.wS_zip, TI.okX_inl, TI.okX_inr, TI.XR_ok, TI.wE_get2, TI.wE_popAt, TI.wN_srtU, TI.wX_putd, TI.wX_par3, TI.wN_comp2, TI.wG_t, TI.wG_loc, TI.nO_dict, TI.wO_dict, TI.wE_mkE, TI.wE_mkB, TI.wE_isv, TI.wE_pick, List.getElem?_cons_zero, List.getElem?_cons_succ, List.set_cons_zero, List.set_cons_succ, TI.len_cons, TI.cons_get, TI.cons_set, TI.app_get, TI.app_get0, TI.app_set, TI.app_set0, TI.eq_add1, List.length_nil, List.map_cons, List.map_nil, List.replicate_succ, List.replicate_zero, List.cons_append, List.nil_append, Option.some.injEq, Vl.t.injEq, Vl.loc.injEq, PyData.bool.injEq, PyData.int.injEq, PyData.list.injEq, PyData.tuple.injEq, PyData.str.injEq, exists_eq, exists_eq', exists_eq_left, exists_eq_left', exists_eq_right, exists_eq_right', forall_eq, forall_eq', forall_const, true_and, and_true, Bool.true_eq_false, Bool.false_eq_true, reduceCtorEq, false_implies, true_implies, forall_eq_apply_imp_iff, List.append_assoc, TI.Cell.lst.injEq, List.getElem?_concat_length, List.take_left, List.length_append, TI.set_last, Nat.le_refl, Nat.lt_irrefl, not_true_eq_false, not_false_eq_true, if_true, if_false, ne_eq, Bool.not_true, Bool.not_false, Bool.not_eq_true, Bool.not_eq_false, decide_eq_true_eq, decide_true, decide_false, List.filterMap_cons, List.filterMap_nil, decide_eq_false_iff_not, if_neg, if_pos, Nat.reduceLeDiff, Int.reduceLE, Int.reduceLT, Int.reduceToNat, Int.reduceNeg, List.flatten_cons, List.flatten_nil, List.take_succ_cons, List.take_zero, Nat.reduceAdd, Nat.reduceLT, Nat.reduceEqDiff, Nat.zero_le, Nat.zero_add, Nat.add_zero, Nat.reduceSub, TI.W_len, TI.W_get0, TI.W_get, TI.W_set0, TI.W_set, TI.W_app, TI.W_take0, TI.W_take, TI.lt_loc, TI.lt_loc0, TI.le_loc, TI.le_loc0, range15]
  refine loop hv fun L a3 a5 => ?_
  have v0 := hasV "InvalidNumber" (by decide +kernel)
  have v1 := hasV "InvalidKind" (by decide +kernel)
  have v2 := hasV "InvalidValue" (by decide +kernel)
  have v3 := hasV "InvalidProgram" (by decide +kernel)
  have v4 := hasV "InvalidName" (by decide +kernel)
  have v5 := hasV "InvalidBill" (by decide +kernel)
  have v6 := hasV "InvalidPaper" (by decide +kernel)
  have v7 := hasV "InvalidRows" (by decide +kernel)
  have v8 := hasV "InvalidText" (by decide +kernel)
  have v9 := hasV "InvalidUnit" (by decide +kernel)
  have v10 := hasV "InvalidList" (by decide +kernel)
  have v11 := hasV "InvalidDeed" (by decide +kernel)
  have v12 := hasV "InvalidFlag" (by decide +kernel)
  have v13 := hasV "Unlike" (by decide +kernel)
  have v14 := hasV "TooMany" (by decide +kernel)
  rw [seqQ_nx, wXs_cons]
  simp only [TI.freeze_lst, TI.wO_mulS, TI.data_dct, TI.wN_rep, TI.wE_var, TI.wE_con, TI.wE_op, TI.wE_and, TI.wE_or, TI.wE_ife, TI.wE_chain, TI.wE_tup, TI.wE_new, TI.wE_mk, TI.wE_frz, TI.wE_call, TI.wE_callk, TI.wL_nil, TI.wL_cons, TI.wD_nil, TI.wD_cons, TI.wDn_t, TI.wDn_loc, TI.wV_nil, TI.wV_t, TI.wV_loc, TI.wN_lst, TI.wN_op, TI.wN_dct0, TI.wN_comp, TI.wS_val, TI.wS_range, TI.wS_enum, TI.wX_set, TI.wX_exp, TI.wX_ret, TI.wX_unp, TI.wX_par, TI.wX_app, TI.wX_ext, TI.wX_put, TI.wX_iff, TI.wX_for, TI.wX_whl, TI.wX_pass, TI.wX_brk, TI.wX_cont, TI.wXs_nil, TI.wXs_cons, TI.seqQ_rt, TI.seqQ_bk, TI.seqQ_ct, TI.wF_t, TI.wO_addI, TI.wO_addL, TI.wO_addS, TI.wO_sub, TI.wO_neg, TI.wO_mul, TI.wO_fdiv, TI.wO_mod, TI.wO_eq, TI.wO_ne, TI.wO_inn, TI.wO_nin, TI.wO_idx, TI.wO_len, TI.wO_toInt, TI.wO_toStr, TI.wO_lt, TI.wO_le, TI.wO_gt, TI.wO_ge, TI.wO_isN, TI.wO_notN, TI.wO_isB, TI.wO_notB, TI.wO_not, TI.wO_isi, TI.wO_repr, TI.wO_tuple, TI.wO_max2, TI.wO_min2, TI.nO_add, TI.nO_list, TI.nO_listT, TI.nO_rev, TI.nO_lo, TI.nO_hi, TI.nO_lohi, TI.fLen_list, TI.fLen_tuple, TI.fIdx_list, TI.fIdx_tuple, TI.fEq_str, TI.fEq_int, TI.srcF_list, TI.srcF_tuple, TI.lstF_list, TI.setTg_one, TI.setTg_many, TI.setMany_nil, TI.setMany_cons, TI.wipe_nil, TI.wipe_cons, TI.data_lst, TI.defQ_rt, TI.defQ_nx, TI.loopQ_nx, TI.loopQ_ct, TI.loopQ_bk, TI.loopQ_rt, TI.wX_rs, TI.wX_expx, TI.wX_retx, TI.wX_tri, TI.triQ_ex, TI.triQ_nx, TI.triQ_rt, TI.exF_ok, TI.exF_ex, TI.retF_ok, TI.retF_ex, TI.sim_t, TI.sim_loc, TI.s_inl, TI.s_inr, TI.wE_isx, TI.wE_fld, TI.wE_isNe, TI.wE_tupv, TI.wE_idxv, TI.wE_reprL, TI.seqQ_ex, TI.loopQ_ex, TI.wF_er, TI.wF_tv, TI.defQX_rt, TI.defQX_nx, TI.defQX_ex, TI.wC_X, TI.wS_zip, TI.okX_inl, TI.okX_inr, TI.XR_ok, TI.wE_get2, TI.wE_popAt, TI.wN_srtU, TI.wX_putd, TI.wX_par3, TI.wN_comp2, TI.wG_t, TI.wG_loc, TI.nO_dict, TI.wO_dict, TI.wE_mkE, TI.wE_mkB, TI.wE_isv, TI.wE_pick, List.getElem?_cons_zero, List.getElem?_cons_succ, List.set_cons_zero, List.set_cons_succ, TI.len_cons, TI.cons_get, TI.cons_set, TI.app_get, TI.app_get0, TI.app_set, TI.app_set0, TI.eq_add1, List.length_nil, List.map_cons, List.map_nil, List.replicate_succ, List.replicate_zero, List.cons_append, List.nil_append, Option.some.injEq, Vl.t.injEq, Vl.loc.injEq, PyData.bool.injEq, PyData.int.injEq, PyData.list.injEq, PyData.tuple.injEq, PyData.str.injEq, exists_eq, exists_eq', exists_eq_left, exists_eq_left', exists_eq_right, exists_eq_right', forall_eq, forall_eq', forall_const, true_and, and_true, Bool.true_eq_false, Bool.false_eq_true, reduceCtorEq, false_implies, true_implies, forall_eq_apply_imp_iff, List.append_assoc, TI.Cell.lst.injEq, List.getElem?_concat_length, List.take_left, List.length_append, TI.set_last, Nat.le_refl, Nat.lt_irrefl, not_true_eq_false, not_false_eq_true, if_true, if_false, ne_eq, Bool.not_true, Bool.not_false, Bool.not_eq_true, Bool.not_eq_false, decide_eq_true_eq, decide_true, decide_false, List.filterMap_cons, List.filterMap_nil, decide_eq_false_iff_not, if_neg, if_pos, Nat.reduceLeDiff, Int.reduceLE, Int.reduceLT, Int.reduceToNat, Int.reduceNeg, List.flatten_cons, List.flatten_nil, List.take_succ_cons, List.take_zero, Nat.reduceAdd, Nat.reduceLT, Nat.reduceEqDiff, Nat.zero_le, Nat.zero_add, Nat.add_zero, Nat.reduceSub, TI.W_len, TI.W_get0, TI.W_get, TI.W_set0, TI.W_set, TI.W_app, TI.W_take0, TI.W_take, TI.lt_loc, TI.lt_loc0, TI.le_loc, TI.le_loc0, v0, v1, v2, v3, v4, v5, v6, v7, v8, v9, v10, v11, v12, v13, v14]
  rw [seqQ_nx, wXs_cons]
  simp only [TI.freeze_lst, TI.wO_mulS, TI.data_dct, TI.wN_rep, TI.wE_var, TI.wE_con, TI.wE_op, TI.wE_and, TI.wE_or, TI.wE_ife, TI.wE_chain, TI.wE_tup, TI.wE_new, TI.wE_mk, TI.wE_frz, TI.wE_call, TI.wE_callk, TI.wL_nil, TI.wL_cons, TI.wD_nil, TI.wD_cons, TI.wDn_t, TI.wDn_loc, TI.wV_nil, TI.wV_t, TI.wV_loc, TI.wN_lst, TI.wN_op, TI.wN_dct0, TI.wN_comp, TI.wS_val, TI.wS_range, TI.wS_enum, TI.wX_set, TI.wX_exp, TI.wX_ret, TI.wX_unp, TI.wX_par, TI.wX_app, TI.wX_ext, TI.wX_put, TI.wX_iff, TI.wX_for, TI.wX_whl, TI.wX_pass, TI.wX_brk, TI.wX_cont, TI.wXs_nil, TI.wXs_cons, TI.seqQ_rt, TI.seqQ_bk, TI.seqQ_ct, TI.wF_t, TI.wO_addI, TI.wO_addL, TI.wO_addS, TI.wO_sub, TI.wO_neg, TI.wO_mul, TI.wO_fdiv, TI.wO_mod, TI.wO_eq, TI.wO_ne, TI.wO_inn, TI.wO_nin, TI.wO_idx, TI.wO_len, TI.wO_toInt, TI.wO_toStr, TI.wO_lt, TI.wO_le, TI.wO_gt, TI.wO_ge, TI.wO_isN, TI.wO_notN, TI.wO_isB, TI.wO_notB, TI.wO_not, TI.wO_isi, TI.wO_repr, TI.wO_tuple, TI.wO_max2, TI.wO_min2, TI.nO_add, TI.nO_list, TI.nO_listT, TI.nO_rev, TI.nO_lo, TI.nO_hi, TI.nO_lohi, TI.fLen_list, TI.fLen_tuple, TI.fIdx_list, TI.fIdx_tuple, TI.fEq_str, TI.fEq_int, TI.srcF_list, TI.srcF_tuple, TI.lstF_list, TI.setTg_one, TI.setTg_many, TI.setMany_nil, TI.setMany_cons, TI.wipe_nil, TI.wipe_cons, TI.data_lst, TI.defQ_rt, TI.defQ_nx, TI.loopQ_nx, TI.loopQ_ct, TI.loopQ_bk, TI.loopQ_rt, TI.wX_rs, TI.wX_expx, TI.wX_retx, TI.wX_tri, TI.triQ_ex, TI.triQ_nx, TI.triQ_rt, TI.exF_ok, TI.exF_ex, TI.retF_ok, TI.retF_ex, TI.sim_t, TI.sim_loc, TI.s_inl, TI.s_inr, TI.wE_isx, TI.wE_fld, TI.wE_isNe, TI.wE_tupv, TI.wE_idxv, TI.wE_reprL, TI.seqQ_ex, TI.loopQ_ex, TI.wF_er, TI.wF_tv, TI.defQX_rt, TI.defQX_nx, TI.defQX_ex, TI.wC_X, TI.wS_zip, TI.okX_inl, TI.okX_inr, TI.XR_ok, TI.wE_get2, TI.wE_popAt, TI.wN_srtU, TI.wX_putd, TI.wX_par3, TI.wN_comp2, TI.wG_t, TI.wG_loc, TI.nO_dict, TI.wO_dict, TI.wE_mkE, TI.wE_mkB, TI.wE_isv, TI.wE_pick, List.getElem?_cons_zero, List.getElem?_cons_succ, List.set_cons_zero, List.set_cons_succ, TI.len_cons, TI.cons_get, TI.cons_set, TI.app_get, TI.app_get0, TI.app_set, TI.app_set0, TI.eq_add1, List.length_nil, List.map_cons, List.map_nil, List.replicate_succ, List.replicate_zero, List.cons_append, List.nil_append, Option.some.injEq, Vl.t.injEq, Vl.loc.injEq, PyData.bool.injEq, PyData.int.injEq, PyData.list.injEq, PyData.tuple.injEq, PyData.str.injEq, exists_eq, exists_eq', exists_eq_left, exists_eq_left', exists_eq_right, exists_eq_right', forall_eq, forall_eq', forall_const, true_and, and_true, Bool.true_eq_false, Bool.false_eq_true, reduceCtorEq, false_implies, true_implies, forall_eq_apply_imp_iff, List.append_assoc, TI.Cell.lst.injEq, List.getElem?_concat_length, List.take_left, List.length_append, TI.set_last, Nat.le_refl, Nat.lt_irrefl, not_true_eq_false, not_false_eq_true, if_true, if_false, ne_eq, Bool.not_true, Bool.not_false, Bool.not_eq_true, Bool.not_eq_false, decide_eq_true_eq, decide_true, decide_false, List.filterMap_cons, List.filterMap_nil, decide_eq_false_iff_not, if_neg, if_pos, Nat.reduceLeDiff, Int.reduceLE, Int.reduceLT, Int.reduceToNat, Int.reduceNeg, List.flatten_cons, List.flatten_nil, List.take_succ_cons, List.take_zero, Nat.reduceAdd, Nat.reduceLT, Nat.reduceEqDiff, Nat.zero_le, Nat.zero_add, Nat.add_zero, Nat.reduceSub, TI.W_len, TI.W_get0, TI.W_get, TI.W_set0, TI.W_set, TI.W_app, TI.W_take0, TI.W_take, TI.lt_loc, TI.lt_loc0, TI.le_loc, TI.le_loc0, v0, v1, v2, v3, v4, v5, v6, v7, v8, v9, v10, v11, v12, v13, v14]
  rw [seqQ_nx, wXs_cons]
  simp only [TI.freeze_lst, TI.wO_mulS, TI.data_dct, TI.wN_rep, TI.wE_var, TI.wE_con, TI.wE_op, TI.wE_and, TI.wE_or, TI.wE_ife, TI.wE_chain, TI.wE_tup, TI.wE_new, TI.wE_mk, TI.wE_frz, TI.wE_call, TI.wE_callk, TI.wL_nil, TI.wL_cons, TI.wD_nil, TI.wD_cons, TI.wDn_t, TI.wDn_loc, TI.wV_nil, TI.wV_t, TI.wV_loc, TI.wN_lst, TI.wN_op, TI.wN_dct0, TI.wN_comp, TI.wS_val, TI.wS_range, TI.wS_enum, TI.wX_set, TI.wX_exp, TI.wX_ret, TI.wX_unp, TI.wX_par, TI.wX_app, TI.wX_ext, TI.wX_put, TI.wX_iff, TI.wX_for, TI.wX_whl, TI.wX_pass, TI.wX_brk, TI.wX_cont, TI.wXs_nil, TI.wXs_cons, TI.seqQ_rt, TI.seqQ_bk, TI.seqQ_ct, TI.wF_t, TI.wO_addI, TI.wO_addL, TI.wO_addS, TI.wO_sub, TI.wO_neg, TI.wO_mul, TI.wO_fdiv, TI.wO_mod, TI.wO_eq, TI.wO_ne, TI.wO_inn, TI.wO_nin, TI.wO_idx, TI.wO_len, TI.wO_toInt, TI.wO_toStr, TI.wO_lt, TI.wO_le, TI.wO_gt, TI.wO_ge, TI.wO_isN, TI.wO_notN, TI.wO_isB, TI.wO_notB, TI.wO_not, TI.wO_isi, TI.wO_repr, TI.wO_tuple, TI.wO_max2, TI.wO_min2, TI.nO_add, TI.nO_list, TI.nO_listT, TI.nO_rev, TI.nO_lo, TI.nO_hi, TI.nO_lohi, TI.fLen_list, TI.fLen_tuple, TI.fIdx_list, TI.fIdx_tuple, TI.fEq_str, TI.fEq_int, TI.srcF_list, TI.srcF_tuple, TI.lstF_list, TI.setTg_one, TI.setTg_many, TI.setMany_nil, TI.setMany_cons, TI.wipe_nil, TI.wipe_cons, TI.data_lst, TI.defQ_rt, TI.defQ_nx, TI.loopQ_nx, TI.loopQ_ct, TI.loopQ_bk, TI.loopQ_rt, TI.wX_rs, TI.wX_expx, TI.wX_retx, TI.wX_tri, TI.triQ_ex, TI.triQ_nx, TI.triQ_rt, TI.exF_ok, TI.exF_ex, TI.retF_ok, TI.retF_ex, TI.sim_t, TI.sim_loc, TI.s_inl, TI.s_inr, TI.wE_isx, TI.wE_fld, TI.wE_isNe, TI.wE_tupv, TI.wE_idxv, TI.wE_reprL, TI.seqQ_ex, TI.loopQ_ex, TI.wF_er, TI.wF_tv, TI.defQX_rt, TI.defQX_nx, TI.defQX_ex, TI.wC_X, TI.wS_zip, TI.okX_inl, TI.okX_inr, TI.XR_ok, TI.wE_get2, TI.wE_popAt, TI.wN_srtU, TI.wX_putd, TI.wX_par3, TI.wN_comp2, TI.wG_t, TI.wG_loc, TI.nO_dict, TI.wO_dict, TI.wE_mkE, TI.wE_mkB, TI.wE_isv, TI.wE_pick, List.getElem?_cons_zero, List.getElem?_cons_succ, List.set_cons_zero, List.set_cons_succ, TI.len_cons, TI.cons_get, TI.cons_set, TI.app_get, TI.app_get0, TI.app_set, TI.app_set0, TI.eq_add1, List.length_nil, List.map_cons, List.map_nil, List.replicate_succ, List.replicate_zero, List.cons_append, List.nil_append, Option.some.injEq, Vl.t.injEq, Vl.loc.injEq, PyData.bool.injEq, PyData.int.injEq, PyData.list.injEq, PyData.tuple.injEq, PyData.str.injEq, exists_eq, exists_eq', exists_eq_left, exists_eq_left', exists_eq_right, exists_eq_right', forall_eq, forall_eq', forall_const, true_and, and_true, Bool.true_eq_false, Bool.false_eq_true, reduceCtorEq, false_implies, true_implies, forall_eq_apply_imp_iff, List.append_assoc, TI.Cell.lst.injEq, List.getElem?_concat_length, List.take_left, List.length_append, TI.set_last, Nat.le_refl, Nat.lt_irrefl, not_true_eq_false, not_false_eq_true, if_true, if_false, ne_eq, Bool.not_true, Bool.not_false, Bool.not_eq_true, Bool.not_eq_false, decide_eq_true_eq, decide_true, decide_false, List.filterMap_cons, List.filterMap_nil, decide_eq_false_iff_not, if_neg, if_pos, Nat.reduceLeDiff, Int.reduceLE, Int.reduceLT, Int.reduceToNat, Int.reduceNeg, List.flatten_cons, List.flatten_nil, List.take_succ_cons, List.take_zero, Nat.reduceAdd, Nat.reduceLT, Nat.reduceEqDiff, Nat.zero_le, Nat.zero_add, Nat.add_zero, Nat.reduceSub, TI.W_len, TI.W_get0, TI.W_get, TI.W_set0, TI.W_set, TI.W_app, TI.W_take0, TI.W_take, TI.lt_loc, TI.lt_loc0, TI.le_loc, TI.le_loc0, v0, v1, v2, v3, v4, v5, v6, v7, v8, v9, v10, v11, v12, v13, v14]
  rw [seqQ_nx, wXs_cons]
  simp only [TI.freeze_lst, TI.wO_mulS, TI.data_dct, TI.wN_rep, TI.wE_var, TI.wE_con, TI.wE_op, TI.wE_and, TI.wE_or, TI.wE_ife, TI.wE_chain, TI.wE_tup, TI.wE_new, TI.wE_mk, TI.wE_frz, TI.wE_call, TI.wE_callk, TI.wL_nil, TI.wL_cons, TI.wD_nil, TI.wD_cons, TI.wDn_t, TI.wDn_loc, TI.wV_nil, TI.wV_t, TI.wV_loc, TI.wN_lst, TI.wN_op, TI.wN_dct0, TI.wN_comp, TI.wS_val, TI.wS_range, TI.wS_enum, TI.wX_set, TI.wX_exp, TI.wX_ret, TI.wX_unp, TI.wX_par, TI.wX_app, TI.wX_ext, TI.wX_put, TI.wX_iff, TI.wX_for, TI.wX_whl, TI.wX_pass, TI.wX_brk, TI.wX_cont, TI.wXs_nil, TI.wXs_cons, TI.seqQ_rt, TI.seqQ_bk, TI.seqQ_ct, TI.wF_t, TI.wO_addI, TI.wO_addL, TI.wO_addS, TI.wO_sub, TI.wO_neg, TI.wO_mul, TI.wO_fdiv, TI.wO_mod, TI.wO_eq, TI.wO_ne, TI.wO_inn, TI.wO_nin, TI.wO_idx, TI.wO_len, TI.wO_toInt, TI.wO_toStr, TI.wO_lt, TI.wO_le, TI.wO_gt, TI.wO_ge, TI.wO_isN, TI.wO_notN, TI.wO_isB, TI.wO_notB, TI.wO_not, TI.wO_isi, TI.wO_repr, TI.wO_tuple, TI.wO_max2, TI.wO_min2, TI.nO_add, TI.nO_list, TI.nO_listT, TI.nO_rev, TI.nO_lo, TI.nO_hi, TI.nO_lohi, TI.fLen_list, TI.fLen_tuple, TI.fIdx_list, TI.fIdx_tuple, TI.fEq_str, TI.fEq_int, TI.srcF_list, TI.srcF_tuple, TI.lstF_list, TI.setTg_one, TI.setTg_many, TI.setMany_nil, TI.setMany_cons, TI.wipe_nil, TI.wipe_cons, TI.data_lst, TI.defQ_rt, TI.defQ_nx, TI.loopQ_nx, TI.loopQ_ct, TI.loopQ_bk, TI.loopQ_rt, TI.wX_rs, TI.wX_expx, TI.wX_retx, TI.wX_tri, TI.triQ_ex, TI.triQ_nx, TI.triQ_rt, TI.exF_ok, TI.exF_ex, TI.retF_ok, TI.retF_ex, TI.sim_t, TI.sim_loc, TI.s_inl, TI.s_inr, TI.wE_isx, TI.wE_fld, TI.wE_isNe, TI.wE_tupv, TI.wE_idxv, TI.wE_reprL, TI.seqQ_ex, TI.loopQ_ex, TI.wF_er, TI.wF_tv, TI.defQX_rt, TI.defQX_nx, TI.defQX_ex, TI.wC_X, TI.wS_zip, TI.okX_inl, TI.okX_inr, TI.XR_ok, TI.wE_get2, TI.wE_popAt, TI.wN_srtU, TI.wX_putd, TI.wX_par3, TI.wN_comp2, TI.wG_t, TI.wG_loc, TI.nO_dict, TI.wO_dict, TI.wE_mkE, TI.wE_mkB, TI.wE_isv, TI.wE_pick, List.getElem?_cons_zero, List.getElem?_cons_succ, List.set_cons_zero, List.set_cons_succ, TI.len_cons, TI.cons_get, TI.cons_set, TI.app_get, TI.app_get0, TI.app_set, TI.app_set0, TI.eq_add1, List.length_nil, List.map_cons, List.map_nil, List.replicate_succ, List.replicate_zero, List.cons_append, List.nil_append, Option.some.injEq, Vl.t.injEq, Vl.loc.injEq, PyData.bool.injEq, PyData.int.injEq, PyData.list.injEq, PyData.tuple.injEq, PyData.str.injEq, exists_eq, exists_eq', exists_eq_left, exists_eq_left', exists_eq_right, exists_eq_right', forall_eq, forall_eq', forall_const, true_and, and_true, Bool.true_eq_false, Bool.false_eq_true, reduceCtorEq, false_implies, true_implies, forall_eq_apply_imp_iff, List.append_assoc, TI.Cell.lst.injEq, List.getElem?_concat_length, List.take_left, List.length_append, TI.set_last, Nat.le_refl, Nat.lt_irrefl, not_true_eq_false, not_false_eq_true, if_true, if_false, ne_eq, Bool.not_true, Bool.not_false, Bool.not_eq_true, Bool.not_eq_false, decide_eq_true_eq, decide_true, decide_false, List.filterMap_cons, List.filterMap_nil, decide_eq_false_iff_not, if_neg, if_pos, Nat.reduceLeDiff, Int.reduceLE, Int.reduceLT, Int.reduceToNat, Int.reduceNeg, List.flatten_cons, List.flatten_nil, List.take_succ_cons, List.take_zero, Nat.reduceAdd, Nat.reduceLT, Nat.reduceEqDiff, Nat.zero_le, Nat.zero_add, Nat.add_zero, Nat.reduceSub, TI.W_len, TI.W_get0, TI.W_get, TI.W_set0, TI.W_set, TI.W_app, TI.W_take0, TI.W_take, TI.lt_loc, TI.lt_loc0, TI.le_loc, TI.le_loc0, wipeE, v0, v1, v2, v3, v4, v5, v6, v7, v8, v9, v10, v11, v12, v13, v14]
  refine wCp_pureIf (m := [c, .lst L false]) (f := id) (p := keepN) _ (by decide) (fun a d hd => ⟨_, rfl, ?_, ?_⟩) ?_
  · simp [TI.freeze_lst, TI.wO_mulS, TI.data_dct, TI.wN_rep, TI.wE_var, TI.wE_con, TI.wE_op, TI.wE_and, TI.wE_or, TI.wE_ife, TI.wE_chain, TI.wE_tup, TI.wE_new, TI.wE_mk, TI.wE_frz, TI.wE_call, TI.wE_callk, TI.wL_nil, TI.wL_cons, TI.wD_nil, TI.wD_cons, TI.wDn_t, TI.wDn_loc, TI.wV_nil, TI.wV_t, TI.wV_loc, TI.wN_lst, TI.wN_op, TI.wN_dct0, TI.wN_comp, TI.wS_val, TI.wS_range, TI.wS_enum, TI.wX_set, TI.wX_exp, TI.wX_ret, TI.wX_unp, TI.wX_par, TI.wX_app, TI.wX_ext, TI.wX_put, TI.wX_iff, TI.wX_for, TI.wX_whl, TI.wX_pass, TI.wX_brk, TI.wX_cont, TI.wXs_nil, TI.wXs_cons, TI.seqQ_nx, TI.seqQ_rt, TI.seqQ_bk, TI.seqQ_ct, TI.wF_t, TI.wO_addI, TI.wO_addL, TI.wO_addS, TI.wO_sub, TI.wO_neg, TI.wO_mul, TI.wO_fdiv, TI.wO_mod, TI.wO_eq, TI.wO_ne, TI.wO_inn, TI.wO_nin, TI.wO_idx, TI.wO_len, TI.wO_toInt, TI.wO_toStr, TI.wO_lt, TI.wO_le, TI.wO_gt, TI.wO_ge, TI.wO_isN, TI.wO_notN, TI.wO_isB, TI.wO_notB, TI.wO_not, TI.wO_isi, TI.wO_repr, TI.wO_tuple, TI.wO_max2, TI.wO_min2, TI.nO_add, TI.nO_list, TI.nO_listT, TI.nO_rev, TI.nO_lo, TI.nO_hi, TI.nO_lohi, TI.fLen_list, TI.fLen_tuple, TI.fIdx_list, TI.fIdx_tuple, TI.fEq_str, TI.fEq_int, TI.srcF_list, TI.srcF_tuple, TI.lstF_list, TI.setTg_one, TI.setTg_many, TI.setMany_nil, TI.setMany_cons, TI.wipe_nil, TI.wipe_cons, TI.data_lst, TI.defQ_rt, TI.defQ_nx, TI.loopQ_nx, TI.loopQ_ct, TI.loopQ_bk, TI.loopQ_rt, TI.wX_rs, TI.wX_expx, TI.wX_retx, TI.wX_tri, TI.triQ_ex, TI.triQ_nx, TI.triQ_rt, TI.exF_ok, TI.exF_ex, TI.retF_ok, TI.retF_ex, TI.sim_t, TI.sim_loc, TI.s_inl, TI.s_inr, TI.wE_isx, TI.wE_fld, TI.wE_isNe, TI.wE_tupv, TI.wE_idxv, TI.wE_reprL, TI.seqQ_ex, TI.loopQ_ex, TI.wF_er, TI.wF_tv, TI.defQX_rt, TI.defQX_nx, TI.defQX_ex, TI.wC_X, TI.wS_zip, TI.okX_inl, TI.okX_inr, TI.XR_ok, TI.wE_get2, TI.wE_popAt, TI.wN_srtU, TI.wX_putd, TI.wX_par3, TI.wN_comp2, TI.wG_t, TI.wG_loc, TI.nO_dict, TI.wO_dict, TI.wE_mkE, TI.wE_mkB, TI.wE_isv, TI.wE_pick, List.getElem?_cons_zero, List.getElem?_cons_succ, List.set_cons_zero, List.set_cons_succ, TI.len_cons, TI.cons_get, TI.cons_set, TI.app_get, TI.app_get0, TI.app_set, TI.app_set0, TI.eq_add1, List.length_nil, List.map_cons, List.map_nil, List.replicate_succ, List.replicate_zero, List.cons_append, List.nil_append, Option.some.injEq, Vl.t.injEq, Vl.loc.injEq, PyData.bool.injEq, PyData.int.injEq, PyData.list.injEq, PyData.tuple.injEq, PyData.str.injEq, exists_eq, exists_eq', exists_eq_left, exists_eq_left', exists_eq_right, exists_eq_right', forall_eq, forall_eq', forall_const, true_and, and_true, Bool.true_eq_false, Bool.false_eq_true, reduceCtorEq, false_implies, true_implies, forall_eq_apply_imp_iff, List.append_assoc, TI.Cell.lst.injEq, List.getElem?_concat_length, List.take_left, List.length_append, TI.set_last, Nat.le_refl, Nat.lt_irrefl, not_true_eq_false, not_false_eq_true, if_true, if_false, ne_eq, Bool.not_true, Bool.not_false, Bool.not_eq_true, Bool.not_eq_false, decide_eq_true_eq, decide_true, decide_false, List.filterMap_cons, List.filterMap_nil, decide_eq_false_iff_not, if_neg, if_pos, Nat.reduceLeDiff, Int.reduceLE, Int.reduceLT, Int.reduceToNat, Int.reduceNeg, List.flatten_cons, List.flatten_nil, List.take_succ_cons, List.take_zero, Nat.reduceAdd, Nat.reduceLT, Nat.reduceEqDiff, Nat.zero_le, Nat.zero_add, Nat.add_zero, Nat.reduceSub, TI.W_len, TI.W_get0, TI.W_get, TI.W_set0, TI.W_set, TI.W_app, TI.W_take0, TI.W_take, TI.lt_loc, TI.lt_loc0, TI.le_loc, TI.le_loc0, keepN]
  · simp [TI.freeze_lst, TI.wO_mulS, TI.data_dct, TI.wN_rep, TI.wE_var, TI.wE_con, TI.wE_op, TI.wE_and, TI.wE_or, TI.wE_ife, TI.wE_chain, TI.wE_tup, TI.wE_new, TI.wE_mk, TI.wE_frz, TI.wE_call, TI.wE_callk, TI.wL_nil, TI.wL_cons, TI.wD_nil, TI.wD_cons, TI.wDn_t, TI.wDn_loc, TI.wV_nil, TI.wV_t, TI.wV_loc, TI.wN_lst, TI.wN_op, TI.wN_dct0, TI.wN_comp, TI.wS_val, TI.wS_range, TI.wS_enum, TI.wX_set, TI.wX_exp, TI.wX_ret, TI.wX_unp, TI.wX_par, TI.wX_app, TI.wX_ext, TI.wX_put, TI.wX_iff, TI.wX_for, TI.wX_whl, TI.wX_pass, TI.wX_brk, TI.wX_cont, TI.wXs_nil, TI.wXs_cons, TI.seqQ_nx, TI.seqQ_rt, TI.seqQ_bk, TI.seqQ_ct, TI.wF_t, TI.wO_addI, TI.wO_addL, TI.wO_addS, TI.wO_sub, TI.wO_neg, TI.wO_mul, TI.wO_fdiv, TI.wO_mod, TI.wO_eq, TI.wO_ne, TI.wO_inn, TI.wO_nin, TI.wO_idx, TI.wO_len, TI.wO_toInt, TI.wO_toStr, TI.wO_lt, TI.wO_le, TI.wO_gt, TI.wO_ge, TI.wO_isN, TI.wO_notN, TI.wO_isB, TI.wO_notB, TI.wO_not, TI.wO_isi, TI.wO_repr, TI.wO_tuple, TI.wO_max2, TI.wO_min2, TI.nO_add, TI.nO_list, TI.nO_listT, TI.nO_rev, TI.nO_lo, TI.nO_hi, TI.nO_lohi, TI.fLen_list, TI.fLen_tuple, TI.fIdx_list, TI.fIdx_tuple, TI.fEq_str, TI.fEq_int, TI.srcF_list, TI.srcF_tuple, TI.lstF_list, TI.setTg_one, TI.setTg_many, TI.setMany_nil, TI.setMany_cons, TI.wipe_nil, TI.wipe_cons, TI.data_lst, TI.defQ_rt, TI.defQ_nx, TI.loopQ_nx, TI.loopQ_ct, TI.loopQ_bk, TI.loopQ_rt, TI.wX_rs, TI.wX_expx, TI.wX_retx, TI.wX_tri, TI.triQ_ex, TI.triQ_nx, TI.triQ_rt, TI.exF_ok, TI.exF_ex, TI.retF_ok, TI.retF_ex, TI.sim_t, TI.sim_loc, TI.s_inl, TI.s_inr, TI.wE_isx, TI.wE_fld, TI.wE_isNe, TI.wE_tupv, TI.wE_idxv, TI.wE_reprL, TI.seqQ_ex, TI.loopQ_ex, TI.wF_er, TI.wF_tv, TI.defQX_rt, TI.defQX_nx, TI.defQX_ex, TI.wC_X, TI.wS_zip, TI.okX_inl, TI.okX_inr, TI.XR_ok, TI.wE_get2, TI.wE_popAt, TI.wN_srtU, TI.wX_putd, TI.wX_par3, TI.wN_comp2, TI.wG_t, TI.wG_loc, TI.nO_dict, TI.wO_dict, TI.wE_mkE, TI.wE_mkB, TI.wE_isv, TI.wE_pick, List.getElem?_cons_zero, List.getElem?_cons_succ, List.set_cons_zero, List.set_cons_succ, TI.len_cons, TI.cons_get, TI.cons_set, TI.app_get, TI.app_get0, TI.app_set, TI.app_set0, TI.eq_add1, List.length_nil, List.map_cons, List.map_nil, List.replicate_succ, List.replicate_zero, List.cons_append, List.nil_append, Option.some.injEq, Vl.t.injEq, Vl.loc.injEq, PyData.bool.injEq, PyData.int.injEq, PyData.list.injEq, PyData.tuple.injEq, PyData.str.injEq, exists_eq, exists_eq', exists_eq_left, exists_eq_left', exists_eq_right, exists_eq_right', forall_eq, forall_eq', forall_const, true_and, and_true, Bool.true_eq_false, Bool.false_eq_true, reduceCtorEq, false_implies, true_implies, forall_eq_apply_imp_iff, List.append_assoc, TI.Cell.lst.injEq, List.getElem?_concat_length, List.take_left, List.length_append, TI.set_last, Nat.le_refl, Nat.lt_irrefl, not_true_eq_false, not_false_eq_true, if_true, if_false, ne_eq, Bool.not_true, Bool.not_false, Bool.not_eq_true, Bool.not_eq_false, decide_eq_true_eq, decide_true, decide_false, List.filterMap_cons, List.filterMap_nil, decide_eq_false_iff_not, if_neg, if_pos, Nat.reduceLeDiff, Int.reduceLE, Int.reduceLT, Int.reduceToNat, Int.reduceNeg, List.flatten_cons, List.flatten_nil, List.take_succ_cons, List.take_zero, Nat.reduceAdd, Nat.reduceLT, Nat.reduceEqDiff, Nat.zero_le, Nat.zero_add, Nat.add_zero, Nat.reduceSub, TI.W_len, TI.W_get0, TI.W_get, TI.W_set0, TI.W_set, TI.W_app, TI.W_take0, TI.W_take, TI.lt_loc, TI.lt_loc0, TI.le_loc, TI.le_loc0]
  refine ⟨[], rfl, rfl, _, fEq_nil true [], false, rfl, (fun h => by cases h), fun _ => ⟨_, ne1, false, rfl, (fun h => by cases h), fun _ => ?_⟩⟩
  have et : List.take 2 ([c, Cell.lst L false] ++ [Cell.lst (List.map id (List.filter keepN [PyData.none, PyData.none, PyData.none, PyData.none, PyData.none, PyData.none, PyData.none, PyData.none, PyData.none, PyData.none, PyData.none, PyData.none, PyData.none, PyData.none, PyData.none])) false]) = [c, .lst L false] := rfl
  rw [et, seqQ_nx, wXs_cons]
  have hU := e6 10 [c, .lst L false] "NothingToUndo" (.inl .none) (by decide +kernel)
  have hR := e6 10 [c, .lst L false] "NothingToRedo" (.inl .none) (by decide +kernel)
  simp only [TI.freeze_lst, TI.wO_mulS, TI.data_dct, TI.wN_rep, TI.wE_var, TI.wE_con, TI.wE_op, TI.wE_and, TI.wE_or, TI.wE_ife, TI.wE_chain, TI.wE_tup, TI.wE_new, TI.wE_mk, TI.wE_frz, TI.wE_call, TI.wE_callk, TI.wL_nil, TI.wL_cons, TI.wD_nil, TI.wD_cons, TI.wDn_t, TI.wDn_loc, TI.wV_nil, TI.wV_t, TI.wV_loc, TI.wN_lst, TI.wN_op, TI.wN_dct0, TI.wN_comp, TI.wS_val, TI.wS_range, TI.wS_enum, TI.wX_set, TI.wX_exp, TI.wX_ret, TI.wX_unp, TI.wX_par, TI.wX_app, TI.wX_ext, TI.wX_put, TI.wX_iff, TI.wX_for, TI.wX_whl, TI.wX_pass, TI.wX_brk, TI.wX_cont, TI.wXs_nil, TI.wXs_cons, TI.seqQ_rt, TI.seqQ_bk, TI.seqQ_ct, TI.wF_t, TI.wO_addI, TI.wO_addL, TI.wO_addS, TI.wO_sub, TI.wO_neg, TI.wO_mul, TI.wO_fdiv, TI.wO_mod, TI.wO_eq, TI.wO_ne, TI.wO_inn, TI.wO_nin, TI.wO_idx, TI.wO_len, TI.wO_toInt, TI.wO_toStr, TI.wO_lt, TI.wO_le, TI.wO_gt, TI.wO_ge, TI.wO_isN, TI.wO_notN, TI.wO_isB, TI.wO_notB, TI.wO_not, TI.wO_isi, TI.wO_repr, TI.wO_tuple, TI.wO_max2, TI.wO_min2, TI.nO_add, TI.nO_list, TI.nO_listT, TI.nO_rev, TI.nO_lo, TI.nO_hi, TI.nO_lohi, TI.fLen_list, TI.fLen_tuple, TI.fIdx_list, TI.fIdx_tuple, TI.fEq_str, TI.fEq_int, TI.srcF_list, TI.srcF_tuple, TI.lstF_list, TI.setTg_one, TI.setTg_many, TI.setMany_nil, TI.setMany_cons, TI.wipe_nil, TI.wipe_cons, TI.data_lst, TI.defQ_rt, TI.defQ_nx, TI.loopQ_nx, TI.loopQ_ct, TI.loopQ_bk, TI.loopQ_rt, TI.wX_rs, TI.wX_expx, TI.wX_retx, TI.wX_tri, TI.triQ_ex, TI.triQ_nx, TI.triQ_rt, TI.exF_ok, TI.exF_ex, TI.retF_ok, TI.retF_ex, TI.sim_t, TI.sim_loc, TI.s_inl, TI.s_inr, TI.wE_isx, TI.wE_fld, TI.wE_isNe, TI.wE_tupv, TI.wE_idxv, TI.wE_reprL, TI.seqQ_ex, TI.loopQ_ex, TI.wF_er, TI.wF_tv, TI.defQX_rt, TI.defQX_nx, TI.defQX_ex, TI.wC_X, TI.wS_zip, TI.okX_inl, TI.okX_inr, TI.XR_ok, TI.wE_get2, TI.wE_popAt, TI.wN_srtU, TI.wX_putd, TI.wX_par3, TI.wN_comp2, TI.wG_t, TI.wG_loc, TI.nO_dict, TI.wO_dict, TI.wE_mkE, TI.wE_mkB, TI.wE_isv, TI.wE_pick, List.getElem?_cons_zero, List.getElem?_cons_succ, List.set_cons_zero, List.set_cons_succ, TI.len_cons, TI.cons_get, TI.cons_set, TI.app_get, TI.app_get0, TI.app_set, TI.app_set0, TI.eq_add1, List.length_nil, List.map_cons, List.map_nil, List.replicate_succ, List.replicate_zero, List.cons_append, List.nil_append, Option.some.injEq, Vl.t.injEq, Vl.loc.injEq, PyData.bool.injEq, PyData.int.injEq, PyData.list.injEq, PyData.tuple.injEq, PyData.str.injEq, exists_eq, exists_eq', exists_eq_left, exists_eq_left', exists_eq_right, exists_eq_right', forall_eq, forall_eq', forall_const, true_and, and_true, Bool.true_eq_false, Bool.false_eq_true, reduceCtorEq, false_implies, true_implies, forall_eq_apply_imp_iff, List.append_assoc, TI.Cell.lst.injEq, List.getElem?_concat_length, List.take_left, List.length_append, TI.set_last, Nat.le_refl, Nat.lt_irrefl, not_true_eq_false, not_false_eq_true, if_true, if_false, ne_eq, Bool.not_true, Bool.not_false, Bool.not_eq_true, Bool.not_eq_false, decide_eq_true_eq, decide_true, decide_false, List.filterMap_cons, List.filterMap_nil, decide_eq_false_iff_not, if_neg, if_pos, Nat.reduceLeDiff, Int.reduceLE, Int.reduceLT, Int.reduceToNat, Int.reduceNeg, List.flatten_cons, List.flatten_nil, List.take_succ_cons, List.take_zero, Nat.reduceAdd, Nat.reduceLT, Nat.reduceEqDiff, Nat.zero_le, Nat.zero_add, Nat.add_zero, Nat.reduceSub, TI.W_len, TI.W_get0, TI.W_get, TI.W_set0, TI.W_set, TI.W_app, TI.W_take0, TI.W_take, TI.lt_loc, TI.lt_loc0, TI.le_loc, TI.le_loc0, wCX_eq hU, range17, wipeE]
  refine wCp_pure (m := [c, .lst L false]) (f := atD 15) _ (by simp) (fun a d hd => ?_) ?_
  · obtain ⟨i, hi, rfl⟩ := List.mem_map.mp hd
    refine ⟨_, rfl, ?_⟩
    simp [TI.freeze_lst, TI.wO_mulS, TI.data_dct, TI.wN_rep, TI.wE_var, TI.wE_con, TI.wE_op, TI.wE_and, TI.wE_or, TI.wE_ife, TI.wE_chain, TI.wE_tup, TI.wE_new, TI.wE_mk, TI.wE_frz, TI.wE_call, TI.wE_callk, TI.wL_nil, TI.wL_cons, TI.wD_nil, TI.wD_cons, TI.wDn_t, TI.wDn_loc, TI.wV_nil, TI.wV_t, TI.wV_loc, TI.wN_lst, TI.wN_op, TI.wN_dct0, TI.wN_comp, TI.wS_val, TI.wS_range, TI.wS_enum, TI.wX_set, TI.wX_exp, TI.wX_ret, TI.wX_unp, TI.wX_par, TI.wX_app, TI.wX_ext, TI.wX_put, TI.wX_iff, TI.wX_for, TI.wX_whl, TI.wX_pass, TI.wX_brk, TI.wX_cont, TI.wXs_nil, TI.wXs_cons, TI.seqQ_nx, TI.seqQ_rt, TI.seqQ_bk, TI.seqQ_ct, TI.wF_t, TI.wO_addI, TI.wO_addL, TI.wO_addS, TI.wO_sub, TI.wO_neg, TI.wO_mul, TI.wO_fdiv, TI.wO_mod, TI.wO_eq, TI.wO_ne, TI.wO_inn, TI.wO_nin, TI.wO_idx, TI.wO_len, TI.wO_toInt, TI.wO_toStr, TI.wO_lt, TI.wO_le, TI.wO_gt, TI.wO_ge, TI.wO_isN, TI.wO_notN, TI.wO_isB, TI.wO_notB, TI.wO_not, TI.wO_isi, TI.wO_repr, TI.wO_tuple, TI.wO_max2, TI.wO_min2, TI.nO_add, TI.nO_list, TI.nO_listT, TI.nO_rev, TI.nO_lo, TI.nO_hi, TI.nO_lohi, TI.fLen_list, TI.fLen_tuple, TI.fIdx_list, TI.fIdx_tuple, TI.fEq_str, TI.fEq_int, TI.srcF_list, TI.srcF_tuple, TI.lstF_list, TI.setTg_one, TI.setTg_many, TI.setMany_nil, TI.setMany_cons, TI.wipe_nil, TI.wipe_cons, TI.data_lst, TI.defQ_rt, TI.defQ_nx, TI.loopQ_nx, TI.loopQ_ct, TI.loopQ_bk, TI.loopQ_rt, TI.wX_rs, TI.wX_expx, TI.wX_retx, TI.wX_tri, TI.triQ_ex, TI.triQ_nx, TI.triQ_rt, TI.exF_ok, TI.exF_ex, TI.retF_ok, TI.retF_ex, TI.sim_t, TI.sim_loc, TI.s_inl, TI.s_inr, TI.wE_isx, TI.wE_fld, TI.wE_isNe, TI.wE_tupv, TI.wE_idxv, TI.wE_reprL, TI.seqQ_ex, TI.loopQ_ex, TI.wF_er, TI.wF_tv, TI.defQX_rt, TI.defQX_nx, TI.defQX_ex, TI.wC_X, TI.wS_zip, TI.okX_inl, TI.okX_inr, TI.XR_ok, TI.wE_get2, TI.wE_popAt, TI.wN_srtU, TI.wX_putd, TI.wX_par3, TI.wN_comp2, TI.wG_t, TI.wG_loc, TI.nO_dict, TI.wO_dict, TI.wE_mkE, TI.wE_mkB, TI.wE_isv, TI.wE_pick, List.getElem?_cons_zero, List.getElem?_cons_succ, List.set_cons_zero, List.set_cons_succ, TI.len_cons, TI.cons_get, TI.cons_set, TI.app_get, TI.app_get0, TI.app_set, TI.app_set0, TI.eq_add1, List.length_nil, List.map_cons, List.map_nil, List.replicate_succ, List.replicate_zero, List.cons_append, List.nil_append, Option.some.injEq, Vl.t.injEq, Vl.loc.injEq, PyData.bool.injEq, PyData.int.injEq, PyData.list.injEq, PyData.tuple.injEq, PyData.str.injEq, exists_eq, exists_eq', exists_eq_left, exists_eq_left', exists_eq_right, exists_eq_right', forall_eq, forall_eq', forall_const, true_and, and_true, Bool.true_eq_false, Bool.false_eq_true, reduceCtorEq, false_implies, true_implies, forall_eq_apply_imp_iff, List.append_assoc, TI.Cell.lst.injEq, List.getElem?_concat_length, List.take_left, List.length_append, TI.set_last, Nat.le_refl, Nat.lt_irrefl, not_true_eq_false, not_false_eq_true, if_true, if_false, ne_eq, Bool.not_true, Bool.not_false, Bool.not_eq_true, Bool.not_eq_false, decide_eq_true_eq, decide_true, decide_false, List.filterMap_cons, List.filterMap_nil, decide_eq_false_iff_not, if_neg, if_pos, Nat.reduceLeDiff, Int.reduceLE, Int.reduceLT, Int.reduceToNat, Int.reduceNeg, List.flatten_cons, List.flatten_nil, List.take_succ_cons, List.take_zero, Nat.reduceAdd, Nat.reduceLT, Nat.reduceEqDiff, Nat.zero_le, Nat.zero_add, Nat.add_zero, Nat.reduceSub, TI.W_len, TI.W_get0, TI.W_get, TI.W_set0, TI.W_set, TI.W_app, TI.W_take0, TI.W_take, TI.lt_loc, TI.lt_loc0, TI.le_loc, TI.le_loc0, fEq_int]
    rfl
  refine ⟨_, rfl, rfl, _, fl_eqS 15 (by decide) _ flU, false, rfl, (fun h => by cases h), fun _ => ?_⟩
  have et2 : List.take 2 ([c, Cell.lst L false] ++ [Cell.lst (List.map (atD 15) (List.map (fun (k : Nat) => PyData.int (k : Int)) (List.range 17))) false]) = [c, .lst L false] := rfl
  rw [et2, wCX_eq hR]
  refine ⟨_, rfl, wCp_pure (m := [c, .lst L false]) (f := atD 16) _ (by simp) (fun a d hd => ?_) ?_⟩
  · obtain ⟨i, hi, rfl⟩ := List.mem_map.mp hd
    refine ⟨_, rfl, ?_⟩
    simp [TI.freeze_lst, TI.wO_mulS, TI.data_dct, TI.wN_rep, TI.wE_var, TI.wE_con, TI.wE_op, TI.wE_and, TI.wE_or, TI.wE_ife, TI.wE_chain, TI.wE_tup, TI.wE_new, TI.wE_mk, TI.wE_frz, TI.wE_call, TI.wE_callk, TI.wL_nil, TI.wL_cons, TI.wD_nil, TI.wD_cons, TI.wDn_t, TI.wDn_loc, TI.wV_nil, TI.wV_t, TI.wV_loc, TI.wN_lst, TI.wN_op, TI.wN_dct0, TI.wN_comp, TI.wS_val, TI.wS_range, TI.wS_enum, TI.wX_set, TI.wX_exp, TI.wX_ret, TI.wX_unp, TI.wX_par, TI.wX_app, TI.wX_ext, TI.wX_put, TI.wX_iff, TI.wX_for, TI.wX_whl, TI.wX_pass, TI.wX_brk, TI.wX_cont, TI.wXs_nil, TI.wXs_cons, TI.seqQ_nx, TI.seqQ_rt, TI.seqQ_bk, TI.seqQ_ct, TI.wF_t, TI.wO_addI, TI.wO_addL, TI.wO_addS, TI.wO_sub, TI.wO_neg, TI.wO_mul, TI.wO_fdiv, TI.wO_mod, TI.wO_eq, TI.wO_ne, TI.wO_inn, TI.wO_nin, TI.wO_idx, TI.wO_len, TI.wO_toInt, TI.wO_toStr, TI.wO_lt, TI.wO_le, TI.wO_gt, TI.wO_ge, TI.wO_isN, TI.wO_notN, TI.wO_isB, TI.wO_notB, TI.wO_not, TI.wO_isi, TI.wO_repr, TI.wO_tuple, TI.wO_max2, TI.wO_min2, TI.nO_add, TI.nO_list, TI.nO_listT, TI.nO_rev, TI.nO_lo, TI.nO_hi, TI.nO_lohi, TI.fLen_list, TI.fLen_tuple, TI.fIdx_list, TI.fIdx_tuple, TI.fEq_str, TI.fEq_int, TI.srcF_list, TI.srcF_tuple, TI.lstF_list, TI.setTg_one, TI.setTg_many, TI.setMany_nil, TI.setMany_cons, TI.wipe_nil, TI.wipe_cons, TI.data_lst, TI.defQ_rt, TI.defQ_nx, TI.loopQ_nx, TI.loopQ_ct, TI.loopQ_bk, TI.loopQ_rt, TI.wX_rs, TI.wX_expx, TI.wX_retx, TI.wX_tri, TI.triQ_ex, TI.triQ_nx, TI.triQ_rt, TI.exF_ok, TI.exF_ex, TI.retF_ok, TI.retF_ex, TI.sim_t, TI.sim_loc, TI.s_inl, TI.s_inr, TI.wE_isx, TI.wE_fld, TI.wE_isNe, TI.wE_tupv, TI.wE_idxv, TI.wE_reprL, TI.seqQ_ex, TI.loopQ_ex, TI.wF_er, TI.wF_tv, TI.defQX_rt, TI.defQX_nx, TI.defQX_ex, TI.wC_X, TI.wS_zip, TI.okX_inl, TI.okX_inr, TI.XR_ok, TI.wE_get2, TI.wE_popAt, TI.wN_srtU, TI.wX_putd, TI.wX_par3, TI.wN_comp2, TI.wG_t, TI.wG_loc, TI.nO_dict, TI.wO_dict, TI.wE_mkE, TI.wE_mkB, TI.wE_isv, TI.wE_pick, List.getElem?_cons_zero, List.getElem?_cons_succ, List.set_cons_zero, List.set_cons_succ, TI.len_cons, TI.cons_get, TI.cons_set, TI.app_get, TI.app_get0, TI.app_set, TI.app_set0, TI.eq_add1, List.length_nil, List.map_cons, List.map_nil, List.replicate_succ, List.replicate_zero, List.cons_append, List.nil_append, Option.some.injEq, Vl.t.injEq, Vl.loc.injEq, PyData.bool.injEq, PyData.int.injEq, PyData.list.injEq, PyData.tuple.injEq, PyData.str.injEq, exists_eq, exists_eq', exists_eq_left, exists_eq_left', exists_eq_right, exists_eq_right', forall_eq, forall_eq', forall_const, true_and, and_true, Bool.true_eq_false, Bool.false_eq_true, reduceCtorEq, false_implies, true_implies, forall_eq_apply_imp_iff, List.append_assoc, TI.Cell.lst.injEq, List.getElem?_concat_length, List.take_left, List.length_append, TI.set_last, Nat.le_refl, Nat.lt_irrefl, not_true_eq_false, not_false_eq_true, if_true, if_false, ne_eq, Bool.not_true, Bool.not_false, Bool.not_eq_true, Bool.not_eq_false, decide_eq_true_eq, decide_true, decide_false, List.filterMap_cons, List.filterMap_nil, decide_eq_false_iff_not, if_neg, if_pos, Nat.reduceLeDiff, Int.reduceLE, Int.reduceLT, Int.reduceToNat, Int.reduceNeg, List.flatten_cons, List.flatten_nil, List.take_succ_cons, List.take_zero, Nat.reduceAdd, Nat.reduceLT, Nat.reduceEqDiff, Nat.zero_le, Nat.zero_add, Nat.add_zero, Nat.reduceSub, TI.W_len, TI.W_get0, TI.W_get, TI.W_set0, TI.W_set, TI.W_app, TI.W_take0, TI.W_take, TI.lt_loc, TI.lt_loc0, TI.le_loc, TI.le_loc0, fEq_int]
    rfl
  refine ⟨_, rfl, rfl, ?_⟩
  have et3 : List.take (List.length [c, Cell.lst L false]) ([c, Cell.lst L false] ++ [Cell.lst (List.map (atD 16) (List.map (fun (k : Nat) => PyData.int (k : Int)) (List.range 17))) false]) = [c, .lst L false] := rfl
  rw [et3]
  simp only [TI.freeze_lst, TI.wO_mulS, TI.data_dct, TI.wN_rep, TI.wE_var, TI.wE_con, TI.wE_op, TI.wE_and, TI.wE_or, TI.wE_ife, TI.wE_chain, TI.wE_tup, TI.wE_new, TI.wE_mk, TI.wE_frz, TI.wE_call, TI.wE_callk, TI.wL_nil, TI.wL_cons, TI.wD_nil, TI.wD_cons, TI.wDn_t, TI.wDn_loc, TI.wV_nil, TI.wV_t, TI.wV_loc, TI.wN_lst, TI.wN_op, TI.wN_dct0, TI.wN_comp, TI.wS_val, TI.wS_range, TI.wS_enum, TI.wX_set, TI.wX_exp, TI.wX_ret, TI.wX_unp, TI.wX_par, TI.wX_app, TI.wX_ext, TI.wX_put, TI.wX_iff, TI.wX_for, TI.wX_whl, TI.wX_pass, TI.wX_brk, TI.wX_cont, TI.wXs_nil, TI.wXs_cons, TI.seqQ_rt, TI.seqQ_bk, TI.seqQ_ct, TI.wF_t, TI.wO_addI, TI.wO_addL, TI.wO_addS, TI.wO_sub, TI.wO_neg, TI.wO_mul, TI.wO_fdiv, TI.wO_mod, TI.wO_eq, TI.wO_ne, TI.wO_inn, TI.wO_nin, TI.wO_idx, TI.wO_len, TI.wO_toInt, TI.wO_toStr, TI.wO_lt, TI.wO_le, TI.wO_gt, TI.wO_ge, TI.wO_isN, TI.wO_notN, TI.wO_isB, TI.wO_notB, TI.wO_not, TI.wO_isi, TI.wO_repr, TI.wO_tuple, TI.wO_max2, TI.wO_min2, TI.nO_add, TI.nO_list, TI.nO_listT, TI.nO_rev, TI.nO_lo, TI.nO_hi, TI.nO_lohi, TI.fLen_list, TI.fLen_tuple, TI.fIdx_list, TI.fIdx_tuple, TI.fEq_str, TI.fEq_int, TI.srcF_list, TI.srcF_tuple, TI.lstF_list, TI.setTg_one, TI.setTg_many, TI.setMany_nil, TI.setMany_cons, TI.wipe_nil, TI.wipe_cons, TI.data_lst, TI.defQ_rt, TI.defQ_nx, TI.loopQ_nx, TI.loopQ_ct, TI.loopQ_bk, TI.loopQ_rt, TI.wX_rs, TI.wX_expx, TI.wX_retx, TI.wX_tri, TI.triQ_ex, TI.triQ_nx, TI.triQ_rt, TI.exF_ok, TI.exF_ex, TI.retF_ok, TI.retF_ex, TI.sim_t, TI.sim_loc, TI.s_inl, TI.s_inr, TI.wE_isx, TI.wE_fld, TI.wE_isNe, TI.wE_tupv, TI.wE_idxv, TI.wE_reprL, TI.seqQ_ex, TI.loopQ_ex, TI.wF_er, TI.wF_tv, TI.defQX_rt, TI.defQX_nx, TI.defQX_ex, TI.wC_X, TI.wS_zip, TI.okX_inl, TI.okX_inr, TI.XR_ok, TI.wE_get2, TI.wE_popAt, TI.wN_srtU, TI.wX_putd, TI.wX_par3, TI.wN_comp2, TI.wG_t, TI.wG_loc, TI.nO_dict, TI.wO_dict, TI.wE_mkE, TI.wE_mkB, TI.wE_isv, TI.wE_pick, List.getElem?_cons_zero, List.getElem?_cons_succ, List.set_cons_zero, List.set_cons_succ, TI.len_cons, TI.cons_get, TI.cons_set, TI.app_get, TI.app_get0, TI.app_set, TI.app_set0, TI.eq_add1, List.length_nil, List.map_cons, List.map_nil, List.replicate_succ, List.replicate_zero, List.cons_append, List.nil_append, Option.some.injEq, Vl.t.injEq, Vl.loc.injEq, PyData.bool.injEq, PyData.int.injEq, PyData.list.injEq, PyData.tuple.injEq, PyData.str.injEq, exists_eq, exists_eq', exists_eq_left, exists_eq_left', exists_eq_right, exists_eq_right', forall_eq, forall_eq', forall_const, true_and, and_true, Bool.true_eq_false, Bool.false_eq_true, reduceCtorEq, false_implies, true_implies, forall_eq_apply_imp_iff, List.append_assoc, TI.Cell.lst.injEq, List.getElem?_concat_length, List.take_left, List.length_append, TI.set_last, Nat.le_refl, Nat.lt_irrefl, not_true_eq_false, not_false_eq_true, if_true, if_false, ne_eq, Bool.not_true, Bool.not_false, Bool.not_eq_true, Bool.not_eq_false, decide_eq_true_eq, decide_true, decide_false, List.filterMap_cons, List.filterMap_nil, decide_eq_false_iff_not, if_neg, if_pos, Nat.reduceLeDiff, Int.reduceLE, Int.reduceLT, Int.reduceToNat, Int.reduceNeg, List.flatten_cons, List.flatten_nil, List.take_succ_cons, List.take_zero, Nat.reduceAdd, Nat.reduceLT, Nat.reduceEqDiff, Nat.zero_le, Nat.zero_add, Nat.add_zero, Nat.reduceSub, TI.W_len, TI.W_get0, TI.W_get, TI.W_set0, TI.W_set, TI.W_app, TI.W_take0, TI.W_take, TI.lt_loc, TI.lt_loc0, TI.le_loc, TI.le_loc0, fl_eqS 16 (by decide) _ flR]
  rw [seqQ_nx, wXs_cons]
  have b1 := lkB "NothingToUndo" (by decide +kernel)
  have b2 := lkB "NothingToRedo" (by decide +kernel)
  have b3 := hasE "BillError" (by decide +kernel)
  simp only [TI.freeze_lst, TI.wO_mulS, TI.data_dct, TI.wN_rep, TI.wE_var, TI.wE_con, TI.wE_op, TI.wE_and, TI.wE_or, TI.wE_ife, TI.wE_chain, TI.wE_tup, TI.wE_new, TI.wE_mk, TI.wE_frz, TI.wE_call, TI.wE_callk, TI.wL_nil, TI.wL_cons, TI.wD_nil, TI.wD_cons, TI.wDn_t, TI.wDn_loc, TI.wV_nil, TI.wV_t, TI.wV_loc, TI.wN_lst, TI.wN_op, TI.wN_dct0, TI.wN_comp, TI.wS_val, TI.wS_range, TI.wS_enum, TI.wX_set, TI.wX_exp, TI.wX_ret, TI.wX_unp, TI.wX_par, TI.wX_app, TI.wX_ext, TI.wX_put, TI.wX_iff, TI.wX_for, TI.wX_whl, TI.wX_pass, TI.wX_brk, TI.wX_cont, TI.wXs_nil, TI.wXs_cons, TI.seqQ_rt, TI.seqQ_bk, TI.seqQ_ct, TI.wF_t, TI.wO_addI, TI.wO_addL, TI.wO_addS, TI.wO_sub, TI.wO_neg, TI.wO_mul, TI.wO_fdiv, TI.wO_mod, TI.wO_eq, TI.wO_ne, TI.wO_inn, TI.wO_nin, TI.wO_idx, TI.wO_len, TI.wO_toInt, TI.wO_toStr, TI.wO_lt, TI.wO_le, TI.wO_gt, TI.wO_ge, TI.wO_isN, TI.wO_notN, TI.wO_isB, TI.wO_notB, TI.wO_not, TI.wO_isi, TI.wO_repr, TI.wO_tuple, TI.wO_max2, TI.wO_min2, TI.nO_add, TI.nO_list, TI.nO_listT, TI.nO_rev, TI.nO_lo, TI.nO_hi, TI.nO_lohi, TI.fLen_list, TI.fLen_tuple, TI.fIdx_list, TI.fIdx_tuple, TI.fEq_str, TI.fEq_int, TI.srcF_list, TI.srcF_tuple, TI.lstF_list, TI.setTg_one, TI.setTg_many, TI.setMany_nil, TI.setMany_cons, TI.wipe_nil, TI.wipe_cons, TI.data_lst, TI.defQ_rt, TI.defQ_nx, TI.loopQ_nx, TI.loopQ_ct, TI.loopQ_bk, TI.loopQ_rt, TI.wX_rs, TI.wX_expx, TI.wX_retx, TI.wX_tri, TI.triQ_ex, TI.triQ_nx, TI.triQ_rt, TI.exF_ok, TI.exF_ex, TI.retF_ok, TI.retF_ex, TI.sim_t, TI.sim_loc, TI.s_inl, TI.s_inr, TI.wE_isx, TI.wE_fld, TI.wE_isNe, TI.wE_tupv, TI.wE_idxv, TI.wE_reprL, TI.seqQ_ex, TI.loopQ_ex, TI.wF_er, TI.wF_tv, TI.defQX_rt, TI.defQX_nx, TI.defQX_ex, TI.wC_X, TI.wS_zip, TI.okX_inl, TI.okX_inr, TI.XR_ok, TI.wE_get2, TI.wE_popAt, TI.wN_srtU, TI.wX_putd, TI.wX_par3, TI.wN_comp2, TI.wG_t, TI.wG_loc, TI.nO_dict, TI.wO_dict, TI.wE_mkE, TI.wE_mkB, TI.wE_isv, TI.wE_pick, List.getElem?_cons_zero, List.getElem?_cons_succ, List.set_cons_zero, List.set_cons_succ, TI.len_cons, TI.cons_get, TI.cons_set, TI.app_get, TI.app_get0, TI.app_set, TI.app_set0, TI.eq_add1, List.length_nil, List.map_cons, List.map_nil, List.replicate_succ, List.replicate_zero, List.cons_append, List.nil_append, Option.some.injEq, Vl.t.injEq, Vl.loc.injEq, PyData.bool.injEq, PyData.int.injEq, PyData.list.injEq, PyData.tuple.injEq, PyData.str.injEq, exists_eq, exists_eq', exists_eq_left, exists_eq_left', exists_eq_right, exists_eq_right', forall_eq, forall_eq', forall_const, true_and, and_true, Bool.true_eq_false, Bool.false_eq_true, reduceCtorEq, false_implies, true_implies, forall_eq_apply_imp_iff, List.append_assoc, TI.Cell.lst.injEq, List.getElem?_concat_length, List.take_left, List.length_append, TI.set_last, Nat.le_refl, Nat.lt_irrefl, not_true_eq_false, not_false_eq_true, if_true, if_false, ne_eq, Bool.not_true, Bool.not_false, Bool.not_eq_true, Bool.not_eq_false, decide_eq_true_eq, decide_true, decide_false, List.filterMap_cons, List.filterMap_nil, decide_eq_false_iff_not, if_neg, if_pos, Nat.reduceLeDiff, Int.reduceLE, Int.reduceLT, Int.reduceToNat, Int.reduceNeg, List.flatten_cons, List.flatten_nil, List.take_succ_cons, List.take_zero, Nat.reduceAdd, Nat.reduceLT, Nat.reduceEqDiff, Nat.zero_le, Nat.zero_add, Nat.add_zero, Nat.reduceSub, TI.W_len, TI.W_get0, TI.W_get, TI.W_set0, TI.W_set, TI.W_app, TI.W_take0, TI.W_take, TI.lt_loc, TI.lt_loc0, TI.le_loc, TI.le_loc0, b1, b2]
  refine ⟨_, _, rfl, b3, ?_⟩
  simp only [TI.freeze_lst, TI.wO_mulS, TI.data_dct, TI.wN_rep, TI.wE_var, TI.wE_con, TI.wE_op, TI.wE_and, TI.wE_or, TI.wE_ife, TI.wE_chain, TI.wE_tup, TI.wE_new, TI.wE_mk, TI.wE_frz, TI.wE_call, TI.wE_callk, TI.wL_nil, TI.wL_cons, TI.wD_nil, TI.wD_cons, TI.wDn_t, TI.wDn_loc, TI.wV_nil, TI.wV_t, TI.wV_loc, TI.wN_lst, TI.wN_op, TI.wN_dct0, TI.wN_comp, TI.wS_val, TI.wS_range, TI.wS_enum, TI.wX_set, TI.wX_exp, TI.wX_ret, TI.wX_unp, TI.wX_par, TI.wX_app, TI.wX_ext, TI.wX_put, TI.wX_iff, TI.wX_for, TI.wX_whl, TI.wX_pass, TI.wX_brk, TI.wX_cont, TI.wXs_nil, TI.wXs_cons, TI.seqQ_rt, TI.seqQ_bk, TI.seqQ_ct, TI.wF_t, TI.wO_addI, TI.wO_addL, TI.wO_addS, TI.wO_sub, TI.wO_neg, TI.wO_mul, TI.wO_fdiv, TI.wO_mod, TI.wO_eq, TI.wO_ne, TI.wO_inn, TI.wO_nin, TI.wO_idx, TI.wO_len, TI.wO_toInt, TI.wO_toStr, TI.wO_lt, TI.wO_le, TI.wO_gt, TI.wO_ge, TI.wO_isN, TI.wO_notN, TI.wO_isB, TI.wO_notB, TI.wO_not, TI.wO_isi, TI.wO_repr, TI.wO_tuple, TI.wO_max2, TI.wO_min2, TI.nO_add, TI.nO_list, TI.nO_listT, TI.nO_rev, TI.nO_lo, TI.nO_hi, TI.nO_lohi, TI.fLen_list, TI.fLen_tuple, TI.fIdx_list, TI.fIdx_tuple, TI.fEq_str, TI.fEq_int, TI.srcF_list, TI.srcF_tuple, TI.lstF_list, TI.setTg_one, TI.setTg_many, TI.setMany_nil, TI.setMany_cons, TI.wipe_nil, TI.wipe_cons, TI.data_lst, TI.defQ_rt, TI.defQ_nx, TI.loopQ_nx, TI.loopQ_ct, TI.loopQ_bk, TI.loopQ_rt, TI.wX_rs, TI.wX_expx, TI.wX_retx, TI.wX_tri, TI.triQ_ex, TI.triQ_nx, TI.triQ_rt, TI.exF_ok, TI.exF_ex, TI.retF_ok, TI.retF_ex, TI.sim_t, TI.sim_loc, TI.s_inl, TI.s_inr, TI.wE_isx, TI.wE_fld, TI.wE_isNe, TI.wE_tupv, TI.wE_idxv, TI.wE_reprL, TI.seqQ_ex, TI.loopQ_ex, TI.wF_er, TI.wF_tv, TI.defQX_rt, TI.defQX_nx, TI.defQX_ex, TI.wC_X, TI.wS_zip, TI.okX_inl, TI.okX_inr, TI.XR_ok, TI.wE_get2, TI.wE_popAt, TI.wN_srtU, TI.wX_putd, TI.wX_par3, TI.wN_comp2, TI.wG_t, TI.wG_loc, TI.nO_dict, TI.wO_dict, TI.wE_mkE, TI.wE_mkB, TI.wE_isv, TI.wE_pick, List.getElem?_cons_zero, List.getElem?_cons_succ, List.set_cons_zero, List.set_cons_succ, TI.len_cons, TI.cons_get, TI.cons_set, TI.app_get, TI.app_get0, TI.app_set, TI.app_set0, TI.eq_add1, List.length_nil, List.map_cons, List.map_nil, List.replicate_succ, List.replicate_zero, List.cons_append, List.nil_append, Option.some.injEq, Vl.t.injEq, Vl.loc.injEq, PyData.bool.injEq, PyData.int.injEq, PyData.list.injEq, PyData.tuple.injEq, PyData.str.injEq, exists_eq, exists_eq', exists_eq_left, exists_eq_left', exists_eq_right, exists_eq_right', forall_eq, forall_eq', forall_const, true_and, and_true, Bool.true_eq_false, Bool.false_eq_true, reduceCtorEq, false_implies, true_implies, forall_eq_apply_imp_iff, List.append_assoc, TI.Cell.lst.injEq, List.getElem?_concat_length, List.take_left, List.length_append, TI.set_last, Nat.le_refl, Nat.lt_irrefl, not_true_eq_false, not_false_eq_true, if_true, if_false, ne_eq, Bool.not_true, Bool.not_false, Bool.not_eq_true, Bool.not_eq_false, decide_eq_true_eq, decide_true, decide_false, List.filterMap_cons, List.filterMap_nil, decide_eq_false_iff_not, if_neg, if_pos, Nat.reduceLeDiff, Int.reduceLE, Int.reduceLT, Int.reduceToNat, Int.reduceNeg, List.flatten_cons, List.flatten_nil, List.take_succ_cons, List.take_zero, Nat.reduceAdd, Nat.reduceLT, Nat.reduceEqDiff, Nat.zero_le, Nat.zero_add, Nat.add_zero, Nat.reduceSub, TI.W_len, TI.W_get0, TI.W_get, TI.W_set0, TI.W_set, TI.W_app, TI.W_take0, TI.W_take, TI.lt_loc, TI.lt_loc0, TI.le_loc, TI.le_loc0, endQ]
theorem plain_int (i : Int) : plainD (.int i) := ⟨rfl, by simp [fEq]⟩
theorem plain_str (x : Str) : plainD (.str x) := ⟨rfl, by simp [fEq]⟩
theorem plain_non : plainD .none := ⟨rfl, rfl⟩
theorem plain_tup : plainD (.tuple [.int 2, .tuple [.int 3]]) := by
  refine ⟨rfl, ?_⟩
  have h1 : eqOk (.tuple [.int 2, .tuple [.int 3]]) (.tuple [.int 2, .tuple [.int 3]]) = true := by decide +kernel
  have h2 : PyData.eqv (.tuple [.int 2, .tuple [.int 3]]) (.tuple [.int 2, .tuple [.int 3]]) = true := by decide +kernel
  simp only [fEq]
  rw [if_pos h1, h2]
  rfl
theorem pow20 {Q : D → Prop} : wO .pow [.int 10, .int 20] Q ↔ Q (.int 100000000000000000000) := by
  have e : opR .pow [.int 10, .int 20] = some (.int 100000000000000000000) := by
    have h : (decide ((0 : Int) ≤ 20) && decide ((20 : Int) ≤ 100) && decide ((10 : Int).natAbs < 2 ^ 1000)) = true := by decide +kernel
    have e1 : opF .pow [.int 10, .int 20] = some (.int ((10 : Int) ^ (20 : Int).toNat)) := by
      show (if (decide ((0 : Int) ≤ 20) && decide ((20 : Int) ≤ 100) && decide ((10 : Int).natAbs < 2 ^ 1000)) = true then some (PyData.int ((10 : Int) ^ (20 : Int).toNat)) else none) = _
      rw [if_pos h]
    have e2 : (10 : Int) ^ (20 : Int).toNat = 100000000000000000000 := by decide +kernel
    unfold opR
    rw [e1, e2]
  simp [wO, e]
theorem mul_ab {t : Nat} (h : t < 3) : fMul [.str "ab", .int t] = some (.str (timesS "ab" t)) := by
  have h : t = 0 ∨ t = 1 ∨ t = 2 := by omega
  rcases h with rfl | rfl | rfl <;> rfl
theorem lawX (ns : List Int) : callX prog 12 7 [.t (.list (ns.map PyData.int))] [] = some (.ok (.t (.bool true)), []) := by
  obtain ⟨c, eg, g0⟩ := ev_gen (P := prog) (k := 9) (ig := 1) (ic := 0) (m := []) rfl rfl ns 0
  have eg : callX prog 11 1 [.t (.list (ns.map PyData.int)), .t (.int 0)] [] = some (.ok (.loc 0), [c]) := valC_some eg
  have g0 : Gen 0 [c] 0 := by simpa using g0
  obtain ⟨r, c1, er1, g1⟩ := draw20 9 (E := []) (by omega) g0
  obtain ⟨t, c2, er2, h2, g2⟩ := draw 9 (bd := 3) (E := []) (by omega) (g1 []) (by omega) (by omega)
  obtain ⟨u, c3, er3, h3, g3⟩ := draw 9 (bd := 5) (E := [.lst [.int 1, .none] false]) (by omega) (g2 _) (by omega) (by omega)
  refine wCX_of (wCX_def (fn := ⟨1, 8, b7, false⟩) rfl rfl (by decide) ?_)
  have hb : ∀ v : Vl, goodV v → wXs (callX prog 11) 0 (tl (tl b7)) [some (.t (.list (ns.map PyData.int))), some (.loc 0), some v, none, none, none, none, none] [c3, .lst [.int 1, .none] false] endQ := fun v hv => restX _ hv _
  have eT : ∃ T, b7 = (.cons (.set 1 (.call 1 (.cons (.var 0) (.cons (.con (.int 0)) .nil))))     (.cons (.set 2 (.pick (.cons (.call 3 (.cons (.var 1) (.cons (.op .pow (.cons (.con (.int 10)) (.cons (.con (.int 20)) .nil))) .nil))) (.cons (.op .mul (.cons (.con (.str "ab")) (.cons (.call 3 (.cons (.var 1) (.cons (.con (.int 3)) .nil))) .nil))) (.cons (.mk (.lst (.cons (.con (.int 1)) (.cons (.con .none) .nil)))) (.cons (.con .none) (.cons (.tup (.cons (.con (.int 2)) (.cons (.tup (.cons (.con (.int 3)) .nil)) .nil))) .nil))))) (.call 3 (.cons (.var 1) (.cons (.con (.int 5)) .nil))))) T)) ∧ tl (tl b7) = T := ⟨_, rfl, rfl⟩
  obtain ⟨T, e1, e2⟩ := eT
  rw [e2] at hb
  rw [e1]
  show wXs (callX prog 11) 0 _ [some (.t (.list (ns.map PyData.int))), none, none, none, none, none, none, none] [] endQ
  rw [wXs_cons]
  simp only [TI.freeze_lst, TI.wO_mulS, TI.data_dct, TI.wN_rep, TI.wE_var, TI.wE_con, TI.wE_op, TI.wE_and, TI.wE_or, TI.wE_ife, TI.wE_chain, TI.wE_tup, TI.wE_new, TI.wE_mk, TI.wE_frz, TI.wE_call, TI.wE_callk, TI.wL_nil, TI.wL_cons, TI.wD_nil, TI.wD_cons, TI.wDn_t, TI.wDn_loc, TI.wV_nil, TI.wV_t, TI.wV_loc, TI.wN_lst, TI.wN_op, TI.wN_dct0, TI.wN_comp, TI.wS_val, TI.wS_range, TI.wS_enum, TI.wX_set, TI.wX_exp, TI.wX_ret, TI.wX_unp, TI.wX_par, TI.wX_app, TI.wX_ext, TI.wX_put, TI.wX_iff, TI.wX_for, TI.wX_whl, TI.wX_pass, TI.wX_brk, TI.wX_cont, TI.wXs_nil, TI.wXs_cons, TI.seqQ_rt, TI.seqQ_bk, TI.seqQ_ct, TI.wF_t, TI.wO_addI, TI.wO_addL, TI.wO_addS, TI.wO_sub, TI.wO_neg, TI.wO_mul, TI.wO_fdiv, TI.wO_mod, TI.wO_eq, TI.wO_ne, TI.wO_inn, TI.wO_nin, TI.wO_idx, TI.wO_len, TI.wO_toInt, TI.wO_toStr, TI.wO_lt, TI.wO_le, TI.wO_gt, TI.wO_ge, TI.wO_isN, TI.wO_notN, TI.wO_isB, TI.wO_notB, TI.wO_not, TI.wO_isi, TI.wO_repr, TI.wO_tuple, TI.wO_max2, TI.wO_min2, TI.nO_add, TI.nO_list, TI.nO_listT, TI.nO_rev, TI.nO_lo, TI.nO_hi, TI.nO_lohi, TI.fLen_list, TI.fLen_tuple, TI.fIdx_list, TI.fIdx_tuple, TI.fEq_str, TI.fEq_int, TI.srcF_list, TI.srcF_tuple, TI.lstF_list, TI.setTg_one, TI.setTg_many, TI.setMany_nil, TI.setMany_cons, TI.wipe_nil, TI.wipe_cons, TI.data_lst, TI.defQ_rt, TI.defQ_nx, TI.loopQ_nx, TI.loopQ_ct, TI.loopQ_bk, TI.loopQ_rt, TI.wX_rs, TI.wX_expx, TI.wX_retx, TI.wX_tri, TI.triQ_ex, TI.triQ_nx, TI.triQ_rt, TI.exF_ok, TI.exF_ex, TI.retF_ok, TI.retF_ex, TI.sim_t, TI.sim_loc, TI.s_inl, TI.s_inr, TI.wE_isx, TI.wE_fld, TI.wE_isNe, TI.wE_tupv, TI.wE_idxv, TI.wE_reprL, TI.seqQ_ex, TI.loopQ_ex, TI.wF_er, TI.wF_tv, TI.defQX_rt, TI.defQX_nx, TI.defQX_ex, TI.wC_X, TI.wS_zip, TI.okX_inl, TI.okX_inr, TI.XR_ok, TI.wE_get2, TI.wE_popAt, TI.wN_srtU, TI.wX_putd, TI.wX_par3, TI.wN_comp2, TI.wG_t, TI.wG_loc, TI.nO_dict, TI.wO_dict, TI.wE_mkE, TI.wE_mkB, TI.wE_isv, TI.wE_pick, List.getElem?_cons_zero, List.getElem?_cons_succ, List.set_cons_zero, List.set_cons_succ, TI.len_cons, TI.cons_get, TI.cons_set, TI.app_get, TI.app_get0, TI.app_set, TI.app_set0, TI.eq_add1, List.length_nil, List.map_cons, List.map_nil, List.replicate_succ, List.replicate_zero, List.cons_append, List.nil_append, Option.some.injEq, Vl.t.injEq, Vl.loc.injEq, PyData.bool.injEq, PyData.int.injEq, PyData.list.injEq, PyData.tuple.injEq, PyData.str.injEq, exists_eq, exists_eq', exists_eq_left, exists_eq_left', exists_eq_right, exists_eq_right', forall_eq, forall_eq', forall_const, true_and, and_true, Bool.true_eq_false, Bool.false_eq_true, reduceCtorEq, false_implies, true_implies, forall_eq_apply_imp_iff, List.append_assoc, TI.Cell.lst.injEq, List.getElem?_concat_length, List.take_left, List.length_append, TI.set_last, Nat.le_refl, Nat.lt_irrefl, not_true_eq_false, not_false_eq_true, if_true, if_false, ne_eq, Bool.not_true, Bool.not_false, Bool.not_eq_true, Bool.not_eq_false, decide_eq_true_eq, decide_true, decide_false, List.filterMap_cons, List.filterMap_nil, decide_eq_false_iff_not, if_neg, if_pos, Nat.reduceLeDiff, Int.reduceLE, Int.reduceLT, Int.reduceToNat, Int.reduceNeg, List.flatten_cons, List.flatten_nil, List.take_succ_cons, List.take_zero, Nat.reduceAdd, Nat.reduceLT, Nat.reduceEqDiff, Nat.zero_le, Nat.zero_add, Nat.add_zero, Nat.reduceSub, TI.W_len, TI.W_get0, TI.W_get, TI.W_set0, TI.W_set, TI.W_app, TI.W_take0, TI.W_take, TI.lt_loc, TI.lt_loc0, TI.le_loc, TI.le_loc0, wCX_eq eg]
  rw [seqQ_nx, wXs_cons]
  simp only [TI.freeze_lst, TI.wO_mulS, TI.data_dct, TI.wN_rep, TI.wE_var, TI.wE_con, TI.wE_op, TI.wE_and, TI.wE_or, TI.wE_ife, TI.wE_chain, TI.wE_tup, TI.wE_new, TI.wE_mk, TI.wE_frz, TI.wE_call, TI.wE_callk, TI.wL_nil, TI.wL_cons, TI.wD_nil, TI.wD_cons, TI.wDn_t, TI.wDn_loc, TI.wV_nil, TI.wV_t, TI.wV_loc, TI.wN_lst, TI.wN_op, TI.wN_dct0, TI.wN_comp, TI.wS_val, TI.wS_range, TI.wS_enum, TI.wX_set, TI.wX_exp, TI.wX_ret, TI.wX_unp, TI.wX_par, TI.wX_app, TI.wX_ext, TI.wX_put, TI.wX_iff, TI.wX_for, TI.wX_whl, TI.wX_pass, TI.wX_brk, TI.wX_cont, TI.wXs_nil, TI.wXs_cons, TI.seqQ_rt, TI.seqQ_bk, TI.seqQ_ct, TI.wF_t, TI.wO_addI, TI.wO_addL, TI.wO_addS, TI.wO_sub, TI.wO_neg, TI.wO_mul, TI.wO_fdiv, TI.wO_mod, TI.wO_eq, TI.wO_ne, TI.wO_inn, TI.wO_nin, TI.wO_idx, TI.wO_len, TI.wO_toInt, TI.wO_toStr, TI.wO_lt, TI.wO_le, TI.wO_gt, TI.wO_ge, TI.wO_isN, TI.wO_notN, TI.wO_isB, TI.wO_notB, TI.wO_not, TI.wO_isi, TI.wO_repr, TI.wO_tuple, TI.wO_max2, TI.wO_min2, TI.nO_add, TI.nO_list, TI.nO_listT, TI.nO_rev, TI.nO_lo, TI.nO_hi, TI.nO_lohi, TI.fLen_list, TI.fLen_tuple, TI.fIdx_list, TI.fIdx_tuple, TI.fEq_str, TI.fEq_int, TI.srcF_list, TI.srcF_tuple, TI.lstF_list, TI.setTg_one, TI.setTg_many, TI.setMany_nil, TI.setMany_cons, TI.wipe_nil, TI.wipe_cons, TI.data_lst, TI.defQ_rt, TI.defQ_nx, TI.loopQ_nx, TI.loopQ_ct, TI.loopQ_bk, TI.loopQ_rt, TI.wX_rs, TI.wX_expx, TI.wX_retx, TI.wX_tri, TI.triQ_ex, TI.triQ_nx, TI.triQ_rt, TI.exF_ok, TI.exF_ex, TI.retF_ok, TI.retF_ex, TI.sim_t, TI.sim_loc, TI.s_inl, TI.s_inr, TI.wE_isx, TI.wE_fld, TI.wE_isNe, TI.wE_tupv, TI.wE_idxv, TI.wE_reprL, TI.seqQ_ex, TI.loopQ_ex, TI.wF_er, TI.wF_tv, TI.defQX_rt, TI.defQX_nx, TI.defQX_ex, TI.wC_X, TI.wS_zip, TI.okX_inl, TI.okX_inr, TI.XR_ok, TI.wE_get2, TI.wE_popAt, TI.wN_srtU, TI.wX_putd, TI.wX_par3, TI.wN_comp2, TI.wG_t, TI.wG_loc, TI.nO_dict, TI.wO_dict, TI.wE_mkE, TI.wE_mkB, TI.wE_isv, TI.wE_pick, List.getElem?_cons_zero, List.getElem?_cons_succ, List.set_cons_zero, List.set_cons_succ, TI.len_cons, TI.cons_get, TI.cons_set, TI.app_get, TI.app_get0, TI.app_set, TI.app_set0, TI.eq_add1, List.length_nil, List.map_cons, List.map_nil, List.replicate_succ, List.replicate_zero, List.cons_append, List.nil_append, Option.some.injEq, Vl.t.injEq, Vl.loc.injEq, PyData.bool.injEq, PyData.int.injEq, PyData.list.injEq, PyData.tuple.injEq, PyData.str.injEq, exists_eq, exists_eq', exists_eq_left, exists_eq_left', exists_eq_right, exists_eq_right', forall_eq, forall_eq', forall_const, true_and, and_true, Bool.true_eq_false, Bool.false_eq_true, reduceCtorEq, false_implies, true_implies, forall_eq_apply_imp_iff, List.append_assoc, TI.Cell.lst.injEq, List.getElem?_concat_length, List.take_left, List.length_append, TI.set_last, Nat.le_refl, Nat.lt_irrefl, not_true_eq_false, not_false_eq_true, if_true, if_false, ne_eq, Bool.not_true, Bool.not_false, Bool.not_eq_true, Bool.not_eq_false, decide_eq_true_eq, decide_true, decide_false, List.filterMap_cons, List.filterMap_nil, decide_eq_false_iff_not, if_neg, if_pos, Nat.reduceLeDiff, Int.reduceLE, Int.reduceLT, Int.reduceToNat, Int.reduceNeg, List.flatten_cons, List.flatten_nil, List.take_succ_cons, List.take_zero, Nat.reduceAdd, Nat.reduceLT, Nat.reduceEqDiff, Nat.zero_le, Nat.zero_add, Nat.add_zero, Nat.reduceSub, TI.W_len, TI.W_get0, TI.W_get, TI.W_set0, TI.W_set, TI.W_app, TI.W_take0, TI.W_take, TI.lt_loc, TI.lt_loc0, TI.le_loc, TI.le_loc0, pow20, wCX_eq er1, wCX_eq er2, mul_ab (show t < 3 by omega), simL_t, simL_loc, simL_nil, Option.map_some]
  rw [wCX_eq er3]
  have hu : u = 0 ∨ u = 1 ∨ u = 2 ∨ u = 3 ∨ u = 4 := by omega
  rcases hu with rfl | rfl | rfl | rfl | rfl
  · exact ⟨_, rfl, _, _, rfl, rfl, hb _ (.inl ⟨_, rfl, plain_int _⟩)⟩
  · exact ⟨_, rfl, _, _, rfl, rfl, hb _ (.inl ⟨_, rfl, plain_str _⟩)⟩
  · exact ⟨_, rfl, _, _, rfl, rfl, hb _ (.inr rfl)⟩
  · exact ⟨_, rfl, _, _, rfl, rfl, hb _ (.inl ⟨_, rfl, plain_non⟩)⟩
  · exact ⟨_, rfl, _, _, rfl, rfl, hb _ (.inl ⟨_, rfl, plain_tup⟩)⟩
theorem ends (ns : List Int) (_ : ns.length ≤ 63) : callF prog 12 7 [.t (.list (ns.map PyData.int))] [] = some (.t (.bool true), []) := by
  show valC (callX prog 12) 7 _ _ = _
  unfold valC
  rw [lawX ns]
end K01
open PySem PySem.W PyProof.Rows
set_option maxRecDepth 100000 in
set_option maxHeartbeats 0 in
theorem PySem.Challenge.cw_cellbills_k01_errors_by_their_classes_holds : PySem.Challenge.rw_cellbills_k01_errors_by_their_classes.Holds := by
  w_on; o_law; k_head; (case hw => w_witness2)
  k_fill
  refine TI.law_end (l := PySem.Challenge.rw_cellbills_k01_errors_by_their_classes) (n := 63) (k := 12) (x := "_law_script") (cx := TI.callX K01.prog 12 7) rfl (by decide) rfl ⟨rfl, by decide, by decide⟩ (fun w h Y => PySem.W.kIn_of Y) ?F fun ns h => TI.valC_some (K01.ends ns h)
  case F =>
    intro w mg fa h KX G hmg
    refine' K01.all_mk KX G hmg ?a0 ?l0 ?e0 ?k0 ?a1 ?l1 ?e1 ?k1 ?a2 ?l2 ?e2 ?k2 ?a3 ?l3 ?e3 ?k3 ?a4 ?l4 ?e4 ?k4 ?a5 ?l5 ?e5 ?k5 ?a6 ?l6 ?e6 ?k6 ?a7 ?l7 ?e7 ?k7 ?z0 ?z1 ?z2 ?z3 ?z4 ?z5 ?z6 ?z7 ?q_sup ?q_no ?q_top ?q_sp ?q_tk ?y0A ?y0L ?y0I ?y0E ?y0H ?y0T ?y0R ?y0X ?y0C ?x0A ?x0L ?x0m ?x0v ?x0s ?x0g ?x0h ?x0n ?x0i ?x0t ?x0k ?x0e ?x0y ?x0d ?x0c ?x0o ?x0z ?x0F ?x0D ?x0K ?x0V ?x0P ?x0Q ?x0U ?x1A ?x1L ?x1m ?x1v ?x1s ?x1g ?x1h ?x1n ?x1i ?x1t ?x1k ?x1e ?x1y ?x1d ?x1c ?x1o ?x1z ?x1F ?x1D ?x1K ?x1V ?x1P ?x1Q ?x1U ?x2A ?x2L ?x2m ?x2v ?x2s ?x2g ?x2h ?x2n ?x2i ?x2t ?x2k ?x2e ?x2y ?x2d ?x2c ?x2o ?x2z ?x2F ?x2D ?x2K ?x2V ?x2P ?x2Q ?x2U ?x3A ?x3L ?x3m ?x3v ?x3s ?x3g ?x3h ?x3n ?x3i ?x3t ?x3k ?x3e ?x3y ?x3d ?x3c ?x3o ?x3z ?x3F ?x3D ?x3K ?x3V ?x3P ?x3Q ?x3U ?x4A ?x4L ?x4m ?x4v ?x4s ?x4g ?x4h ?x4n ?x4i ?x4t ?x4k ?x4e ?x4y ?x4d ?x4c ?x4o ?x4z ?x4F ?x4D ?x4K ?x4V ?x4P ?x4Q ?x4U ?x5A ?x5L ?x5m ?x5v ?x5s ?x5g ?x5h ?x5n ?x5i ?x5t ?x5k ?x5e ?x5y ?x5d ?x5c ?x5o ?x5z ?x5F ?x5D ?x5K ?x5V ?x5P ?x5Q ?x5U ?x6A ?x6L ?x6m ?x6v ?x6s ?x6g ?x6h ?x6n ?x6i ?x6t ?x6k ?x6e ?x6y ?x6d ?x6c ?x6o ?x6z ?x6F ?x6D ?x6K ?x6V ?x6P ?x6Q ?x6U ?x7A ?x7L ?x7m ?x7v ?x7s ?x7g ?x7h ?x7n ?x7i ?x7t ?x7k ?x7e ?x7y ?x7d ?x7c ?x7o ?x7z ?x7F ?x7D ?x7K ?x7V ?x7P ?x7Q ?x7U ?x8A ?x8L ?x8m ?x8v ?x8s ?x8g ?x8h ?x8n ?x8i ?x8t ?x8k ?x8e ?x8y ?x8d ?x8c ?x8o ?x8z ?x8F ?x8D ?x8K ?x8V ?x8P ?x8Q ?x8U ?x9A ?x9L ?x9m ?x9v ?x9s ?x9g ?x9h ?x9n ?x9i ?x9t ?x9k ?x9e ?x9y ?x9d ?x9c ?x9o ?x9z ?x9F ?x9D ?x9K ?x9V ?x9P ?x9Q ?x9U ?x10A ?x10L ?x10m ?x10v ?x10s ?x10g ?x10h ?x10n ?x10i ?x10t ?x10k ?x10e ?x10y ?x10d ?x10c ?x10o ?x10z ?x10F ?x10D ?x10K ?x10V ?x10P ?x10Q ?x10U ?x11A ?x11L ?x11m ?x11v ?x11s ?x11g ?x11h ?x11n ?x11i ?x11t ?x11k ?x11e ?x11y ?x11d ?x11c ?x11o ?x11z ?x11F ?x11D ?x11K ?x11V ?x11P ?x11Q ?x11U ?x12A ?x12L ?x12m ?x12v ?x12s ?x12g ?x12h ?x12n ?x12i ?x12t ?x12k ?x12e ?x12y ?x12d ?x12c ?x12o ?x12z ?x12F ?x12D ?x12K ?x12V ?x12P ?x12Q ?x12U ?x13A ?x13L ?x13m ?x13v ?x13s ?x13g ?x13h ?x13n ?x13i ?x13t ?x13k ?x13e ?x13y ?x13d ?x13c ?x13o ?x13z ?x13F ?x13D ?x13K ?x13V ?x13P ?x13Q ?x13U ?x14A ?x14L ?x14m ?x14v ?x14s ?x14g ?x14h ?x14n ?x14i ?x14t ?x14k ?x14e ?x14y ?x14d ?x14c ?x14o ?x14z ?x14F ?x14D ?x14K ?x14V ?x14P ?x14Q ?x14U ?u0A ?u0q ?u0k ?u0e ?u0v ?u0m ?u0g ?u0h ?u0c ?u0o ?u0i ?u0z ?u0y ?u1A ?u1q ?u1k ?u1e ?u1v ?u1m ?u1g ?u1h ?u1c ?u1o ?u1i ?u1z ?u1y ?u2A ?u2q ?u2k ?u2e ?u2v ?u2m ?u2g ?u2h ?u2c ?u2o ?u2i ?u2z ?u2y ?w0_1 ?w0_2 ?w0_3 ?w0_4 ?w0_5 ?w0_6 ?w0_7 ?w0_8 ?w0_9 ?w0_10 ?w0_11 ?w0_12 ?w0_13 ?w0_14 ?w0_15 ?w0_16 ?w1_0 ?w1_2 ?w1_3 ?w1_4 ?w1_5 ?w1_6 ?w1_7 ?w1_8 ?w1_9 ?w1_10 ?w1_11 ?w1_12 ?w1_13 ?w1_14 ?w1_15 ?w1_16 ?w2_0 ?w2_1 ?w2_3 ?w2_4 ?w2_5 ?w2_6 ?w2_7 ?w2_8 ?w2_9 ?w2_10 ?w2_11 ?w2_12 ?w2_13 ?w2_14 ?w2_15 ?w2_16 ?w3_0 ?w3_1 ?w3_2 ?w3_4 ?w3_5 ?w3_6 ?w3_7 ?w3_8 ?w3_9 ?w3_10 ?w3_11 ?w3_12 ?w3_13 ?w3_14 ?w3_15 ?w3_16 ?w4_0 ?w4_1 ?w4_2 ?w4_3 ?w4_5 ?w4_6 ?w4_7 ?w4_8 ?w4_9 ?w4_10 ?w4_11 ?w4_12 ?w4_13 ?w4_14 ?w4_15 ?w4_16 ?w5_0 ?w5_1 ?w5_2 ?w5_3 ?w5_4 ?w5_6 ?w5_7 ?w5_8 ?w5_9 ?w5_10 ?w5_11 ?w5_12 ?w5_13 ?w5_14 ?w5_15 ?w5_16 ?w6_0 ?w6_1 ?w6_2 ?w6_3 ?w6_4 ?w6_5 ?w6_7 ?w6_8 ?w6_9 ?w6_10 ?w6_11 ?w6_12 ?w6_13 ?w6_14 ?w6_15 ?w6_16 ?w7_0 ?w7_1 ?w7_2 ?w7_3 ?w7_4 ?w7_5 ?w7_6 ?w7_8 ?w7_9 ?w7_10 ?w7_11 ?w7_12 ?w7_13 ?w7_14 ?w7_15 ?w7_16 ?w8_0 ?w8_1 ?w8_2 ?w8_3 ?w8_4 ?w8_5 ?w8_6 ?w8_7 ?w8_9 ?w8_10 ?w8_11 ?w8_12 ?w8_13 ?w8_14 ?w8_15 ?w8_16 ?w9_0 ?w9_1 ?w9_2 ?w9_3 ?w9_4 ?w9_5 ?w9_6 ?w9_7 ?w9_8 ?w9_10 ?w9_11 ?w9_12 ?w9_13 ?w9_14 ?w9_15 ?w9_16 ?w10_0 ?w10_1 ?w10_2 ?w10_3 ?w10_4 ?w10_5 ?w10_6 ?w10_7 ?w10_8 ?w10_9 ?w10_11 ?w10_12 ?w10_13 ?w10_14 ?w10_15 ?w10_16 ?w11_0 ?w11_1 ?w11_2 ?w11_3 ?w11_4 ?w11_5 ?w11_6 ?w11_7 ?w11_8 ?w11_9 ?w11_10 ?w11_12 ?w11_13 ?w11_14 ?w11_15 ?w11_16 ?w12_0 ?w12_1 ?w12_2 ?w12_3 ?w12_4 ?w12_5 ?w12_6 ?w12_7 ?w12_8 ?w12_9 ?w12_10 ?w12_11 ?w12_13 ?w12_14 ?w12_15 ?w12_16 ?w13_0 ?w13_1 ?w13_2 ?w13_3 ?w13_4 ?w13_5 ?w13_6 ?w13_7 ?w13_8 ?w13_9 ?w13_10 ?w13_11 ?w13_12 ?w13_14 ?w13_15 ?w13_16 ?w14_0 ?w14_1 ?w14_2 ?w14_3 ?w14_4 ?w14_5 ?w14_6 ?w14_7 ?w14_8 ?w14_9 ?w14_10 ?w14_11 ?w14_12 ?w14_13 ?w14_15 ?w14_16 ?w15_0 ?w15_1 ?w15_2 ?w15_3 ?w15_4 ?w15_5 ?w15_6 ?w15_7 ?w15_8 ?w15_9 ?w15_10 ?w15_11 ?w15_12 ?w15_13 ?w15_14 ?w15_16 ?w16_0 ?w16_1 ?w16_2 ?w16_3 ?w16_4 ?w16_5 ?w16_6 ?w16_7 ?w16_8 ?w16_9 ?w16_10 ?w16_11 ?w16_12 ?w16_13 ?w16_14 ?w16_15 ?w17_0 ?w17_1 ?w17_2 ?w17_3 ?w17_4 ?w17_5 ?w17_6 ?w17_7 ?w17_8 ?w17_9 ?w17_10 ?w17_11 ?w17_12 ?w17_13 ?w17_14 ?w17_15 ?w17_16
    (case a0 => k_is); (case l0 => k_is); (case e0 => k_is); (case k0 => k_is); (case a1 => k_is); (case l1 => k_is); (case e1 => k_is); (case k1 => k_is)
    (case a2 => k_is); (case l2 => k_is); (case e2 => k_is); (case k2 => k_is); (case a3 => k_is); (case l3 => k_is); (case e3 => k_is); (case k3 => k_is)
    (case a4 => k_is); (case l4 => k_is); (case e4 => k_is); (case k4 => k_is); (case a5 => k_is); (case l5 => k_is); (case e5 => k_is); (case k5 => k_is)
    (case a6 => k_is); (case l6 => k_is); (case e6 => k_is); (case k6 => k_is); (case a7 => k_is); (case l7 => k_is); (case e7 => k_is); (case k7 => k_is)
    (case z0 => k_is); (case z1 => k_is); (case z2 => k_is); (case z3 => k_is); (case z4 => k_is); (case z5 => k_is); (case z6 => k_is); (case z7 => k_is)
    (case q_sup => k_is); (case q_no => k_is); (case q_top => first | rfl | decide +kernel); (case q_sp => k_is); (case q_tk => k_is); (case y0A => k_is); (case y0L => k_is); (case y0I => k_is)
    (case y0E => k_is); (case y0H => k_is); (case y0T => k_is); (case y0R => first | rfl | decide +kernel); (case y0X => first | rfl | decide +kernel); (case y0C => k_is); (case x0A => k_is); (case x0L => k_is)
    (case x0m => k_is); (case x0v => k_is); (case x0s => k_is); (case x0g => k_is); (case x0h => k_is); (case x0n => k_is); (case x0i => k_is); (case x0t => k_is)
    (case x0k => k_is); (case x0e => k_is); (case x0y => k_is); (case x0d => k_is); (case x0c => k_is); (case x0o => k_is); (case x0z => k_is); (case x0F => k_is)
    (case x0D => k_is); (case x0K => k_is); (case x0V => first | rfl | decide +kernel); (case x0P => first | rfl | decide +kernel); (case x0Q => k_is); (case x0U => k_is); (case x1A => k_is); (case x1L => k_is)
    (case x1m => k_is); (case x1v => k_is); (case x1s => k_is); (case x1g => k_is); (case x1h => k_is); (case x1n => k_is); (case x1i => k_is); (case x1t => k_is)
    (case x1k => k_is); (case x1e => k_is); (case x1y => k_is); (case x1d => k_is); (case x1c => k_is); (case x1o => k_is); (case x1z => k_is); (case x1F => k_is)
    (case x1D => k_is); (case x1K => k_is); (case x1V => first | rfl | decide +kernel); (case x1P => first | rfl | decide +kernel); (case x1Q => k_is); (case x1U => k_is); (case x2A => k_is); (case x2L => k_is)
    (case x2m => k_is); (case x2v => k_is); (case x2s => k_is); (case x2g => k_is); (case x2h => k_is); (case x2n => k_is); (case x2i => k_is); (case x2t => k_is)
    (case x2k => k_is); (case x2e => k_is); (case x2y => k_is); (case x2d => k_is); (case x2c => k_is); (case x2o => k_is); (case x2z => k_is); (case x2F => k_is)
    (case x2D => k_is); (case x2K => k_is); (case x2V => first | rfl | decide +kernel); (case x2P => first | rfl | decide +kernel); (case x2Q => k_is); (case x2U => k_is); (case x3A => k_is); (case x3L => k_is)
    (case x3m => k_is); (case x3v => k_is); (case x3s => k_is); (case x3g => k_is); (case x3h => k_is); (case x3n => k_is); (case x3i => k_is); (case x3t => k_is)
    (case x3k => k_is); (case x3e => k_is); (case x3y => k_is); (case x3d => k_is); (case x3c => k_is); (case x3o => k_is); (case x3z => k_is); (case x3F => k_is)
    (case x3D => k_is); (case x3K => k_is); (case x3V => first | rfl | decide +kernel); (case x3P => first | rfl | decide +kernel); (case x3Q => k_is); (case x3U => k_is); (case x4A => k_is); (case x4L => k_is)
    (case x4m => k_is); (case x4v => k_is); (case x4s => k_is); (case x4g => k_is); (case x4h => k_is); (case x4n => k_is); (case x4i => k_is); (case x4t => k_is)
    (case x4k => k_is); (case x4e => k_is); (case x4y => k_is); (case x4d => k_is); (case x4c => k_is); (case x4o => k_is); (case x4z => k_is); (case x4F => k_is)
    (case x4D => k_is); (case x4K => k_is); (case x4V => first | rfl | decide +kernel); (case x4P => first | rfl | decide +kernel); (case x4Q => k_is); (case x4U => k_is); (case x5A => k_is); (case x5L => k_is)
    (case x5m => k_is); (case x5v => k_is); (case x5s => k_is); (case x5g => k_is); (case x5h => k_is); (case x5n => k_is); (case x5i => k_is); (case x5t => k_is)
    (case x5k => k_is); (case x5e => k_is); (case x5y => k_is); (case x5d => k_is); (case x5c => k_is); (case x5o => k_is); (case x5z => k_is); (case x5F => k_is)
    (case x5D => k_is); (case x5K => k_is); (case x5V => first | rfl | decide +kernel); (case x5P => first | rfl | decide +kernel); (case x5Q => k_is); (case x5U => k_is); (case x6A => k_is); (case x6L => k_is)
    (case x6m => k_is); (case x6v => k_is); (case x6s => k_is); (case x6g => k_is); (case x6h => k_is); (case x6n => k_is); (case x6i => k_is); (case x6t => k_is)
    (case x6k => k_is); (case x6e => k_is); (case x6y => k_is); (case x6d => k_is); (case x6c => k_is); (case x6o => k_is); (case x6z => k_is); (case x6F => k_is)
    (case x6D => k_is); (case x6K => k_is); (case x6V => first | rfl | decide +kernel); (case x6P => first | rfl | decide +kernel); (case x6Q => k_is); (case x6U => k_is); (case x7A => k_is); (case x7L => k_is)
    (case x7m => k_is); (case x7v => k_is); (case x7s => k_is); (case x7g => k_is); (case x7h => k_is); (case x7n => k_is); (case x7i => k_is); (case x7t => k_is)
    (case x7k => k_is); (case x7e => k_is); (case x7y => k_is); (case x7d => k_is); (case x7c => k_is); (case x7o => k_is); (case x7z => k_is); (case x7F => k_is)
    (case x7D => k_is); (case x7K => k_is); (case x7V => first | rfl | decide +kernel); (case x7P => first | rfl | decide +kernel); (case x7Q => k_is); (case x7U => k_is); (case x8A => k_is); (case x8L => k_is)
    (case x8m => k_is); (case x8v => k_is); (case x8s => k_is); (case x8g => k_is); (case x8h => k_is); (case x8n => k_is); (case x8i => k_is); (case x8t => k_is)
    (case x8k => k_is); (case x8e => k_is); (case x8y => k_is); (case x8d => k_is); (case x8c => k_is); (case x8o => k_is); (case x8z => k_is); (case x8F => k_is)
    (case x8D => k_is); (case x8K => k_is); (case x8V => first | rfl | decide +kernel); (case x8P => first | rfl | decide +kernel); (case x8Q => k_is); (case x8U => k_is); (case x9A => k_is); (case x9L => k_is)
    (case x9m => k_is); (case x9v => k_is); (case x9s => k_is); (case x9g => k_is); (case x9h => k_is); (case x9n => k_is); (case x9i => k_is); (case x9t => k_is)
    (case x9k => k_is); (case x9e => k_is); (case x9y => k_is); (case x9d => k_is); (case x9c => k_is); (case x9o => k_is); (case x9z => k_is); (case x9F => k_is)
    (case x9D => k_is); (case x9K => k_is); (case x9V => first | rfl | decide +kernel); (case x9P => first | rfl | decide +kernel); (case x9Q => k_is); (case x9U => k_is); (case x10A => k_is); (case x10L => k_is)
    (case x10m => k_is); (case x10v => k_is); (case x10s => k_is); (case x10g => k_is); (case x10h => k_is); (case x10n => k_is); (case x10i => k_is); (case x10t => k_is)
    (case x10k => k_is); (case x10e => k_is); (case x10y => k_is); (case x10d => k_is); (case x10c => k_is); (case x10o => k_is); (case x10z => k_is); (case x10F => k_is)
    (case x10D => k_is); (case x10K => k_is); (case x10V => first | rfl | decide +kernel); (case x10P => first | rfl | decide +kernel); (case x10Q => k_is); (case x10U => k_is); (case x11A => k_is); (case x11L => k_is)
    (case x11m => k_is); (case x11v => k_is); (case x11s => k_is); (case x11g => k_is); (case x11h => k_is); (case x11n => k_is); (case x11i => k_is); (case x11t => k_is)
    (case x11k => k_is); (case x11e => k_is); (case x11y => k_is); (case x11d => k_is); (case x11c => k_is); (case x11o => k_is); (case x11z => k_is); (case x11F => k_is)
    (case x11D => k_is); (case x11K => k_is); (case x11V => first | rfl | decide +kernel); (case x11P => first | rfl | decide +kernel); (case x11Q => k_is); (case x11U => k_is); (case x12A => k_is); (case x12L => k_is)
    (case x12m => k_is); (case x12v => k_is); (case x12s => k_is); (case x12g => k_is); (case x12h => k_is); (case x12n => k_is); (case x12i => k_is); (case x12t => k_is)
    (case x12k => k_is); (case x12e => k_is); (case x12y => k_is); (case x12d => k_is); (case x12c => k_is); (case x12o => k_is); (case x12z => k_is); (case x12F => k_is)
    (case x12D => k_is); (case x12K => k_is); (case x12V => first | rfl | decide +kernel); (case x12P => first | rfl | decide +kernel); (case x12Q => k_is); (case x12U => k_is); (case x13A => k_is); (case x13L => k_is)
    (case x13m => k_is); (case x13v => k_is); (case x13s => k_is); (case x13g => k_is); (case x13h => k_is); (case x13n => k_is); (case x13i => k_is); (case x13t => k_is)
    (case x13k => k_is); (case x13e => k_is); (case x13y => k_is); (case x13d => k_is); (case x13c => k_is); (case x13o => k_is); (case x13z => k_is); (case x13F => k_is)
    (case x13D => k_is); (case x13K => k_is); (case x13V => first | rfl | decide +kernel); (case x13P => first | rfl | decide +kernel); (case x13Q => k_is); (case x13U => k_is); (case x14A => k_is); (case x14L => k_is)
    (case x14m => k_is); (case x14v => k_is); (case x14s => k_is); (case x14g => k_is); (case x14h => k_is); (case x14n => k_is); (case x14i => k_is); (case x14t => k_is)
    (case x14k => k_is); (case x14e => k_is); (case x14y => k_is); (case x14d => k_is); (case x14c => k_is); (case x14o => k_is); (case x14z => k_is); (case x14F => k_is)
    (case x14D => k_is); (case x14K => k_is); (case x14V => first | rfl | decide +kernel); (case x14P => first | rfl | decide +kernel); (case x14Q => k_is); (case x14U => k_is); (case u0A => k_is); (case u0q => first | kernel_rfl | decide +kernel)
    (case u0k => k_is); (case u0e => k_is); (case u0v => k_is); (case u0m => k_is); (case u0g => k_is); (case u0h => k_is); (case u0c => k_is); (case u0o => k_is)
    (case u0i => k_is); (case u0z => k_is); (case u0y => k_is); (case u1A => k_is); (case u1q => first | kernel_rfl | decide +kernel); (case u1k => k_is); (case u1e => k_is); (case u1v => k_is)
    (case u1m => k_is); (case u1g => k_is); (case u1h => k_is); (case u1c => k_is); (case u1o => k_is); (case u1i => k_is); (case u1z => k_is); (case u1y => k_is)
    (case u2A => k_is); (case u2q => first | kernel_rfl | decide +kernel); (case u2k => k_is); (case u2e => k_is); (case u2v => k_is); (case u2m => k_is); (case u2g => k_is); (case u2h => k_is)
    (case u2c => k_is); (case u2o => k_is); (case u2i => k_is); (case u2z => k_is); (case u2y => k_is); (case w0_1 => k_is); (case w0_2 => k_is); (case w0_3 => k_is)
    (case w0_4 => k_is); (case w0_5 => k_is); (case w0_6 => k_is); (case w0_7 => k_is); (case w0_8 => k_is); (case w0_9 => k_is); (case w0_10 => k_is); (case w0_11 => k_is)
    (case w0_12 => k_is); (case w0_13 => k_is); (case w0_14 => k_is); (case w0_15 => k_is); (case w0_16 => k_is); (case w1_0 => k_is); (case w1_2 => k_is); (case w1_3 => k_is)
    (case w1_4 => k_is); (case w1_5 => k_is); (case w1_6 => k_is); (case w1_7 => k_is); (case w1_8 => k_is); (case w1_9 => k_is); (case w1_10 => k_is); (case w1_11 => k_is)
    (case w1_12 => k_is); (case w1_13 => k_is); (case w1_14 => k_is); (case w1_15 => k_is); (case w1_16 => k_is); (case w2_0 => k_is); (case w2_1 => k_is); (case w2_3 => k_is)
    (case w2_4 => k_is); (case w2_5 => k_is); (case w2_6 => k_is); (case w2_7 => k_is); (case w2_8 => k_is); (case w2_9 => k_is); (case w2_10 => k_is); (case w2_11 => k_is)
    (case w2_12 => k_is); (case w2_13 => k_is); (case w2_14 => k_is); (case w2_15 => k_is); (case w2_16 => k_is); (case w3_0 => k_is); (case w3_1 => k_is); (case w3_2 => k_is)
    (case w3_4 => k_is); (case w3_5 => k_is); (case w3_6 => k_is); (case w3_7 => k_is); (case w3_8 => k_is); (case w3_9 => k_is); (case w3_10 => k_is); (case w3_11 => k_is)
    (case w3_12 => k_is); (case w3_13 => k_is); (case w3_14 => k_is); (case w3_15 => k_is); (case w3_16 => k_is); (case w4_0 => k_is); (case w4_1 => k_is); (case w4_2 => k_is)
    (case w4_3 => k_is); (case w4_5 => k_is); (case w4_6 => k_is); (case w4_7 => k_is); (case w4_8 => k_is); (case w4_9 => k_is); (case w4_10 => k_is); (case w4_11 => k_is)
    (case w4_12 => k_is); (case w4_13 => k_is); (case w4_14 => k_is); (case w4_15 => k_is); (case w4_16 => k_is); (case w5_0 => k_is); (case w5_1 => k_is); (case w5_2 => k_is)
    (case w5_3 => k_is); (case w5_4 => k_is); (case w5_6 => k_is); (case w5_7 => k_is); (case w5_8 => k_is); (case w5_9 => k_is); (case w5_10 => k_is); (case w5_11 => k_is)
    (case w5_12 => k_is); (case w5_13 => k_is); (case w5_14 => k_is); (case w5_15 => k_is); (case w5_16 => k_is); (case w6_0 => k_is); (case w6_1 => k_is); (case w6_2 => k_is)
    (case w6_3 => k_is); (case w6_4 => k_is); (case w6_5 => k_is); (case w6_7 => k_is); (case w6_8 => k_is); (case w6_9 => k_is); (case w6_10 => k_is); (case w6_11 => k_is)
    (case w6_12 => k_is); (case w6_13 => k_is); (case w6_14 => k_is); (case w6_15 => k_is); (case w6_16 => k_is); (case w7_0 => k_is); (case w7_1 => k_is); (case w7_2 => k_is)
    (case w7_3 => k_is); (case w7_4 => k_is); (case w7_5 => k_is); (case w7_6 => k_is); (case w7_8 => k_is); (case w7_9 => k_is); (case w7_10 => k_is); (case w7_11 => k_is)
    (case w7_12 => k_is); (case w7_13 => k_is); (case w7_14 => k_is); (case w7_15 => k_is); (case w7_16 => k_is); (case w8_0 => k_is); (case w8_1 => k_is); (case w8_2 => k_is)
    (case w8_3 => k_is); (case w8_4 => k_is); (case w8_5 => k_is); (case w8_6 => k_is); (case w8_7 => k_is); (case w8_9 => k_is); (case w8_10 => k_is); (case w8_11 => k_is)
    (case w8_12 => k_is); (case w8_13 => k_is); (case w8_14 => k_is); (case w8_15 => k_is); (case w8_16 => k_is); (case w9_0 => k_is); (case w9_1 => k_is); (case w9_2 => k_is)
    (case w9_3 => k_is); (case w9_4 => k_is); (case w9_5 => k_is); (case w9_6 => k_is); (case w9_7 => k_is); (case w9_8 => k_is); (case w9_10 => k_is); (case w9_11 => k_is)
    (case w9_12 => k_is); (case w9_13 => k_is); (case w9_14 => k_is); (case w9_15 => k_is); (case w9_16 => k_is); (case w10_0 => k_is); (case w10_1 => k_is); (case w10_2 => k_is)
    (case w10_3 => k_is); (case w10_4 => k_is); (case w10_5 => k_is); (case w10_6 => k_is); (case w10_7 => k_is); (case w10_8 => k_is); (case w10_9 => k_is); (case w10_11 => k_is)
    (case w10_12 => k_is); (case w10_13 => k_is); (case w10_14 => k_is); (case w10_15 => k_is); (case w10_16 => k_is); (case w11_0 => k_is); (case w11_1 => k_is); (case w11_2 => k_is)
    (case w11_3 => k_is); (case w11_4 => k_is); (case w11_5 => k_is); (case w11_6 => k_is); (case w11_7 => k_is); (case w11_8 => k_is); (case w11_9 => k_is); (case w11_10 => k_is)
    (case w11_12 => k_is); (case w11_13 => k_is); (case w11_14 => k_is); (case w11_15 => k_is); (case w11_16 => k_is); (case w12_0 => k_is); (case w12_1 => k_is); (case w12_2 => k_is)
    (case w12_3 => k_is); (case w12_4 => k_is); (case w12_5 => k_is); (case w12_6 => k_is); (case w12_7 => k_is); (case w12_8 => k_is); (case w12_9 => k_is); (case w12_10 => k_is)
    (case w12_11 => k_is); (case w12_13 => k_is); (case w12_14 => k_is); (case w12_15 => k_is); (case w12_16 => k_is); (case w13_0 => k_is); (case w13_1 => k_is); (case w13_2 => k_is)
    (case w13_3 => k_is); (case w13_4 => k_is); (case w13_5 => k_is); (case w13_6 => k_is); (case w13_7 => k_is); (case w13_8 => k_is); (case w13_9 => k_is); (case w13_10 => k_is)
    (case w13_11 => k_is); (case w13_12 => k_is); (case w13_14 => k_is); (case w13_15 => k_is); (case w13_16 => k_is); (case w14_0 => k_is); (case w14_1 => k_is); (case w14_2 => k_is)
    (case w14_3 => k_is); (case w14_4 => k_is); (case w14_5 => k_is); (case w14_6 => k_is); (case w14_7 => k_is); (case w14_8 => k_is); (case w14_9 => k_is); (case w14_10 => k_is)
    (case w14_11 => k_is); (case w14_12 => k_is); (case w14_13 => k_is); (case w14_15 => k_is); (case w14_16 => k_is); (case w15_0 => k_is); (case w15_1 => k_is); (case w15_2 => k_is)
    (case w15_3 => k_is); (case w15_4 => k_is); (case w15_5 => k_is); (case w15_6 => k_is); (case w15_7 => k_is); (case w15_8 => k_is); (case w15_9 => k_is); (case w15_10 => k_is)
    (case w15_11 => k_is); (case w15_12 => k_is); (case w15_13 => k_is); (case w15_14 => k_is); (case w15_16 => k_is); (case w16_0 => k_is); (case w16_1 => k_is); (case w16_2 => k_is)
    (case w16_3 => k_is); (case w16_4 => k_is); (case w16_5 => k_is); (case w16_6 => k_is); (case w16_7 => k_is); (case w16_8 => k_is); (case w16_9 => k_is); (case w16_10 => k_is)
    (case w16_11 => k_is); (case w16_12 => k_is); (case w16_13 => k_is); (case w16_14 => k_is); (case w16_15 => k_is); (case w17_0 => k_is); (case w17_1 => k_is); (case w17_2 => k_is)
    (case w17_3 => k_is); (case w17_4 => k_is); (case w17_5 => k_is); (case w17_6 => k_is); (case w17_7 => k_is); (case w17_8 => k_is); (case w17_9 => k_is); (case w17_10 => k_is)
    (case w17_11 => k_is); (case w17_12 => k_is); (case w17_13 => k_is); (case w17_14 => k_is); (case w17_15 => k_is); (case w17_16 => k_is)
