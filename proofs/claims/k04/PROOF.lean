import PyProof.Rows.All
import Wide.All
import OpenK.AllK
import Wide.FinOn
import PySem.Str
import PyProof.ReprReads
import HandS.ForMost
import HandS.TupAny
import HandS.TupMul
import HandS.Deep
import HandS.IsInst
import HandS.Flow
import HandS.HeadEnd
import HandS.HeadHook2
import KE.KDictKeyed
import HandS.Style
import HandS.Text
import HandS.More
import KE.GoesEnum
import KE.GoesMore
import HandS.Defaults
import HandS.Words
import HandS.EndBits
import HandS.Head0
import HandS.Head1
import HandS.Head2
import HandS.HeadHook1
import PyProof.StrLawsRepr
import PySem.Challenge.RW_scopetables_k04_mentions_in_order
section
/-! Ev0: data, terms, the evaluator (plain Lean, no model in sight). -/
namespace Ev
open PySem (Str)

/-- data: tuples and settled (never again changed) lists, dicts, instances as trees; ref: a live object -/
inductive D where
  | non | bl (b : Bool) | int (i : Int) | str (x : Str)
  | tup (xs : List D) | lst (xs : List D)
  | dic (t : Bool) (kvs : List (D × D))
  | ins (c : Nat) (fs : List (Str × D))
  | ref (n : Nat)
  | frl (xs : List D)
  | kd (kvs : List (Str × D))
/-- a live object -/
inductive O where
  | lst (xs : List D) | dic (t : Bool) (kvs : List (D × D)) | ins (c : Nat) (fs : List (Str × D))
def O.d : O → D
  | .lst xs => .lst xs
  | .dic t k => .dic t k
  | .ins c f => .ins c f
instance : Inhabited D := ⟨.non⟩

/-- the live objects -/
structure Mm where
  nx : Nat
  m : List (Nat × O)
def lk : List (Nat × O) → Nat → Option O
  | [], _ => none
  | (k, o) :: r, n => if k = n then some o else lk r n
def stm : List (Nat × O) → Nat → O → List (Nat × O)
  | [], _, _ => []
  | (k, o) :: r, n, u => if k = n then (k, u) :: r else (k, o) :: stm r n u
def Mm.get (h : Mm) (n : Nat) : Option O := lk h.m n
def Mm.set (h : Mm) (n : Nat) (o : O) : Mm := ⟨h.nx, stm h.m n o⟩
def Mm.new (h : Mm) (o : O) : D × Mm := (.ref h.nx, ⟨h.nx + 1, (h.nx, o) :: h.m⟩)
def Mm.nil : Mm := ⟨0, []⟩

abbrev Env := List (Option D)
def getE : Env → Nat → Option D
  | [], _ => none
  | x :: _, 0 => x
  | _ :: r, i + 1 => getE r i
def setE : Env → Nat → D → Env
  | [], _, _ => []
  | _ :: r, 0, d => some d :: r
  | x :: r, i + 1, d => x :: setE r i d

/-! ### no live object in it -/
mutual
def pureD : D → Bool
  | .non | .bl _ | .int _ | .str _ => true
  | .tup xs | .lst xs | .frl xs => pureL xs
  | .kd _ => true
  | .dic _ kvs => pureK kvs
  | .ins _ fs => pureF fs
  | .ref _ => false
def pureL : List D → Bool
  | [] => true
  | d :: r => pureD d && pureL r
def pureK : List (D × D) → Bool
  | [] => true
  | (a, b) :: r => pureD a && pureD b && pureK r
def pureF : List (Str × D) → Bool
  | [] => true
  | (_, b) :: r => pureD b && pureF r
end

/-! ### the tree of a value (live objects as they stand) -/
def mapO {α β : Type} (f : α → Option β) : List α → Option (List β)
  | [] => some []
  | a :: r => match f a with
    | some b => (match mapO f r with
      | some s => some (b :: s)
      | none => none)
    | none => none
def frz : Nat → Mm → D → Option D
  | 0, _, d => bif pureD d then some d else none
  | k + 1, h, d => bif pureD d then some d else match d with
    | .tup xs => (mapO (frz k h) xs).map .tup
    | .lst xs => (mapO (frz k h) xs).map .lst
    | .ref n => match h.get n with
      | some (.lst xs) => (mapO (frz k h) xs).map .lst
      | some (.dic t kvs) => (mapO (fun p : D × D => (frz k h p.2).map fun y => (p.1, y)) kvs).map (.dic t)
      | some (.ins c fs) => (mapO (fun p : Str × D => (frz k h p.2).map fun y => (p.1, y)) fs).map (.ins c)
      | none => none
    | _ => none

/-! ### == of data -/
def b2i (b : Bool) : Int := bif b then 1 else 0
mutual
def eqD : D → D → Bool
  | .non, .non => true
  | .bl a, .bl b => a == b
  | .bl a, .int j => decide (b2i a = j)
  | .int i, .bl b => decide (i = b2i b)
  | .int i, .int j => decide (i = j)
  | .str x, .str y => decide (x = y)
  | .tup xs, .tup ys => eqL xs ys
  | .lst xs, .lst ys => eqL xs ys
  | _, _ => false
def eqL : List D → List D → Bool
  | [], [] => true
  | x :: xs, y :: ys => eqD x y && eqL xs ys
  | _, _ => false
end
/-- a text's signs are signs -/
def strB : List Nat → Bool
  | [] => true
  | c :: r => Nat.blt c 1114112 && strB r
mutual
/-- plain data: compared and shown by the library's own rules; its depth -/
def dataD : D → Option Nat
  | .non | .bl _ | .int _ => some 0
  | .str x => bif strB x.cps.toList then some 0 else none
  | .tup xs | .lst xs => (dataL xs).map (· + 1)
  | _ => none
def dataL : List D → Option Nat
  | [] => some 0
  | d :: r => match dataD d, dataL r with
    | some a, some b => some (max a b)
    | _, _ => none
end

/-! ### exactly the same -/
mutual
def same : D → D → Bool
  | .non, .non => true
  | .bl a, .bl b => a == b
  | .int i, .int j => decide (i = j)
  | .str x, .str y => decide (x = y)
  | .tup xs, .tup ys => sameL xs ys
  | .lst xs, .lst ys => sameL xs ys
  | .ref a, .ref b => decide (a = b)
  | .kd xs, .kd ys => sameF xs ys
  | _, _ => false
def sameF : List (Str × D) → List (Str × D) → Bool
  | [], [] => true
  | (a, x) :: xs, (b, y) :: ys => decide (a = b) && same x y && sameF xs ys
  | _, _ => false
def sameL : List D → List D → Bool
  | [], [] => true
  | x :: xs, y :: ys => same x y && sameL xs ys
  | _, _ => false
end

/-! ### terms -/
/-- how a call is made: with the live objects at hand; apart (pure arguments, a pure answer, no live object stays); apart, the answer one new live object -/
inductive Md | sh | iso | liv
inductive Op | add | sub | mul | fdiv | mod | pow
inductive Cm | eq | ne | lt | le | gt | ge | is | isn | inn | nin
inductive Ty | int | str | bool | tuple | list | dict
inductive Bt | len | abs | max2 | min2 | maxL | sumL | tupleOf | listOf | repr | strOf | intOf | allL | anyL | dictOf | sorted | setSorted
inductive Bm | append | extend | pop | get1 | get2 | setdefault | join
mutual
inductive E
  | var (i : Nat) | non | bl (b : Bool) | int (i : Int) | str (x : Str)
  | glo (x : Str) (d : D)
  | bin (o : Op) (z : Bool) (a b : E)
  | neg (a : E)
  | cmp (o : Cm) (a b : E)
  | chn (o o' : Cm) (a b c : E)
  | and (es : Es) | or (es : Es) | not (c : C)
  | ite (c : C) (a b : E)
  | tup (es : Es) | lst (z : Bool) (es : Es) | dic (z t : Bool) (ks : Ks)
  | fld (o : E) (f : Str)
  | idx (o i : E)
  | sl (z : Bool) (o : E) (lo hi : Es)
  | call (m : Md) (f : Nat) (es : Es)
  | meth (m : Md) (c f : Nat) (x : Str) (o : E) (es : Es)
  | make (m : Md) (c : Nat) (es : Es)
  | blt (b : Bt) (z : Bool) (es : Es)
  | bm (b : Bm) (o : E) (es : Es)
  | isi (e : E) (t : Ty)
  | comp (z : Bool) (own : List Nat) (e : E) (g : T) (it : It) (cs : Cs)
inductive Es | nil | cons (e : E) (r : Es)
inductive Ks | nil | cons (k v : E) (r : Ks)
inductive C | and (cs : Cs) | or (cs : Cs) | not (c : C) | of (e : E)
inductive Cs | nil | cons (c : C) (r : Cs)
inductive T | var (i : Nat) | tup (ts : Ts) | sub (o i : E) | fld (o : E) (f : Str)
inductive Ts | nil | cons (t : T) (r : Ts)
inductive It | of (e : E) | rng (es : Es) | enm (e : E) | zip (a b : E)
end
mutual
inductive S
  | asg (g : T) (e : E)
  | par (i j : Nat) (a b : E)
  | aug (i : Nat) (o : Op) (e : E)
  | augS (o i : E) (p : Op) (e : E)
  | augF (o : E) (f : Str) (p : Op) (e : E)
  | exp (e : E) | ret (e : E) | retN
  | iff (c : C) (a b : Ss) | whl (c : C) (b : Ss) | for_ (g : T) (it : It) (b : Ss)
  | pass | brk | cnt | nvr
inductive Ss | nil | cons (s : S) (r : Ss) | iso (r : Ss)
end
def Es.toL : Es → List E
  | .nil => []
  | .cons e r => e :: r.toL
structure Fn where
  np : Nat
  ns : Nat
  body : Ss
structure Cl where
  init : Nat
  flds : List Str
structure Prg where
  fns : Nat → Option Fn
  cls : Nat → Option Cl
  W : Nat

/-! ### values -/
def most : Nat := 16777216
/-- a new list, settled or live -/
def mkO (z : Bool) (o : O) (h : Mm) : D × Mm := bif z then (o.d, h) else h.new o
/-- the items of a list or tuple -/
def seqOf (h : Mm) : D → Option (List D)
  | .tup xs | .lst xs | .frl xs => some xs
  | .ref n => match h.get n with
    | some (.lst xs) => some xs
    | _ => none
  | _ => none
def listOf (h : Mm) : D → Option (List D)
  | .lst xs => some xs
  | .ref n => match h.get n with
    | some (.lst xs) => some xs
    | _ => none
  | _ => none
def dictOf (h : Mm) : D → Option (Bool × List (D × D))
  | .dic t kvs => some (t, kvs)
  | .ref n => match h.get n with
    | some (.dic t kvs) => some (t, kvs)
    | _ => none
  | _ => none
def insOf (h : Mm) : D → Option (Nat × List (Str × D))
  | .ins c fs => some (c, fs)
  | .ref n => match h.get n with
    | some (.ins c fs) => some (c, fs)
    | _ => none
  | _ => none
def tru (h : Mm) : D → Option Bool
  | .non => some false
  | .bl b => some b
  | .int i => some (i != 0)
  | .str x => bif Nat.ble x.length most then some ((x.length : Int) != 0) else none
  | d => match seqOf h d with
    | some xs => some (!xs.isEmpty)
    | none => none
/-- the place of an index -/
def ixN (n : Nat) (i : Int) : Option Nat := if 0 ≤ i then (if i < n then some i.toNat else none) else if -(n : Int) ≤ i then some (i + n).toNat else none
def nthL : List D → Nat → Option D
  | [], _ => none
  | x :: _, 0 => some x
  | _ :: r, i + 1 => nthL r i
def atL (xs : List D) (i : Int) : Option D := match ixN xs.length i with
  | some j => nthL xs j
  | none => none
def nthN : List Nat → Nat → Option Nat
  | [], _ => none
  | x :: _, 0 => some x
  | _ :: r, i + 1 => nthN r i
/-- the cut of a slice -/
def sIx (n d : Nat) : Option Int → Nat
  | none => d
  | some v => if v < 0 then (v + n).toNat else min v.toNat n
def cut {α : Type} (xs : List α) (lo hi : Option Int) : List α := (xs.drop (sIx xs.length 0 lo)).take (sIx xs.length xs.length hi - sIx xs.length 0 lo)
-- keys: intsD, texts in one kind of dict; tuples in the other
mutual
def keyD : D → Bool
  | .non | .int _ | .str _ => true
  | .tup xs => keyL xs
  | _ => false
def keyL : List D → Bool
  | [] => true
  | d :: r => keyD d && keyL r
end
mutual
def kdep : D → Nat
  | .tup xs => kdepL xs + 1
  | _ => 0
def kdepL : List D → Nat
  | [] => 0
  | d :: r => max (kdep d) (kdepL r)
end
def keyOk (t : Bool) (k : D) : Bool := match t, k with
  | false, .int _ => true
  | false, .str _ => true
  | true, .tup xs => keyL xs && Nat.ble (kdepL xs + 1) 7
  | _, _ => false
def lkD : List (D × D) → D → Option D
  | [], _ => none
  | (a, b) :: r, k => bif eqD a k then some b else lkD r k
def repD : List (D × D) → D → D → List (D × D)
  | [], _, _ => []
  | (a, b) :: r, k, v => (a, bif eqD a k then v else b) :: repD r k v
def putD (kvs : List (D × D)) (k v : D) : List (D × D) := match lkD kvs k with
  | some _ => repD kvs k v
  | none => kvs ++ [(k, v)]
def lkF : List (Str × D) → Str → Option D
  | [], _ => none
  | (a, b) :: r, k => if a = k then some b else lkF r k
def putF : Str → D → List (Str × D) → List (Str × D)
  | k, v, [] => [(k, v)]
  | k, v, (a, b) :: r => if a = k then (a, v) :: r else (a, b) :: putF k v r
def fdp : Nat := 24
/-- plain data behind a value -/
def dat (h : Mm) (d : D) : Option D := match frz fdp h d with
  | some e => (match dataD e with
    | some n => bif Nat.ble n 60 then some e else none
    | none => none)
  | none => none
def i64 (i : Int) : Bool := decide (-(2 ^ 64) < i) && decide (i < 2 ^ 64)
def i63 (i : Int) : Bool := decide (-(2 ^ 62) ≤ i) && decide (i < 2 ^ 62)
def rep {α : Type} : Nat → List α → List α
  | 0, _ => []
  | n + 1, xs => xs ++ rep n xs
def repS : Nat → Str → Str
  | 0, _ => ⟨#[]⟩
  | n + 1, x => x ++ repS n x
def binD (o : Op) (z : Bool) (x y : D) (h : Mm) : Option (D × Mm) :=
  match o, x, y with
  | .add, .int i, .int j => some (.int (i + j), h)
  | .sub, .int i, .int j => some (.int (i - j), h)
  | .mul, .int i, .int j => bif i64 i || i64 j then some (.int (i * j), h) else none
  | .fdiv, .int i, .int j => bif decide (0 < j) && decide (j < 1073741824) then some (.int (i / j), h) else none
  | .mod, .int i, .int j => bif decide (0 < j) then some (.int (i % j), h) else none
  | .pow, .int i, .int j => bif decide (0 ≤ j) && decide (j ≤ 1000) && i64 i then some (.int (i ^ j.toNat), h) else none
  | .add, .str a, .str b => bif Nat.ble (a.length + b.length) most then some (.str (a ++ b), h) else none
  | .add, .tup a, .tup b => bif Nat.ble (a.length + b.length) most then some (.tup (a ++ b), h) else none
  | .mul, .tup a, .int j => bif Nat.ble a.length 1000 && !a.isEmpty && decide (2 ≤ j) && decide (j ≤ 1000) then some (.tup (rep j.toNat a), h) else none
  | .add, a, b => match listOf h a, listOf h b with
    | some a, some b => bif Nat.ble (a.length + b.length) most then some (mkO z (.lst (a ++ b)) h) else none
    | _, _ => none
  | .mul, a, .int j => match listOf h a with
    | some a => bif Nat.ble a.length 1000 && decide (0 ≤ j) && decide (j ≤ 1000) then some (mkO z (.lst (rep j.toNat a)) h) else none
    | _ => none
  | _, _, _ => none
def anyEq : D → List D → Bool
  | _, [] => false
  | d, e :: r => eqD e d || anyEq d r
def mkD (t : Bool) : List (D × D) → List (D × D) → Option (List (D × D))
  | acc, [] => some acc
  | acc, (k, v) :: r => bif keyOk t k && Nat.ble (acc.length + 1) 1000 then mkD t (putD acc k v) r else none
def scl : D → Bool
  | .non | .bl _ | .int _ | .str _ => true
  | _ => false
def scl2 : D → D → Bool
  | .bl _, .int _ | .int _, .bl _ => false
  | x, y => scl x && scl y
def allScl : List D → Bool
  | [] => true
  | d :: r => scl d && allScl r
def memN (c : Nat) : List Nat → Bool
  | [] => false
  | d :: r => decide (c = d) || memN c r
def eqM (x y : D) (h : Mm) : Option Bool :=
  bif scl2 x y then some (eqD x y) else match dat h x, dat h y with
    | some a, some b => some (eqD a b)
    | _, _ => none
/-- x in y -/
def inD (x y : D) (h : Mm) : Option Bool :=
  match dictOf h y with
  | some (t, kvs) => bif keyOk t x then some (lkD kvs x).isSome else none
  | none => match x, y with
    | .str a, .str b => (match a.cps.toList with
      | [c] => some (memN c b.cps.toList)
      | _ => none)
    | x, y => match seqOf h y with
      | some ys => bif scl x && allScl ys then some (anyEq x ys) else (match dat h x, dat h y with
        | some a, some (.tup bs) => some (anyEq a bs)
        | some a, some (.lst bs) => some (anyEq a bs)
        | _, _ => none)
      | none => none
def cmpD (o : Cm) (x y : D) (h : Mm) : Option Bool :=
  match o with
  | .eq => eqM x y h
  | .ne => match eqM x y h with
    | some k => some (!k)
    | none => none
  | .lt => match x, y with
    | .int i, .int j => some (decide (i < j))
    | _, _ => none
  | .le => match x, y with
    | .int i, .int j => some (decide (i ≤ j))
    | _, _ => none
  | .gt => match x, y with
    | .int i, .int j => some (decide (j < i))
    | _, _ => none
  | .ge => match x, y with
    | .int i, .int j => some (decide (j ≤ i))
    | _, _ => none
  | .is => match y, x with
    | .non, .non => some true
    | .non, _ => some false
    | .bl a, .bl b => some (a == b)
    | _, _ => none
  | .isn => match y, x with
    | .non, .non => some false
    | .non, _ => some true
    | .bl a, .bl b => some (!(a == b))
    | _, _ => none
  | .inn => inD x y h
  | .nin => match inD x y h with
    | some k => some (!k)
    | none => none
def isiD (t : Ty) (x : D) (h : Mm) : Option Bool :=
  match x, t with
  | .non, _ => some false
  | .bl _, .int => some true
  | .bl _, .bool => some true
  | .bl _, _ => some false
  | .int _, .int => some true
  | .int _, _ => some false
  | .str _, .str => some true
  | .str _, _ => some false
  | .tup _, .tuple => some true
  | .tup _, _ => some false
  | .lst _, .list => some true
  | .lst _, _ => some false
  | .dic false _, .dict => some true
  | .dic false _, _ => some false
  | .ref n, t => match h.get n, t with
    | some (.lst _), .list => some true
    | some (.lst _), _ => some false
    | some (.dic false _), .dict => some true
    | some (.dic false _), _ => some false
    | _, _ => none
  | _, _ => none
def idxD (o i : D) (h : Mm) : Option D :=
  match o, i with
  | .str x, .int i => bif Nat.ble x.length most then (match ixN x.length i with
    | some j => (nthN x.cps.toList j).map fun c => .str ⟨#[c]⟩
    | none => none) else none
  | o, i => match dictOf h o with
    | some (t, kvs) => bif keyOk t i then lkD kvs i else none
    | none => match i, seqOf h o with
      | .int i, some xs => atL xs i
      | _, _ => none
def slD (z : Bool) (o : D) (lo hi : Option Int) (h : Mm) : Option (D × Mm) :=
  match o with
  | .str x => bif Nat.ble x.length most then some (.str ⟨(cut x.cps.toList lo hi).toArray⟩, h) else none
  | .tup xs => some (.tup (cut xs lo hi), h)
  | o => match listOf h o with
    | some xs => some (mkO z (.lst (cut xs lo hi)) h)
    | none => none
/-- a store into o[i] -/
def setD (o i d : D) (h : Mm) : Option Mm :=
  match o with
  | .ref n => match h.get n, i with
    | some (.lst xs), .int i => (match ixN xs.length i with
      | some j => some (h.set n (.lst (xs.set j d)))
      | none => none)
    | some (.dic t kvs), i => bif keyOk t i && Nat.ble (kvs.length + 1) most then some (h.set n (.dic t (putD kvs i d))) else none
    | _, _ => none
  | _ => none
def intsD : List D → Option (List Int)
  | [] => some []
  | .int i :: r => match intsD r with
    | some s => some (i :: s)
    | none => none
  | _ => none
def bls : List D → Option (List Bool)
  | [] => some []
  | .bl i :: r => match bls r with
    | some s => some (i :: s)
    | none => none
  | _ => none
def sumI : List Int → Int
  | [] => 0
  | i :: r => i + sumI r
def maxI : Int → List Int → Int
  | m, [] => m
  | m, i :: r => maxI (if m < i then i else m) r
def allB : List Bool → Bool
  | [] => true
  | b :: r => b && allB r
def anyB : List Bool → Bool
  | [] => false
  | b :: r => b || anyB r
end Ev
end
section
/-! Ev1: the evaluator. -/
namespace Ev
open PySem (Str)

inductive Fl | nx | bk | ct | rt (d : D)
abbrev Fs := Nat → List D → Mm → Option (D × Mm)
/-- a call in its mode -/
def runM (m : Md) (g : List D → Mm → Option (D × Mm)) (vs : List D) (h : Mm) : Option (D × Mm) :=
  match m with
  | .sh => g vs h
  | .iso => bif pureL vs then (match g vs .nil with
    | some (d, h') => (match frz fdp h' d with
      | some e => some (e, h)
      | none => none)
    | none => none) else none
  | .liv => bif pureL vs then (match g vs .nil with
    | some (.ref n, h') => (match h'.get n with
      | some o => bif pureD o.d then some (h.new o) else none
      | none => none)
    | _ => none) else none
mutual
def toPy : D → PySem.PyData
  | .non => .none
  | .bl b => .bool b
  | .int i => .int i
  | .str x => .str x
  | .tup xs => .tuple (toPys xs)
  | .lst xs => .list (toPys xs)
  | _ => .none
def toPys : List D → List PySem.PyData
  | [] => []
  | d :: r => toPy d :: toPys r
end
/-- built-in functions by values -/
def bltD (b : Bt) (z : Bool) (vs : List D) (h : Mm) : Option (D × Mm) :=
  match b, vs with
  | .len, [.str x] => bif Nat.ble x.length most then some (.int x.length, h) else none
  | .len, [d] => match seqOf h d with
    | some xs => some (.int xs.length, h)
    | none => none
  | .abs, [.int i] => some (.int (if i < 0 then -i else i), h)
  | .max2, [.int i, .int j] => some (.int (if i < j then j else i), h)
  | .min2, [.int i, .int j] => some (.int (if j < i then j else i), h)
  | .maxL, [d] => match listOf h d with
    | some xs => (match intsD xs with
      | some (i :: r) => some (.int (maxI i r), h)
      | _ => none)
    | none => none
  | .sumL, [d] => match listOf h d with
    | some xs => (match intsD xs with
      | some r => some (.int (sumI r), h)
      | _ => none)
    | none => none
  | .allL, [d] => match listOf h d with
    | some xs => (match bls xs with
      | some r => some (.bl (allB r), h)
      | _ => none)
    | none => none
  | .anyL, [d] => match listOf h d with
    | some xs => (match bls xs with
      | some r => some (.bl (anyB r), h)
      | _ => none)
    | none => none
  | .tupleOf, [d] => match seqOf h d with
    | some xs => some (.tup xs, h)
    | none => none
  | .listOf, [d] => match seqOf h d with
    | some xs => some (mkO z (.lst xs) h)
    | none => none
  | .intOf, [.int i] => some (.int i, h)
  | .intOf, [.bl b] => some (.int (b2i b), h)
  | .repr, [d] => match dat h d with
    | some (.tup xs) => bif (toPy (.tup xs)).showable && Nat.ble (toPy (.tup xs)).shown.length most then some (.str (toPy (.tup xs)).shown, h) else none
    | some (.lst xs) => bif (toPy (.lst xs)).showable && Nat.ble (toPy (.lst xs)).shown.length most then some (.str (toPy (.lst xs)).shown, h) else none
    | _ => none
  | _, _ => none
/-- methods of built-in types by values -/
def bmD (b : Bm) (o : D) (vs : List D) (h : Mm) : Option (D × Mm) :=
  match b, o, vs with
  | .append, .ref n, [d] => match h.get n with
    | some (.lst xs) => bif Nat.ble (xs.length + 1) most then some (.non, h.set n (.lst (xs ++ [d]))) else none
    | _ => none
  | .extend, .ref n, [d] => match h.get n, listOf h d with
    | some (.lst xs), some ys => bif Nat.ble (xs.length + ys.length) most && (match d with | .ref k => !(Nat.beq k n) | _ => true) then some (.non, h.set n (.lst (xs ++ ys))) else none
    | _, _ => none
  | .get1, d, [k] => match dictOf h d with
    | some (t, kvs) => bif keyOk t k then some ((lkD kvs k).getD .non, h) else none
    | none => none
  | .get2, .kd kvs, [.str k, x] => some ((lkF kvs k).getD x, h)
  | .get2, d, [k, x] => match dictOf h d with
    | some (t, kvs) => bif keyOk t k then some ((lkD kvs k).getD x, h) else none
    | none => none
  | _, _, _ => none
/-- the receiver's type, ahead of the arguments -/
def bmTy (b : Bm) (o : D) (h : Mm) : Bool :=
  match b with
  | .append | .extend | .pop => (match o with | .ref n => (match h.get n with | some (.lst _) => true | _ => false) | _ => false)
  | .get2 => (dictOf h o).isSome || (match o with | .kd _ => true | _ => false)
  | .get1 | .setdefault => (dictOf h o).isSome
  | .join => (match o with | .str _ => true | _ => false)
def wipeE : Env → List Nat → Env
  | env, [] => env
  | env, i :: r => (wipeE env r).set i none
/-- what is walked: its items, what must stand meanwhile -/
def stay (h : Mm) : Option (Nat × List D) → Bool
  | none => true
  | some (n, xs) => match h.get n with
    | some (.lst ys) => sameL ys xs
    | _ => false
def walkOf (h : Mm) : D → Option (List D × Option (Nat × List D))
  | .tup xs | .lst xs => some (xs, none)
  | .ref n => match h.get n with
    | some (.lst xs) => some (xs, some (n, xs))
    | _ => none
  | _ => none
def rngL : Nat → Int → Int → List D
  | 0, _, _ => []
  | n + 1, i, c => .int i :: rngL n (i + c) c
def rngD (vs : List D) : Option (List D) :=
  match vs with
  | [.int j] => bif i63 j then some (rngL j.toNat 0 1) else none
  | [.int i, .int j] => bif i63 i && i63 j then some (rngL (j - i).toNat i 1) else none
  | [.int i, .int j, .int c] => bif i63 i && i63 j && decide (c = -1) then some (rngL (i - j).toNat i (-1)) else none
  | _ => none
def enmL : Nat → List D → List D
  | _, [] => []
  | n, x :: r => .tup [.int n, x] :: enmL (n + 1) r
def zipL : List D → List D → List D
  | x :: xs, y :: ys => .tup [x, y] :: zipL xs ys
  | _, _ => []
/-- the turns of a loop -/
def forL (st : Mm → Bool) (turn : D → Env → Mm → Option (Fl × Env × Mm)) : List D → Env → Mm → Option (Fl × Env × Mm)
  | [], env, h => bif st h then some (.nx, env, h) else none
  | x :: r, env, h => bif st h then (match turn x env h with
    | some (.nx, env', h') => forL st turn r env' h'
    | some (.ct, env', h') => forL st turn r env' h'
    | some (.bk, env', h') => some (.nx, env', h')
    | some (.rt d, env', h') => some (.rt d, env', h')
    | none => none) else none
def whlL (c : Env → Mm → Option (Bool × Mm)) (b : Env → Mm → Option (Fl × Env × Mm)) : Nat → Env → Mm → Option (Fl × Env × Mm)
  | 0, _, _ => none
  | n + 1, env, h => match c env h with
    | some (false, h') => some (.nx, env, h')
    | some (true, h') => (match b env h' with
      | some (.nx, env', h'') => whlL c b n env' h''
      | some (.ct, env', h'') => whlL c b n env' h''
      | some (.bk, env', h'') => some (.nx, env', h'')
      | some (.rt d, env', h'') => some (.rt d, env', h'')
      | none => none)
    | none => none
def cmpL (st : Mm → Bool) (turn : D → Mm → Option (Option D × Mm)) : List D → Mm → Option (List D × Mm)
  | [], h => bif st h then some ([], h) else none
  | x :: r, h => bif st h then (match turn x h with
    | some (o, h') => (match cmpL st turn r h' with
      | some (ys, h'') => some ((match o with | some y => y :: ys | none => ys), h'')
      | none => none)
    | none => none) else none

section
variable (P : Prg) (c1 c2 : Fs)
mutual
def evE : E → Env → Mm → Option (D × Mm)
  | .var i, env, h => match getE env i with
    | some d => some (d, h)
    | none => none
  | .non, _, h => some (.non, h)
  | .bl b, _, h => some (.bl b, h)
  | .int i, _, h => some (.int i, h)
  | .str x, _, h => some (.str x, h)
  | .glo _ d, _, h => some (d, h)
  | .bin o z a b, env, h => match evE a env h with
    | some (x, h1) => (match evE b env h1 with
      | some (y, h2) => binD o z x y h2
      | none => none)
    | none => none
  | .neg a, env, h => match evE a env h with
    | some (.int i, h1) => some (.int (-i), h1)
    | _ => none
  | .cmp o a b, env, h => match evE a env h with
    | some (x, h1) => (match evE b env h1 with
      | some (y, h2) => (match cmpD o x y h2 with
        | some k => some (.bl k, h2)
        | none => none)
      | none => none)
    | none => none
  | .chn o o' a b c, env, h => match evE a env h with
    | some (x, h1) => (match evE b env h1 with
      | some (y, h2) => (match cmpD o x y h2 with
        | some true => (match evE c env h2 with
          | some (w, h3) => (match cmpD o' y w h3 with
            | some k => some (.bl k, h3)
            | none => none)
          | none => none)
        | some false => some (.bl false, h2)
        | none => none)
      | none => none)
    | none => none
  | .and es, env, h => evAnd es env h
  | .or es, env, h => evOr es env h
  | .not a, env, h => match evT a env h with
    | some (k, h1) => some (.bl (!k), h1)
    | none => none
  | .ite c a b, env, h => match evT c env h with
    | some (true, h1) => evE a env h1
    | some (false, h1) => evE b env h1
    | none => none
  | .tup es, env, h => match evEs es env h with
    | some (xs, h1) => bif Nat.ble xs.length most then some (.tup xs, h1) else none
    | none => none
  | .lst z es, env, h => match evEs es env h with
    | some (xs, h1) => bif Nat.ble xs.length most then some (mkO z (.lst xs) h1) else none
    | none => none
  | .dic z t ks, env, h => match evKV ks env h with
    | some (ps, h1) => (match mkD t [] ps with
      | some kvs => some (mkO z (.dic t kvs) h1)
      | none => none)
    | none => none
  | .fld o f, env, h => match evE o env h with
    | some (x, h1) => (match insOf h1 x with
      | some (c, fs) => (match P.cls c with
        | some k => bif k.flds.contains f then (match lkF fs f with
          | some d => some (d, h1)
          | none => none) else none
        | none => none)
      | none => none)
    | none => none
  | .idx o i, env, h => match evE o env h with
    | some (x, h1) => (match evE i env h1 with
      | some (y, h2) => (match idxD x y h2 with
        | some d => some (d, h2)
        | none => none)
      | none => none)
    | none => none
  | .sl z o lo hi, env, h => match evE o env h with
    | some (x, h1) => (match evP lo env h1 with
      | some (l, h2) => (match evP hi env h2 with
        | some (u, h3) => slD z x l u h3
        | none => none)
      | none => none)
    | none => none
  | .call m f es, env, h => match evEs es env h with
    | some (vs, h1) => runM m (c1 f) vs h1
    | none => none
  | .meth m c f nm o es, env, h => match evE o env h with
    | some (x, h1) => (match insOf h1 x with
      | some (c', fs) => bif Nat.beq c c' && (lkF fs nm).isNone then (match evEs es env h1 with
        | some (vs, h2) => runM m (c1 f) (x :: vs) h2
        | none => none) else none
      | none => none)
    | none => none
  | .make m c es, env, h => match evEs es env h with
    | some (vs, h1) => runM m (fun vs h => match P.cls c with
      | some k => (match c2 k.init (.ref h.nx :: vs) (h.new (.ins c [])).2 with
        | some (.non, h2) => some (.ref h.nx, h2)
        | _ => none)
      | none => none) vs h1
    | none => none
  | .blt b z es, env, h => match evEs es env h with
    | some (vs, h1) => bltD b z vs h1
    | none => none
  | .bm b o es, env, h => match evE o env h with
    | some (x, h1) => bif bmTy b x h1 then (match evEs es env h1 with
      | some (vs, h2) => bmD b x vs h2
      | none => none) else none
    | none => none
  | .isi e t, env, h => match evE e env h with
    | some (x, h1) => (match isiD t x h1 with
      | some k => some (.bl k, h1)
      | none => none)
    | none => none
  | .comp z own e g it cs, env, h => match evI it env h with
    | some (xs, w, h1) => (match cmpL (fun h => stay h w) (fun x h => match asg g x (wipeE env own) h with
        | some (env2, h2) => (match evAll cs env2 h2 with
          | some (true, h3) => (match evE e env2 h3 with
            | some (y, h4) => some (some y, h4)
            | none => none)
          | some (false, h3) => some (none, h3)
          | none => none)
        | none => none) xs h1 with
      | some (ys, h2) => bif Nat.ble xs.length most then some (mkO z (.lst ys) h2) else none
      | none => none)
    | none => none
def evT : C → Env → Mm → Option (Bool × Mm)
  | .and es, env, h => evAll es env h
  | .or es, env, h => evAny es env h
  | .not a, env, h => match evT a env h with
    | some (k, h1) => some (!k, h1)
    | none => none
  | .of e, env, h => match evE e env h with
    | some (d, h1) => (match tru h1 d with
      | some k => some (k, h1)
      | none => none)
    | none => none
def evEs : Es → Env → Mm → Option (List D × Mm)
  | .nil, _, h => some ([], h)
  | .cons e r, env, h => match evE e env h with
    | some (d, h1) => (match evEs r env h1 with
      | some (ds, h2) => some (d :: ds, h2)
      | none => none)
    | none => none
def evKV : Ks → Env → Mm → Option (List (D × D) × Mm)
  | .nil, _, h => some ([], h)
  | .cons e e' r, env, h => match evE e env h with
    | some (k, h1) => (match evE e' env h1 with
      | some (v, h2) => (match evKV r env h2 with
        | some (ps, h3) => some ((k, v) :: ps, h3)
        | none => none)
      | none => none)
    | none => none
def evAnd : Es → Env → Mm → Option (D × Mm)
  | .nil, _, _ => none
  | .cons e r, env, h => match evE e env h with
    | some (d, h1) => (match r with
      | .nil => some (d, h1)
      | .cons _ _ => (match tru h1 d with
        | some true => evAnd r env h1
        | some false => some (d, h1)
        | none => none))
    | none => none
def evOr : Es → Env → Mm → Option (D × Mm)
  | .nil, _, _ => none
  | .cons e r, env, h => match evE e env h with
    | some (d, h1) => (match r with
      | .nil => some (d, h1)
      | .cons _ _ => (match tru h1 d with
        | some false => evOr r env h1
        | some true => some (d, h1)
        | none => none))
    | none => none
def evAll : Cs → Env → Mm → Option (Bool × Mm)
  | .nil, _, h => some (true, h)
  | .cons e r, env, h => match evT e env h with
    | some (true, h1) => evAll r env h1
    | some (false, h1) => some (false, h1)
    | none => none
def evAny : Cs → Env → Mm → Option (Bool × Mm)
  | .nil, _, h => some (false, h)
  | .cons e r, env, h => match evT e env h with
    | some (false, h1) => evAny r env h1
    | some (true, h1) => some (true, h1)
    | none => none
def evP : Es → Env → Mm → Option (Option Int × Mm)
  | .nil, _, h => some (none, h)
  | .cons e _, env, h => match evE e env h with
    | some (.int i, h1) => some (some i, h1)
    | _ => none
def asg : T → D → Env → Mm → Option (Env × Mm)
  | .var i, d, env, h => some (setE env i d, h)
  | .tup ts, d, env, h => match d with
    | .tup xs => asgs ts xs env h
    | _ => none
  | .sub o i, d, env, h => match evE o env h with
    | some (x, h1) => (match evE i env h1 with
      | some (y, h2) => (match setD x y d h2 with
        | some h3 => some (env, h3)
        | none => none)
      | none => none)
    | none => none
  | .fld o f, d, env, h => match evE o env h with
    | some (.ref n, h1) => (match h1.get n with
      | some (.ins c fs) => (match P.cls c with
        | some k => bif k.flds.contains f && Nat.ble fs.length 900 then some (env, h1.set n (.ins c (putF f d fs))) else none
        | none => none)
      | _ => none)
    | _ => none
def asgs : Ts → List D → Env → Mm → Option (Env × Mm)
  | .nil, [], env, h => some (env, h)
  | .cons t r, d :: ds, env, h => match asg t d env h with
    | some (env1, h1) => asgs r ds env1 h1
    | none => none
  | _, _, _, _ => none
def evI : It → Env → Mm → Option (List D × Option (Nat × List D) × Mm)
  | .of e, env, h => match evE e env h with
    | some (d, h1) => (match walkOf h1 d with
      | some (xs, w) => some (xs, w, h1)
      | none => none)
    | none => none
  | .rng es, env, h => match evEs es env h with
    | some (vs, h1) => (match rngD vs with
      | some xs => some (xs, none, h1)
      | none => none)
    | none => none
  | .enm e, env, h => match evE e env h with
    | some (d, h1) => (match walkOf h1 d with
      | some (xs, w) => some (enmL 0 xs, w, h1)
      | none => none)
    | none => none
  | .zip a b, env, h => match evE a env h with
    | some (x, h1) => (match evE b env h1 with
      | some (y, h2) => (match walkOf h2 x, walkOf h2 y with
        | some (xs, none), some (ys, none) => some (zipL xs ys, none, h2)
        | _, _ => none)
      | none => none)
    | none => none
end
mutual
def evS : S → Env → Mm → Option (Fl × Env × Mm)
  | .asg g e, env, h => match evE P c1 c2 e env h with
    | some (d, h1) => (match asg P c1 c2 g d env h1 with
      | some (env1, h2) => some (.nx, env1, h2)
      | none => none)
    | none => none
  | .par i j a b, env, h => match evE P c1 c2 a env h with
    | some (x, h1) => (match evE P c1 c2 b env h1 with
      | some (y, h2) => some (.nx, setE (setE env i x) j y, h2)
      | none => none)
    | none => none
  | .aug i o e, env, h => match getE env i with
    | some x => (match evE P c1 c2 e env h with
      | some (y, h1) => (match x, y, binD o false x y h1 with
        | .int _, .int _, some (r, h2) => some (.nx, setE env i r, h2)
        | _, _, _ => none)
      | none => none)
    | none => none
  | .augS o i p e, env, h => match evE P c1 c2 o env h with
    | some (x, h1) => (match evE P c1 c2 i env h1 with
      | some (y, h2) => (match (bif (dictOf h2 x).isSome then idxD x y h2 else none) with
        | some v => (match evE P c1 c2 e env h2 with
          | some (u, h3) => (match v, u, binD p false v u h3 with
            | .int _, .int _, some (r, h4) => (match setD x y r h4 with
              | some h5 => some (.nx, env, h5)
              | none => none)
            | _, _, _ => none)
          | none => none)
        | none => none)
      | none => none)
    | none => none
  | .augF _ _ _ _, _, _ => none
  | .exp e, env, h => match evE P c1 c2 e env h with
    | some (_, h1) => some (.nx, env, h1)
    | none => none
  | .ret e, env, h => match evE P c1 c2 e env h with
    | some (d, h1) => some (.rt d, env, h1)
    | none => none
  | .retN, env, h => some (.rt .non, env, h)
  | .iff c a b, env, h => match evT P c1 c2 c env h with
    | some (true, h1) => evSs a env h1
    | some (false, h1) => evSs b env h1
    | none => none
  | .whl c b, env, h => whlL (evT P c1 c2 c) (evSs b) P.W env h
  | .for_ g it b, env, h => match evI P c1 c2 it env h with
    | some (xs, w, h1) => forL (fun h => stay h w) (fun x env h => match asg P c1 c2 g x env h with
      | some (env2, h2) => evSs b env2 h2
      | none => none) xs env h1
    | none => none
  | .pass, env, h => some (.nx, env, h)
  | .brk, env, h => some (.bk, env, h)
  | .cnt, env, h => some (.ct, env, h)
  | .nvr, _, _ => none
def evSs : Ss → Env → Mm → Option (Fl × Env × Mm)
  | .nil, env, h => some (.nx, env, h)
  | .cons s r, env, h => match evS s env h with
    | some (.nx, env1, h1) => evSs r env1 h1
    | some (.bk, env1, h1) => some (.bk, env1, h1)
    | some (.ct, env1, h1) => some (.ct, env1, h1)
    | some (.rt d, env1, h1) => some (.rt d, env1, h1)
    | none => none
  | .iso r, env, h => match evSs r (env.map fun o => match o with | some d => (bif pureD d then some d else none) | none => none) .nil with
    | some (.nx, env1, _) => some (.nx, env1.map fun o => match o with | some d => (bif pureD d then some d else none) | none => none, h)
    | some (.ct, env1, _) => some (.ct, env1.map fun o => match o with | some d => (bif pureD d then some d else none) | none => none, h)
    | some (.bk, env1, _) => some (.bk, env1.map fun o => match o with | some d => (bif pureD d then some d else none) | none => none, h)
    | some (.rt d, _, _) => bif pureD d then some (.rt d, [], h) else none
    | none => none
end
end
def noneL : Nat → Env
  | 0 => []
  | n + 1 => none :: noneL n
/-- the run of a def's body -/
def step (P : Prg) (c1 c2 : Fs) : Fs := fun f vs h => match P.fns f with
    | some k => if vs.length = k.np then (match evSs P c1 c2 k.body (vs.map some ++ noneL (k.ns - k.np)) h with
      | some (.nx, _, h') => some (.non, h')
      | some (.rt r, _, h') => some (r, h')
      | _ => none) else none
    | none => none
def calls (P : Prg) : Nat → Fs × Fs
  | 0 => (fun _ _ _ => none, fun _ _ _ => none)
  | d + 1 => (step P (calls P d).1 (calls P d).2, (calls P d).1)
/-- the call of a def at a depth -/
def call (P : Prg) (d : Nat) : Fs := (calls P d).1
end Ev
end
section
set_option Elab.async false
set_option linter.all false
/-! Ev2: how data stands in the abstract heap. -/
namespace Ev
open PySem

/-- the world of a program: its written part, its module's names, where its classes stand -/
structure Wd where
  P : Program
  w : World
  K : PySem.W.Frag
  mg : Str → Option Value
  cA : Nat → Addr
abbrev HH := L2.Hp
/-- a dict with tuple keys -/
def dTO (W : Wd) (a : Addr) (xs : List (NestedKey × Addr × Value)) : L2.HO := .ext fun h => (a == sysModules) = false ∧ xs.length ≤ PySem.sizeLine ∧
  ∃ o es ep, h.get? a = some o ∧ o.ExactDict ∧ o.data = .dict es ep ∧ es.toList = xs.map (entryOfKey (nestedKind W.P W.w)) ∧ (xs.map (·.1)).Nodup
def KT (K : PySem.W.Frag) (a : Addr) (xs : List L2.V) : Prop :=
  ∃ (o : Obj) (its : Array Value) (n : Nat), K.lookup a = some o ∧ o.cls = .type "tuple" ∧ o.data = .seq its n ∧ its.size ≤ PySem.sizeLine ∧ L2.Vals xs its.toList
def RT (W : Wd) (H : HH) (S : Addr → Prop) (a : Addr) (xs : List L2.V) : Prop := (S a ∧ H a = some (.tup xs)) ∨ KT W.K a xs
def FL (W : Wd) (H : HH) (S : Addr → Prop) (a : Addr) (xs : List L2.V) : Prop := (S a ∧ ∃ o, H a = some (.frz o (.lst xs))) ∨
  ∃ (o : Obj) (its : Array Value) (n : Nat), W.K.lookup a = some o ∧ o.cls = .type "list" ∧ o.dict = none ∧ o.data = .seq its n ∧ its.size ≤ PySem.sizeLine ∧ L2.Vals xs its.toList
/-- scalars -/
inductive Sca : D → L2.V → Prop
  | non : Sca .non .non
  | bl (b) : Sca (.bl b) (.bl b)
  | int (i) : Sca (.int i) (.int i)
  | str (x) : Sca (.str x) (.str x)
/-- a dict of the written part, keys texts, values scalars -/
def KDs (W : Wd) (a : Addr) (kvs : List (Str × D)) : Prop := (a == sysModules) = false ∧ ∃ es n, W.K.lookup a = some ⟨.type "dict", none, .dict es n, #[]⟩ ∧ PySem.W.KeysLit W.w.params es.toList ∧
  ∀ x, (lkF kvs x = none ∧ PySem.W.nsIn W.K a x = some none) ∨ ∃ d v u, lkF kvs x = some d ∧ PySem.W.nsIn W.K a x = some (some u) ∧ L2.RelV v u ∧ Sca d v
abbrev Rho := Nat → Option Addr
/-- a key of a dict of tuples -/
inductive NK : D → NestedKey → Prop
  | non : NK .non .none
  | int (i : Int) : NK (.int i) (.num i)
  | str (x : Str) : NK (.str x) (.text x)
  | tnil : NK (.tup []) (.tup [])
  | tcons {d r k ks} : NK d k → NK (.tup r) (.tup ks) → NK (.tup (d :: r)) (.tup (k :: ks))

mutual
inductive RV (W : Wd) (H : HH) (S : Addr → Prop) (ρ : Rho) : D → L2.V → Prop
  | non : RV W H S ρ .non .non
  | bl (b) : RV W H S ρ (.bl b) (.bl b)
  | int (i) : RV W H S ρ (.int i) (.int i)
  | str (x) : RV W H S ρ (.str x) (.str x)
  | tup {a vs xs} : RT W H S a vs → RVs W H S ρ xs vs → RV W H S ρ (.tup xs) (.ref a)
  | lst {a vs xs} : S a → H a = some (.lst vs) → RVs W H S ρ xs vs → RV W H S ρ (.lst xs) (.ref a)
  | dicK {a kvs ks} : S a → H a = some (.dK ks) → RKs W H S ρ kvs ks → RV W H S ρ (.dic false kvs) (.ref a)
  | dicT {a kvs xs} : S a → H a = some (dTO W a xs) → RTs W H S ρ kvs xs → RV W H S ρ (.dic true kvs) (.ref a)
  | ins {a c dx fs gs} : S a → H a = some (.ins (W.cA c) dx gs) → RFs W H S ρ fs gs → RV W H S ρ (.ins c fs) (.ref a)
  | ref {n a} : ρ n = some a → RV W H S ρ (.ref n) (.ref a)
  | frl {a vs xs} : FL W H S a vs → RVs W H S ρ xs vs → RV W H S ρ (.frl xs) (.ref a)
  | kd {a kvs} : KDs W a kvs → RV W H S ρ (.kd kvs) (.ref a)
inductive RVs (W : Wd) (H : HH) (S : Addr → Prop) (ρ : Rho) : List D → List L2.V → Prop
  | nil : RVs W H S ρ [] []
  | cons {d v ds vs} : RV W H S ρ d v → RVs W H S ρ ds vs → RVs W H S ρ (d :: ds) (v :: vs)
inductive RKs (W : Wd) (H : HH) (S : Addr → Prop) (ρ : Rho) : List (D × D) → List (L2.Key × L2.V) → Prop
  | nil : RKs W H S ρ [] []
  | int {i d v r s} : RV W H S ρ d v → RKs W H S ρ r s → RKs W H S ρ ((.int i, d) :: r) ((.inl i, v) :: s)
  | str {x d v r s} : RV W H S ρ d v → RKs W H S ρ r s → RKs W H S ρ ((.str x, d) :: r) ((.inr x, v) :: s)
inductive RTs (W : Wd) (H : HH) (S : Addr → Prop) (ρ : Rho) : List (D × D) → List (NestedKey × Addr × Value) → Prop
  | nil : RTs W H S ρ [] []
  | cons {k n a d v u r s} : NK k n → n.depth ≤ 8 → RV W H S ρ k (.ref a) → RV W H S ρ d v → L2.RelV v u → RTs W H S ρ r s → RTs W H S ρ ((k, d) :: r) ((n, a, u) :: s)
inductive RFs (W : Wd) (H : HH) (S : Addr → Prop) (ρ : Rho) : List (Str × D) → List (Str × L2.V) → Prop
  | nil : RFs W H S ρ [] []
  | cons {x d v r s} : RV W H S ρ d v → RFs W H S ρ r s → RFs W H S ρ ((x, d) :: r) ((x, v) :: s)
end
theorem Sca.rv {d v} (s : Sca d v) (W : Wd) (H : HH) (S : Addr → Prop) (ρ : Rho) : RV W H S ρ d v := by
  cases s
  · exact .non
  · exact .bl _
  · exact .int _
  · exact .str _
/-- the content of an object at a -/
inductive RO (W : Wd) (H : HH) (S : Addr → Prop) (ρ : Rho) (a : Addr) : O → L2.HO → Prop
  | lst {xs vs} : RVs W H S ρ xs vs → RO W H S ρ a (.lst xs) (.lst vs)
  | dicK {kvs ks} : RKs W H S ρ kvs ks → RO W H S ρ a (.dic false kvs) (.dK ks)
  | dicT {kvs xs} : RTs W H S ρ kvs xs → RO W H S ρ a (.dic true kvs) (dTO W a xs)
  | ins {c dx fs gs} : RFs W H S ρ fs gs → RO W H S ρ a (.ins c fs) (.ins (W.cA c) dx gs)
def Liv (ρ : Rho) (h : Mm) (a : Addr) : Prop := ∃ n o, h.get n = some o ∧ ρ n = some a
structure RH (W : Wd) (H : HH) (S : Addr → Prop) (ρ : Rho) (h : Mm) : Prop where
  lv : ∀ n o, h.get n = some o → ∃ a ho, ρ n = some a ∧ H a = some ho ∧ ¬ S a ∧ RO W H S ρ a o ho
  inj : ∀ n m a o u, h.get n = some o → h.get m = some u → ρ n = some a → ρ m = some a → n = m
  nx : ∀ n a, ρ n = some a → n < h.nx
  st : ∀ a, S a → ∃ o, H a = some o
structure Go (S : Addr → Prop) (ρ : Rho) (h : Mm) (H : HH) (S' : Addr → Prop) (ρ' : Rho) (h' : Mm) (H' : HH) : Prop where
  sS : ∀ a, S a → S' a
  sB : ∀ a, S' a → S a ∨ H a = none ∨ Liv ρ h a
  rr : ∀ n a, ρ n = some a → ρ' n = some a
  fr : ∀ a o, H a = some o → ¬ Liv ρ h a → H' a = some o
  lb : ∀ a, Liv ρ' h' a → Liv ρ h a ∨ H a = none
theorem Go.refl {S ρ h H} : Go S ρ h H S ρ h H := ⟨fun _ x => x, fun _ x => .inl x, fun _ _ x => x, fun _ _ x _ => x, fun _ x => .inl x⟩
theorem Go.trans {S ρ h H S1 ρ1 h1 H1 S2 ρ2 h2 H2} (a : Go S ρ h H S1 ρ1 h1 H1) (b : Go S1 ρ1 h1 H1 S2 ρ2 h2 H2) : Go S ρ h H S2 ρ2 h2 H2 := by
  have non : ∀ x, H1 x = none → H x = none ∨ Liv ρ h x := fun x e => by
    by_cases l : Liv ρ h x
    · exact .inr l
    · cases q : H x with
      | none => exact .inl rfl
      | some o => have := a.fr x o q l; rw [e] at this; cases this
  refine ⟨fun x s => b.sS x (a.sS x s), fun x s => ?_, fun n x e => b.rr n x (a.rr n x e), fun x o e l => ?_, fun x l => ?_⟩
  · rcases b.sB x s with q | q | q
    · exact a.sB x q
    · exact .inr (non x q)
    · rcases a.lb x q with z | z
      · exact .inr (.inr z)
      · exact .inr (.inl z)
  · refine b.fr x o (a.fr x o e l) fun l1 => ?_
    rcases a.lb x l1 with z | z
    · exact l z
    · rw [e] at z; cases z
  · rcases b.lb x l with q | q
    · exact a.lb x q
    · rcases non x q with z | z
      · exact .inr z
      · exact .inl z

section
variable {W : Wd} {H H' : HH} {S S' : Addr → Prop} {ρ ρ' : Rho}
theorem RT.mono {a xs} (h : RT W H S a xs) (s1 : ∀ a, S a → S' a) (s2 : ∀ a o, S a → H a = some o → H' a = some o) : RT W H' S' a xs := by
  rcases h with ⟨s, e⟩ | k
  · exact .inl ⟨s1 a s, s2 a _ s e⟩
  · exact .inr k
theorem FL.mono {a xs} (h : FL W H S a xs) (s1 : ∀ a, S a → S' a) (s2 : ∀ a o, S a → H a = some o → H' a = some o) : FL W H' S' a xs := by
  rcases h with ⟨s, o, e⟩ | k
  · exact .inl ⟨s1 a s, o, s2 a _ s e⟩
  · exact .inr k
mutual
theorem RV.mono' (s1 : ∀ a, S a → S' a) (s2 : ∀ a o, S a → H a = some o → H' a = some o) (rr : ∀ n a, ρ n = some a → ρ' n = some a) : ∀ {d v}, RV W H S ρ d v → RV W H' S' ρ' d v
  | _, _, .non => .non
  | _, _, .bl b => .bl b
  | _, _, .int i => .int i
  | _, _, .str x => .str x
  | _, _, .tup t r => .tup (t.mono s1 s2) (RVs.mono' s1 s2 rr r)
  | _, _, .lst s e r => .lst (s1 _ s) (s2 _ _ s e) (RVs.mono' s1 s2 rr r)
  | _, _, .dicK s e r => .dicK (s1 _ s) (s2 _ _ s e) (RKs.mono' s1 s2 rr r)
  | _, _, .dicT s e r => .dicT (s1 _ s) (s2 _ _ s e) (RTs.mono' s1 s2 rr r)
  | _, _, .ins s e r => .ins (s1 _ s) (s2 _ _ s e) (RFs.mono' s1 s2 rr r)
  | _, _, .ref e => .ref (rr _ _ e)
  | _, _, .frl t r => .frl (t.mono s1 s2) (RVs.mono' s1 s2 rr r)
  | _, _, .kd k => .kd k
theorem RVs.mono' (s1 : ∀ a, S a → S' a) (s2 : ∀ a o, S a → H a = some o → H' a = some o) (rr : ∀ n a, ρ n = some a → ρ' n = some a) : ∀ {d v}, RVs W H S ρ d v → RVs W H' S' ρ' d v
  | _, _, .nil => .nil
  | _, _, .cons a r => .cons (RV.mono' s1 s2 rr a) (RVs.mono' s1 s2 rr r)
theorem RKs.mono' (s1 : ∀ a, S a → S' a) (s2 : ∀ a o, S a → H a = some o → H' a = some o) (rr : ∀ n a, ρ n = some a → ρ' n = some a) : ∀ {d v}, RKs W H S ρ d v → RKs W H' S' ρ' d v
  | _, _, .nil => .nil
  | _, _, .int a r => .int (RV.mono' s1 s2 rr a) (RKs.mono' s1 s2 rr r)
  | _, _, .str a r => .str (RV.mono' s1 s2 rr a) (RKs.mono' s1 s2 rr r)
theorem RTs.mono' (s1 : ∀ a, S a → S' a) (s2 : ∀ a o, S a → H a = some o → H' a = some o) (rr : ∀ n a, ρ n = some a → ρ' n = some a) : ∀ {d v}, RTs W H S ρ d v → RTs W H' S' ρ' d v
  | _, _, .nil => .nil
  | _, _, .cons n hd k a u r => .cons n hd (RV.mono' s1 s2 rr k) (RV.mono' s1 s2 rr a) u (RTs.mono' s1 s2 rr r)
theorem RFs.mono' (s1 : ∀ a, S a → S' a) (s2 : ∀ a o, S a → H a = some o → H' a = some o) (rr : ∀ n a, ρ n = some a → ρ' n = some a) : ∀ {d v}, RFs W H S ρ d v → RFs W H' S' ρ' d v
  | _, _, .nil => .nil
  | _, _, .cons a r => .cons (RV.mono' s1 s2 rr a) (RFs.mono' s1 s2 rr r)
end
theorem RO.mono' {a o ho} (h : RO W H S ρ a o ho) (s1 : ∀ a, S a → S' a) (s2 : ∀ a o, S a → H a = some o → H' a = some o) (rr : ∀ n a, ρ n = some a → ρ' n = some a) : RO W H' S' ρ' a o ho := by
  cases h with
  | lst r => exact .lst (r.mono' s1 s2 rr)
  | dicK r => exact .dicK (r.mono' s1 s2 rr)
  | dicT r => exact .dicT (r.mono' s1 s2 rr)
  | ins r => exact .ins (r.mono' s1 s2 rr)
variable {h h' : Mm}
theorem RH.nl (R : RH W H S ρ h) {a : Addr} (s : S a) : ¬ Liv ρ h a := by
  rintro ⟨n, o, e, q⟩
  obtain ⟨b, ho, q', _, ns, _⟩ := R.lv n o e
  rw [q] at q'; cases q'
  exact ns s
theorem Go.s2 (g : Go S ρ h H S' ρ' h' H') (R : RH W H S ρ h) : ∀ a o, S a → H a = some o → H' a = some o := fun a o s e => g.fr a o e (R.nl s)
theorem RV.go {d v} (x : RV W H S ρ d v) (g : Go S ρ h H S' ρ' h' H') (R : RH W H S ρ h) : RV W H' S' ρ' d v := x.mono' g.sS (g.s2 R) g.rr
theorem RVs.go {d v} (x : RVs W H S ρ d v) (g : Go S ρ h H S' ρ' h' H') (R : RH W H S ρ h) : RVs W H' S' ρ' d v := x.mono' g.sS (g.s2 R) g.rr
theorem RVs.len : ∀ {ds vs}, RVs W H S ρ ds vs → ds.length = vs.length
  | _, _, .nil => rfl
  | _, _, .cons _ r => by simp [RVs.len r]
/-- the slots -/
structure RE (W : Wd) (H : HH) (S : Addr → Prop) (ρ : Rho) (env : Env) (σ : L2.St) : Prop where
  len : env.length = σ.length
  at_ : ∀ i d, getE env i = some d → ∃ v, σ[i]? = some (some v) ∧ RV W H S ρ d v
theorem RE.go {env σ} (x : RE W H S ρ env σ) (g : Go S ρ h H S' ρ' h' H') (R : RH W H S ρ h) : RE W H' S' ρ' env σ :=
  ⟨x.len, fun i d e => let ⟨v, q, r⟩ := x.at_ i d e; ⟨v, q, r.go g R⟩⟩
/-- a wish about an answer -/
abbrev Wish (W : Wd) (S : Addr → Prop) (ρ : Rho) (h : Mm) (H : HH) (d : D) (h' : Mm) (Q : L2.VK) : Prop :=
  ∀ S' ρ' H' v, Go S ρ h H S' ρ' h' H' → RH W H' S' ρ' h' → RV W H' S' ρ' d v → Q v H'
/-- the reading of an expression by its evaluation -/
def tE (W : Wd) (f : Env → Mm → Option (D × Mm)) : L2.TE := fun σ H Q => ∃ env S ρ h d h', RE W H S ρ env σ ∧ RH W H S ρ h ∧ f env h = some (d, h') ∧ Wish W S ρ h H d h' Q
def tC (W : Wd) (f : Env → Mm → Option (Bool × Mm)) : L2.TT := fun σ H Q => ∃ env S ρ h b h', RE W H S ρ env σ ∧ RH W H S ρ h ∧ f env h = some (b, h') ∧
  ∀ S' ρ' H', Go S ρ h H S' ρ' h' H' → RH W H' S' ρ' h' → Q b H'
def tEs (W : Wd) (f : Env → Mm → Option (List D × Mm)) : L2.TA := fun σ H Q => ∃ env S ρ h ds h', RE W H S ρ env σ ∧ RH W H S ρ h ∧ f env h = some (ds, h') ∧
  ∀ S' ρ' H' vs, Go S ρ h H S' ρ' h' H' → RH W H' S' ρ' h' → RVs W H' S' ρ' ds vs → Q vs H'
end
end Ev
end
section
set_option Elab.async false
set_option linter.all false
/-! Ev3: new objects, stores. -/
namespace Ev
open PySem
open L2 (upd upd_same upd_ne ne_of ne_of_none)

theorem lk_stm : ∀ (m : List (Nat × O)) (n : Nat) (o : O) (k : Nat), lk (stm m n o) k = if k = n then (lk m n).map fun _ => o else lk m k
  | [], n, o, k => by simp [stm, lk]
  | (j, u) :: r, n, o, k => by
    unfold stm
    by_cases h : j = n
    · rw [if_pos h]
      subst h
      by_cases hk : k = j
      · subst hk; simp [lk]
      · simp [lk, hk, Ne.symm hk]
    · rw [if_neg h]
      by_cases hk : k = n
      · subst hk
        have ih := lk_stm r k o k
        simp only [if_pos] at ih
        simp [lk, h, ih]
      · have ih := lk_stm r n o k
        rw [if_neg hk] at ih
        by_cases hj : j = k
        · simp [lk, hj, hk]
        · simp [lk, hj, hk, ih]
theorem get_set {h : Mm} {n k : Nat} {o : O} : (h.set n o).get k = if k = n then (h.get n).map fun _ => o else h.get k := lk_stm _ _ _ _
theorem get_new {h : Mm} {k : Nat} {o : O} : (h.new o).2.get k = if h.nx = k then some o else h.get k := rfl

section
variable {W : Wd} {H H' : HH} {S S' : Addr → Prop} {ρ ρ' : Rho} {h h' : Mm} {p a : Addr} {o : O} {ho : L2.HO} {n : Nat}
def Sp (S : Addr → Prop) (p : Addr) : Addr → Prop := fun a => S a ∨ a = p
def rhoN (ρ : Rho) (n : Nat) (p : Addr) : Rho := fun k => if k = n then some p else ρ k
theorem upd_ext {q : Addr} {x : L2.HO} (hp : H p = none) (e : H q = some x) : upd H p ho q = some x := by rw [upd_ne (ne_of_none e hp)]; exact e
theorem rv_upd {d v} (x : RV W H S ρ d v) (hp : H p = none) : RV W (upd H p ho) S ρ d v := x.mono' (fun _ z => z) (fun _ _ _ e => upd_ext hp e) fun _ _ e => e
theorem rvs_upd {d v} (x : RVs W H S ρ d v) (hp : H p = none) : RVs W (upd H p ho) S ρ d v := x.mono' (fun _ z => z) (fun _ _ _ e => upd_ext hp e) fun _ _ e => e
theorem ro_upd {a o u} (x : RO W H S ρ a o u) (hp : H p = none) : RO W (upd H p ho) S ρ a o u := x.mono' (fun _ z => z) (fun _ _ _ e => upd_ext hp e) fun _ _ e => e
/-- a new object, settled at once -/
theorem settle (R : RH W H S ρ h) (hp : H p = none) : Go S ρ h H (Sp S p) ρ h (upd H p ho) ∧ RH W (upd H p ho) (Sp S p) ρ h := by
  have notlive : ∀ n' o' b, h.get n' = some o' → ρ n' = some b → b ≠ p := fun n' o' b e q => by
    obtain ⟨b', ho', q', e', _, _⟩ := R.lv n' o' e
    rw [q] at q'; cases q'
    exact ne_of_none e' hp
  refine ⟨⟨fun _ x => .inl x, fun b x => ?_, fun _ _ x => x, fun b u e l => upd_ext hp e, fun b l => .inl l⟩, ⟨fun n' o' e => ?_, R.inj, R.nx, fun b x => ?_⟩⟩
  · rcases x with x | rfl
    · exact .inl x
    · exact .inr (.inl hp)
  · obtain ⟨b, hb, q, e', ns, r⟩ := R.lv n' o' e
    refine ⟨b, hb, q, upd_ext hp e', fun z => ?_, r.mono' (fun _ z => .inl z) (fun _ _ _ e => upd_ext hp e) fun _ _ e => e⟩
    rcases z with z | z
    · exact ns z
    · exact notlive n' o' b e q z
  · rcases x with x | rfl
    · obtain ⟨u, e⟩ := R.st b x
      exact ⟨u, upd_ext hp e⟩
    · exact ⟨ho, upd_same⟩
/-- a new live object -/
theorem born (R : RH W H S ρ h) (hp : H p = none) (ro : RO W H S ρ p o ho) : Go S ρ h H S (rhoN ρ h.nx p) (h.new o).2 (upd H p ho) ∧ RH W (upd H p ho) S (rhoN ρ h.nx p) (h.new o).2 := by
  have fresh : ρ h.nx = none := by
    cases q : ρ h.nx with
    | none => rfl
    | some b => exact absurd (R.nx _ _ q) (Nat.lt_irrefl _)
  have old : ∀ m b, ρ m = some b → rhoN ρ h.nx p m = some b := fun m b q => by
    unfold rhoN
    rw [if_neg (fun z => by rw [z, fresh] at q; cases q)]
    exact q
  have getold : ∀ m u, h.get m = some u → m ≠ h.nx := fun m u e z => by
    obtain ⟨b, _, q, _⟩ := R.lv m u e
    exact absurd (R.nx _ _ q) (by omega)
  have notlive : ∀ n' o' b, h.get n' = some o' → ρ n' = some b → b ≠ p := fun n' o' b e q => by
    obtain ⟨b', ho', q', e', _, _⟩ := R.lv n' o' e
    rw [q] at q'; cases q'
    exact ne_of_none e' hp
  have live : ∀ m u b, (h.new o).2.get m = some u → rhoN ρ h.nx p m = some b → (m = h.nx ∧ u = o ∧ b = p) ∨ (m ≠ h.nx ∧ h.get m = some u ∧ ρ m = some b) := fun m u b e q => by
    rw [get_new] at e
    by_cases z : h.nx = m
    · rw [if_pos z] at e; cases e
      subst z
      unfold rhoN at q
      rw [if_pos rfl] at q; cases q
      exact .inl ⟨rfl, rfl, rfl⟩
    · rw [if_neg z] at e
      unfold rhoN at q
      rw [if_neg (Ne.symm z)] at q
      exact .inr ⟨Ne.symm z, e, q⟩
  refine ⟨⟨fun _ x => x, fun b x => .inl x, old, fun b u e l => upd_ext hp e, fun b l => ?_⟩, ⟨fun m u e => ?_, fun m k b u u' e1 e2 q1 q2 => ?_, fun m b q => ?_, fun b x => ?_⟩⟩
  · obtain ⟨m, u, e, q⟩ := l
    rcases live m u b e q with ⟨_, _, rfl⟩ | ⟨_, e, q⟩
    · exact .inr hp
    · exact .inl ⟨m, u, e, q⟩
  · rw [get_new] at e
    by_cases z : h.nx = m
    · rw [if_pos z] at e; cases e
      subst z
      refine ⟨p, ho, by unfold rhoN; rw [if_pos rfl], upd_same, fun s => ?_, ro.mono' (fun _ z => z) (fun _ _ _ e => upd_ext hp e) old⟩
      obtain ⟨w, e⟩ := R.st p s
      rw [hp] at e; cases e
    · rw [if_neg z] at e
      obtain ⟨b, hb, q, e', ns, r⟩ := R.lv m u e
      exact ⟨b, hb, old m b q, upd_ext hp e', ns, r.mono' (fun _ z => z) (fun _ _ _ e => upd_ext hp e) old⟩
  · rcases live m u b e1 q1 with ⟨z1, _, z2⟩ | ⟨z1, e3, q3⟩
    · rcases live k u' b e2 q2 with ⟨z3, _, _⟩ | ⟨_, e4, q4⟩
      · rw [z1, z3]
      · exact absurd z2 (notlive k u' b e4 q4)
    · rcases live k u' b e2 q2 with ⟨_, _, z2⟩ | ⟨_, e4, q4⟩
      · exact absurd z2 (notlive m u b e3 q3)
      · exact R.inj m k b u u' e3 e4 q3 q4
  · unfold rhoN at q
    show m < h.nx + 1
    split at q
    · omega
    · have := R.nx m b q; omega
  · obtain ⟨u, e⟩ := R.st b x
    exact ⟨u, upd_ext hp e⟩
/-- a live object changes -/
theorem stored {o' : O} {ho' : L2.HO} (R : RH W H S ρ h) (hn : h.get n = some o) (q : ρ n = some a) (ro : ∀ H', (∀ b u, S b → H b = some u → H' b = some u) → RO W H' S ρ a o' ho') :
    Go S ρ h H S ρ (h.set n o') (upd H a ho') ∧ RH W (upd H a ho') S ρ (h.set n o') := by
  obtain ⟨a', hoa, qa, ea, nsa, _⟩ := R.lv n o hn
  rw [q] at qa; cases qa
  have keepS : ∀ b u, S b → H b = some u → upd H a ho' b = some u := fun b u s e => by
    rw [upd_ne (fun (z : b = a) => nsa (z ▸ s))]; exact e
  have live : ∀ m u, (h.set n o').get m = some u → (m = n ∧ u = o') ∨ (m ≠ n ∧ h.get m = some u) := fun m u e => by
    rw [get_set] at e
    by_cases z : m = n
    · rw [if_pos z, hn] at e
      exact .inl ⟨z, (Option.some.inj e).symm⟩
    · rw [if_neg z] at e
      exact .inr ⟨z, e⟩
  refine ⟨⟨fun _ x => x, fun b x => .inl x, fun _ _ x => x, fun b u e l => ?_, fun b l => ?_⟩, ⟨fun m u e => ?_, fun m k b u u' e1 e2 q1 q2 => ?_, R.nx, fun b s => ?_⟩⟩
  · rw [upd_ne (fun (z : b = a) => l ⟨n, o, hn, z ▸ q⟩)]; exact e
  · obtain ⟨m, u, e, q'⟩ := l
    rcases live m u e with ⟨rfl, _⟩ | ⟨_, e⟩
    · exact .inl ⟨m, o, hn, q'⟩
    · exact .inl ⟨m, u, e, q'⟩
  · rcases live m u e with ⟨rfl, rfl⟩ | ⟨z, e⟩
    · exact ⟨a, ho', q, upd_same, nsa, ro _ keepS⟩
    · obtain ⟨b, hb, qb, eb, nsb, r⟩ := R.lv m u e
      refine ⟨b, hb, qb, ?_, nsb, r.mono' (fun _ z => z) keepS fun _ _ e => e⟩
      rw [upd_ne (fun (w : b = a) => z (R.inj m n b u o e hn qb (w ▸ q)))]; exact eb
  · rcases live m u e1 with ⟨rfl, _⟩ | ⟨_, e3⟩
    · rcases live k u' e2 with ⟨rfl, _⟩ | ⟨_, e4⟩
      · rfl
      · exact R.inj _ _ b _ _ hn e4 q1 q2
    · rcases live k u' e2 with ⟨rfl, _⟩ | ⟨_, e4⟩
      · exact R.inj _ _ b _ _ e3 hn q1 q2
      · exact R.inj m k b u u' e3 e4 q1 q2
  · obtain ⟨u, e⟩ := R.st b s
    exact ⟨u, keepS b u s e⟩
/-- the wishes -/
theorem wish_here {d v} {Q : L2.VK} (R : RH W H S ρ h) (w : Wish W S ρ h H d h Q) (r : RV W H S ρ d v) : Q v H := w S ρ H v .refl R r
theorem wish_tup {ds vs} {Q : L2.VK} (R : RH W H S ρ h) (w : Wish W S ρ h H (.tup ds) h Q) (r : RVs W H S ρ ds vs) (hp : H p = none) : Q (.ref p) (upd H p (.tup vs)) := by
  obtain ⟨g, R'⟩ := settle (ho := .tup vs) R hp
  exact w _ _ _ _ g R' (.tup (.inl ⟨.inr rfl, upd_same⟩) (r.go g R))
theorem wish_lst {z : Bool} {ds vs} {Q : L2.VK} (R : RH W H S ρ h) (w : Wish W S ρ h H (mkO z (.lst ds) h).1 (mkO z (.lst ds) h).2 Q) (r : RVs W H S ρ ds vs) (hp : H p = none) : Q (.ref p) (upd H p (.lst vs)) := by
  cases z with
  | true =>
    obtain ⟨g, R'⟩ := settle (ho := .lst vs) R hp
    exact w _ _ _ _ g R' (.lst (.inr rfl) upd_same (r.go g R))
  | false =>
    obtain ⟨g, R'⟩ := born (o := .lst ds) (ho := .lst vs) R hp (.lst r)
    exact w _ _ _ _ g R' (.ref (by unfold rhoN; rw [if_pos rfl]))
theorem wish_mk {z : Bool} {Q : L2.VK} (R : RH W H S ρ h) (w : Wish W S ρ h H (mkO z o h).1 (mkO z o h).2 Q) (ro : ∀ H' S' ρ', (∀ a, S a → S' a) → (∀ b u, S b → H b = some u → H' b = some u) → (∀ n a, ρ n = some a → ρ' n = some a) → RO W H' S' ρ' p o ho) (hp : H p = none) : Q (.ref p) (upd H p ho) := by
  cases z with
  | true =>
    obtain ⟨g, R'⟩ := settle (ho := ho) R hp
    refine w _ _ _ _ g R' ?_
    have ro' := ro (upd H p ho) (Sp S p) ρ (fun _ x => .inl x) (fun _ _ _ e => upd_ext hp e) fun _ _ e => e
    cases ro' with
    | lst r => exact .lst (.inr rfl) upd_same r
    | dicK r => exact .dicK (.inr rfl) upd_same r
    | dicT r => exact .dicT (.inr rfl) upd_same r
    | ins r => exact .ins (.inr rfl) upd_same r
  | false =>
    obtain ⟨g, R'⟩ := born (o := o) (ho := ho) R hp (ro H S ρ (fun _ x => x) (fun _ _ _ e => e) fun _ _ e => e)
    exact w _ _ _ _ g R' (.ref (by unfold rhoN; rw [if_pos rfl]))
end
end Ev
end
section
set_option Elab.async false
set_option linter.all false
/-! Ev4: operations by values. -/
namespace Ev
open PySem
open L2 (upd upd_same upd_ne ne_of ne_of_none Cx VK OpR SqL SqT Key kV)

theorem most_eq : most = sizeLine := by rw [sizeLine_eq]; rfl
theorem ble_most {n : Nat} (h : Nat.ble n most = true) : n ≤ sizeLine := by rw [← most_eq]; exact Nat.le_of_ble_eq_true h
theorem sIx_eq (n d : Nat) (o : Option Int) : sIx n d o = HT.sIx n d o := by cases o <;> rfl
theorem rep_eq {α : Type} (n : Nat) (xs : List α) : rep n xs = (List.replicate n xs).flatten := by
  induction n with
  | zero => rfl
  | succ n ih => simp [rep, List.replicate_succ, ih]

/-- the context of a body agrees with the world -/
structure XW (W : Wd) (X : Cx) : Prop where
  P : X.prog = W.P
  w : X.w = W.w
  K : X.K = W.K
  mg : X.mg = W.mg
  calm : X.calm = true
  un : X.A.units + 200 < cLine

section
variable {W : Wd} {H H' : HH} {S S' : Addr → Prop} {ρ ρ' : Rho} {h h' : Mm} {X : Cx}
theorem RT.sq {a xs} (t : RT W H S a xs) (e : X.K = W.K) : SqT X.K H a xs := by
  rcases t with ⟨_, e1⟩ | k
  · exact .inl (.inl e1)
  · rw [e]; exact .inr k
theorem XW.sq (xw : XW W X) {H : HH} {a vs} (c : SqL W.K H a vs) : SqL X.K H a vs := by rw [xw.K]; exact c
theorem FL.sq {a xs} (t : FL W H S a xs) : SqL W.K H a xs := by
  rcases t with ⟨_, o, e1⟩ | k
  · exact .inl (.inr ⟨o, e1⟩)
  · exact .inr k
theorem listR {d v xs} (e : listOf h d = some xs) (R : RH W H S ρ h) (r : RV W H S ρ d v) : ∃ a vs, v = .ref a ∧ H a = some (.lst vs) ∧ RVs W H S ρ xs vs := by
  cases d with
  | lst ys => cases e; cases r with | lst s e r => exact ⟨_, _, rfl, e, r⟩
  | ref n =>
    cases r with
    | ref q =>
      simp only [listOf] at e
      split at e
      · cases e
        rename_i ys g
        obtain ⟨a, ho, q', e', _, ro⟩ := R.lv _ _ g
        rw [q] at q'; cases q'
        cases ro with | lst r => exact ⟨_, _, rfl, e', r⟩
      · cases e
  | _ => cases e
theorem seqR {d v xs} (e : seqOf h d = some xs) (R : RH W H S ρ h) (r : RV W H S ρ d v) : ∃ a vs, v = .ref a ∧ RVs W H S ρ xs vs ∧ (SqL W.K H a vs ∨ RT W H S a vs) := by
  cases d with
  | tup ys => cases e; cases r with | tup t r => exact ⟨_, _, rfl, r, .inr t⟩
  | lst ys => cases e; cases r with | lst s e r => exact ⟨_, _, rfl, r, .inl (SqL.of e)⟩
  | frl ys => cases e; cases r with | frl t r => exact ⟨_, _, rfl, r, .inl t.sq⟩
  | ref n =>
    obtain ⟨a, vs, e1, e2, e3⟩ := listR (d := .ref n) (by simpa [listOf, seqOf] using e) R r
    exact ⟨a, vs, e1, e3, .inl (SqL.of e2)⟩
  | _ => cases e
theorem dictR {d v t kvs} (e : dictOf h d = some (t, kvs)) (R : RH W H S ρ h) (r : RV W H S ρ d v) :
    ∃ a, v = .ref a ∧ ((t = false ∧ ∃ ks, H a = some (.dK ks) ∧ RKs W H S ρ kvs ks) ∨ (t = true ∧ ∃ xs, H a = some (dTO W a xs) ∧ RTs W H S ρ kvs xs)) := by
  cases d with
  | dic t' ks =>
    cases e
    cases r with
    | dicK s e r => exact ⟨_, rfl, .inl ⟨rfl, _, e, r⟩⟩
    | dicT s e r => exact ⟨_, rfl, .inr ⟨rfl, _, e, r⟩⟩
  | ref n =>
    cases r with
    | ref q =>
      simp only [dictOf] at e
      split at e
      · cases e
        rename_i g
        obtain ⟨a, ho, q', e', _, ro⟩ := R.lv _ _ g
        rw [q] at q'; cases q'
        cases ro with
        | dicK r => exact ⟨_, rfl, .inl ⟨rfl, _, e', r⟩⟩
        | dicT r => exact ⟨_, rfl, .inr ⟨rfl, _, e', r⟩⟩
      · cases e
  | _ => cases e
theorem insR {d v c fs} (e : insOf h d = some (c, fs)) (R : RH W H S ρ h) (r : RV W H S ρ d v) : ∃ a dx gs, v = .ref a ∧ H a = some (.ins (W.cA c) dx gs) ∧ RFs W H S ρ fs gs := by
  cases d with
  | ins c' gs => cases e; cases r with | ins s e r => exact ⟨_, _, _, rfl, e, r⟩
  | ref n =>
    cases r with
    | ref q =>
      simp only [insOf] at e
      split at e
      · cases e
        rename_i g
        obtain ⟨a, ho, q', e', _, ro⟩ := R.lv _ _ g
        rw [q] at q'; cases q'
        cases ro with | ins r => exact ⟨_, _, _, rfl, e', r⟩
      · cases e
  | _ => cases e
theorem RVs.get : ∀ {xs : List D} {vs : List L2.V} {i : Nat} {d : D}, RVs W H S ρ xs vs → nthL xs i = some d → ∃ v, vs[i]? = some v ∧ RV W H S ρ d v
  | _, _, _, _, .nil, e => by simp [nthL] at e
  | _, _, 0, _, .cons r _, e => by simp [nthL] at e; subst e; exact ⟨_, rfl, r⟩
  | _, _, i + 1, d, .cons _ t, e => by
    obtain ⟨v, h1, h2⟩ := RVs.get (i := i) (d := d) t (by simpa [nthL] using e)
    exact ⟨v, by simpa using h1, h2⟩
theorem RVs.append {xs ys vs us} : RVs W H S ρ xs vs → RVs W H S ρ ys us → RVs W H S ρ (xs ++ ys) (vs ++ us)
  | .nil, s => s
  | .cons r t, s => .cons r (RVs.append t s)
theorem RVs.rep {xs vs} (r : RVs W H S ρ xs vs) : ∀ n, RVs W H S ρ (Ev.rep n xs) (Ev.rep n vs)
  | 0 => .nil
  | n + 1 => r.append (r.rep n)
theorem RVs.drop : ∀ {xs vs} (n : Nat), RVs W H S ρ xs vs → RVs W H S ρ (xs.drop n) (vs.drop n)
  | _, _, 0, r => r
  | _, _, _ + 1, .nil => .nil
  | _, _, n + 1, .cons _ t => RVs.drop n t
theorem RVs.take : ∀ {xs vs} (n : Nat), RVs W H S ρ xs vs → RVs W H S ρ (xs.take n) (vs.take n)
  | _, _, 0, _ => .nil
  | _, _, _ + 1, .nil => .nil
  | _, _, n + 1, .cons r t => .cons r (RVs.take n t)
theorem RVs.set {d v} (r : RV W H S ρ d v) : ∀ {xs vs} (i : Nat), RVs W H S ρ xs vs → RVs W H S ρ (xs.set i d) (vs.set i v)
  | _, _, _, .nil => .nil
  | _, _, 0, .cons _ t => .cons r t
  | _, _, i + 1, .cons q t => .cons q (RVs.set r i t)
theorem RVs.cut {xs vs} (r : RVs W H S ρ xs vs) (lo hi : Option Int) : RVs W H S ρ (Ev.cut xs lo hi) (L2.cutV vs lo hi) := by
  unfold Ev.cut L2.cutV
  rw [r.len, sIx_eq, sIx_eq]
  exact (r.drop _).take _

/-- a two-place operation by its evaluation -/
def rB (W : Wd) (f : D → D → Mm → Option (D × Mm)) : L2.R2 := fun x y H Q => ∃ S ρ h d e r h', RV W H S ρ d x ∧ RV W H S ρ e y ∧ RH W H S ρ h ∧ f d e h = some (r, h') ∧ Wish W S ρ h H r h' Q
def opOf : Op → Operator
  | .add => .Add | .sub => .Sub | .mul => .Mult | .fdiv => .FloorDiv | .mod => .Mod | .pow => .Pow
theorem bif_some {α : Type} {b : Bool} {x : Option α} {y : α} (h : (bif b then x else none) = some y) : b = true ∧ x = some y := by
  cases b with
  | true => exact ⟨rfl, h⟩
  | false => cases h
theorem some_pair {α β : Type} {p : α × β} {a : α} {b : β} (h : some p = some (a, b)) : a = p.1 ∧ b = p.2 := by cases h; exact ⟨rfl, rfl⟩
theorem i64_ok {i : Int} (h : i64 i = true) : -(2 ^ 64) < i ∧ i < 2 ^ 64 := by simpa [i64] using h
theorem binR (xw : XW W X) (o : Op) (z : Bool) : OpR X (binaryOp (opOf o)) (rB W (binD o z)) := by
  rintro pins s σ H x y v u Q I rx ry ⟨S, ρ, h, d, e, r, h', Rd, Re, R, hf, wq⟩
  have hK := xw.K
  unfold binD at hf
  split at hf
  · cases Rd; cases Re; cases hf; exact L2.op_add pins s σ H _ _ v u Q I rx ry ⟨_, _, rfl, rfl, wish_here R wq (.int _)⟩
  · cases Rd; cases Re; cases hf; exact L2.op_sub pins s σ H _ _ v u Q I rx ry ⟨_, _, rfl, rfl, wish_here R wq (.int _)⟩
  · cases Rd; cases Re
    obtain ⟨hc, hf⟩ := bif_some hf
    cases hf
    refine L2.op_mul pins s σ H _ _ v u Q I rx ry ⟨_, _, rfl, rfl, ?_, wish_here R wq (.int _)⟩
    rcases Bool.or_eq_true_iff.mp hc with q | q
    · exact .inl (i64_ok q)
    · exact .inr (i64_ok q)
  · cases Rd; cases Re
    obtain ⟨hc, hf⟩ := bif_some hf
    cases hf
    simp only [Bool.and_eq_true, decide_eq_true_eq] at hc
    exact L2.op_fdiv pins s σ H _ _ v u Q I rx ry ⟨_, _, rfl, rfl, hc, wish_here R wq (.int _)⟩
  · cases Rd; cases Re
    obtain ⟨hc, hf⟩ := bif_some hf
    cases hf
    simp only [decide_eq_true_eq] at hc
    exact L2.op_mod pins s σ H _ _ v u Q I rx ry ⟨_, _, rfl, rfl, hc, wish_here R wq (.int _)⟩
  · cases Rd; cases Re
    obtain ⟨hc, hf⟩ := bif_some hf
    cases hf
    simp only [Bool.and_eq_true, decide_eq_true_eq] at hc
    obtain ⟨⟨h1, h2⟩, h3⟩ := hc
    have h4 := i64_ok h3
    exact L2.op_pow pins s σ H _ _ v u Q I rx ry ⟨_, _, rfl, rfl, ⟨h1, by omega, by omega⟩, wish_here R wq (.int _)⟩
  · cases Rd; cases Re
    obtain ⟨hc, hf⟩ := bif_some hf
    cases hf
    exact L2.op_add_str pins s σ H _ _ v u Q I rx ry ⟨_, _, rfl, rfl, ble_most hc, wish_here R wq (.str _)⟩
  · obtain ⟨hc, hf⟩ := bif_some hf
    cases hf
    cases Rd with
    | tup ta ra =>
      cases Re with
      | tup tb rb =>
        rename_i a vs b us
        refine L2.op_catA pins s σ H _ _ v u Q I rx ry ⟨_, _, _, _, rfl, rfl, ta.sq hK, tb.sq hK, by rw [← ra.len, ← rb.len]; exact ble_most hc, fun e => ?_, fun _ e => ?_, fun _ _ p hp => wish_tup R wq (ra.append rb) hp⟩
        · subst e; cases ra; exact wish_here R wq (.tup tb rb)
        · subst e; cases rb; exact wish_here R wq (by rw [List.append_nil]; exact .tup ta ra)
  · obtain ⟨hc, hf⟩ := bif_some hf
    cases hf
    simp only [Bool.and_eq_true, decide_eq_true_eq, Bool.not_eq_true'] at hc
    obtain ⟨⟨⟨h1, h0⟩, h2⟩, h3⟩ := hc
    cases Re
    cases Rd with
    | tup ta ra =>
      refine L2.op_repT pins s σ H _ _ v u Q I rx ry ⟨_, _, _, rfl, rfl, ta.sq hK, fun e => ?_, h2, h3, by rw [← ra.len]; exact Nat.le_of_ble_eq_true h1, fun p hp => ?_⟩
      · subst e; cases ra; cases h0
      · rw [← rep_eq]; exact wish_tup R wq (ra.rep _) hp
  · split at hf
    · rename_i g1 g2
      obtain ⟨hc, hf⟩ := bif_some hf
      obtain ⟨rfl, rfl⟩ := some_pair hf
      obtain ⟨a, vs, rfl, ha, ra⟩ := listR g1 R Rd
      obtain ⟨b, us, rfl, hb, rb⟩ := listR g2 R Re
      exact L2.op_cat pins s σ H _ _ v u Q I rx ry ⟨_, _, _, _, rfl, rfl, ha, hb, by rw [← ra.len, ← rb.len]; exact ble_most hc, fun p hp => wish_lst R wq (ra.append rb) hp⟩
    · cases hf
  · split at hf
    · rename_i g1
      obtain ⟨hc, hf⟩ := bif_some hf
      obtain ⟨rfl, rfl⟩ := some_pair hf
      cases Re
      obtain ⟨a, vs, rfl, ha, ra⟩ := listR g1 R Rd
      simp only [Bool.and_eq_true, decide_eq_true_eq] at hc
      obtain ⟨⟨h1, h2⟩, h3⟩ := hc
      have h1' := Nat.le_of_ble_eq_true h1
      refine L2.op_rep pins s σ H _ _ v u Q I rx ry ⟨_, _, _, rfl, rfl, ha, by omega, by omega, ?_, fun p hp => ?_⟩
      · rw [← ra.len, sizeLine_eq]
        exact Nat.le_trans (Nat.mul_le_mul h1' (Int.toNat_le.mpr (by omega) : _ ≤ 1000)) (by decide)
      · rw [← rep_eq]; exact wish_lst R wq (ra.rep _) hp
    · cases hf
  · cases hf
end
end Ev
end
section
set_option Elab.async false
set_option linter.all false
/-! Ev5: data, comparisons, dicts. -/
namespace Ev
open PySem
open L2 (upd upd_same upd_ne ne_of ne_of_none Cx VK OpR SqL SqT Key kV Inv)

theorem toPys_map : ∀ xs, toPys xs = xs.map toPy
  | [] => rfl
  | d :: r => by simp [toPys, toPys_map r]
theorem dataL_cons {d : D} {r : List D} {n : Nat} (h : dataL (d :: r) = some n) : ∃ a b, dataD d = some a ∧ dataL r = some b ∧ n = max a b := by
  simp only [dataL] at h
  split at h
  · cases h; exact ⟨_, _, by assumption, by assumption, rfl⟩
  · cases h
theorem dataD_tup {xs : List D} {n : Nat} (h : dataD (.tup xs) = some n) : ∃ a, dataL xs = some a ∧ n = a + 1 := by
  simp only [dataD, Option.map_eq_some_iff] at h
  obtain ⟨a, h1, h2⟩ := h
  exact ⟨a, h1, h2.symm⟩
theorem dataD_lst {xs : List D} {n : Nat} (h : dataD (.lst xs) = some n) : ∃ a, dataL xs = some a ∧ n = a + 1 := by
  simp only [dataD, Option.map_eq_some_iff] at h
  obtain ⟨a, h1, h2⟩ := h
  exact ⟨a, h1, h2.symm⟩
theorem strB_ok : ∀ l : List Nat, strB l = true → ∀ c ∈ l, c < 0x110000
  | [], _, c, h => by cases h
  | d :: r, e, c, h => by
    simp only [strB, Bool.and_eq_true] at e
    rcases List.mem_cons.mp h with rfl | h
    · exact Nat.le_of_ble_eq_true e.1
    · exact strB_ok r e.2 c h
mutual
theorem lay_of : ∀ {d : D} {n : Nat}, dataD d = some n → (toPy d).canLay0 = true ∧ (toPy d).depth = n
  | .non, _, h => by cases h; exact ⟨rfl, rfl⟩
  | .bl _, _, h => by cases h; exact ⟨rfl, rfl⟩
  | .int _, _, h => by cases h; exact ⟨rfl, rfl⟩
  | .str x, _, h => by
    simp only [dataD] at h
    obtain ⟨h1, h2⟩ := bif_some h
    cases h2
    refine ⟨?_, rfl⟩
    show PyData.strOk x = true
    unfold PyData.strOk
    rw [← Array.all_toList, List.all_eq_true]
    intro c hc
    exact decide_eq_true (strB_ok _ h1 c hc)
  | .tup xs, _, h => by
    obtain ⟨a, h1, rfl⟩ := dataD_tup h
    obtain ⟨h2, h3⟩ := lays_of h1
    exact ⟨by simpa [toPy, PyData.canLay0] using h2, by simp [toPy, PyData.depth, h3]⟩
  | .lst xs, _, h => by
    obtain ⟨a, h1, rfl⟩ := dataD_lst h
    obtain ⟨h2, h3⟩ := lays_of h1
    exact ⟨by simpa [toPy, PyData.canLay0] using h2, by simp [toPy, PyData.depth, h3]⟩
  | .dic _ _, _, h => by cases h
  | .ins _ _, _, h => by cases h
  | .ref _, _, h => by cases h
theorem lays_of : ∀ {d : List D} {n : Nat}, dataL d = some n → PyData.canLayAll0 (toPys d) = true ∧ PyData.depthAll (toPys d) = n
  | [], _, h => by cases h; exact ⟨rfl, rfl⟩
  | d :: r, _, h => by
    obtain ⟨a, b, h1, h2, rfl⟩ := dataL_cons h
    obtain ⟨h3, h4⟩ := lay_of h1
    obtain ⟨h5, h6⟩ := lays_of h2
    exact ⟨by simp [toPys, PyData.canLayAll0, h3, h5], by simp [toPys, PyData.depthAll, h4, h6]⟩
end
mutual
theorem eqv_of : ∀ {d e : D} {n m : Nat}, dataD d = some n → dataD e = some m → PyData.eqv (toPy d) (toPy e) = eqD d e
  | .non, e, _, _, _, h => by cases e <;> first | rfl | cases h
  | .bl a, e, _, _, _, h => by
    cases e with
    | int j => cases a <;> simp [toPy, PyData.eqv, eqD, b2i] <;> rw [Bool.eq_iff_iff] <;> simp <;> exact ⟨fun h => decide_eq_true h, fun h => of_decide_eq_true h⟩
    | _ => first | rfl | cases h
  | .int i, e, _, _, _, h => by
    cases e with
    | bl b => cases b <;> simp [toPy, PyData.eqv, eqD, b2i] <;> rw [Bool.eq_iff_iff] <;> simp <;> exact ⟨fun h => decide_eq_true h, fun h => of_decide_eq_true h⟩
    | int j => simp [toPy, PyData.eqv, eqD]; rw [Bool.eq_iff_iff]; simp
    | _ => first | rfl | cases h
  | .str x, e, _, _, _, h => by
    cases e with
    | str y => simp [toPy, PyData.eqv, eqD]; rw [Bool.eq_iff_iff]; simp
    | _ => first | rfl | cases h
  | .tup xs, e, _, _, h1, h => by
    obtain ⟨a, h2, _⟩ := dataD_tup h1
    cases e with
    | tup ys =>
      obtain ⟨b, h3, _⟩ := dataD_tup h
      simpa [toPy, PyData.eqv, eqD] using eqvs_of h2 h3
    | _ => first | rfl | cases h
  | .lst xs, e, _, _, h1, h => by
    obtain ⟨a, h2, _⟩ := dataD_lst h1
    cases e with
    | lst ys =>
      obtain ⟨b, h3, _⟩ := dataD_lst h
      simpa [toPy, PyData.eqv, eqD] using eqvs_of h2 h3
    | _ => first | rfl | cases h
  | .dic _ _, _, _, _, h, _ => by cases h
  | .ins _ _, _, _, _, h, _ => by cases h
  | .ref _, _, _, _, h, _ => by cases h
theorem eqvs_of : ∀ {d e : List D} {n m : Nat}, dataL d = some n → dataL e = some m → PyData.eqvAll (toPys d) (toPys e) = eqL d e
  | [], [], _, _, _, _ => rfl
  | [], _ :: _, _, _, _, _ => rfl
  | _ :: _, [], _, _, _, _ => rfl
  | x :: xs, y :: ys, _, _, h1, h2 => by
    obtain ⟨a, b, h3, h4, rfl⟩ := dataL_cons h1
    obtain ⟨a', b', h5, h6, rfl⟩ := dataL_cons h2
    simp [toPys, PyData.eqvAll, eqL, eqv_of h3 h5, eqvs_of h4 h6]
end
section
variable {W : Wd} {H H' : HH} {S S' : Addr → Prop} {ρ ρ' : Rho} {h h' : Mm} {X : Cx}
mutual
theorem dp_of (hK : X.K = W.K) : ∀ {d : D} {v : L2.V} {n : Nat}, dataD d = some n → RV W H S ρ d v → L2.Dp X.K H v (toPy d)
  | .non, _, _, _, .non => .non
  | .bl _, _, _, _, .bl b => .bl b
  | .int _, _, _, _, .int b => .int b
  | .str _, _, _, _, .str b => .str b
  | .tup _, _, _, e, .tup t r => let ⟨_, e1, _⟩ := dataD_tup e; .tup (t.sq hK) (dps_of hK e1 r)
  | .lst _, _, _, e, .lst s q r => let ⟨_, e1, _⟩ := dataD_lst e; .lst (SqL.of q) (dps_of hK e1 r)
  | .dic _ _, _, _, e, _ => by cases e
  | .ins _ _, _, _, e, _ => by cases e
  | .ref _, _, _, e, _ => by cases e
theorem dps_of (hK : X.K = W.K) : ∀ {d : List D} {v : List L2.V} {n : Nat}, dataL d = some n → RVs W H S ρ d v → L2.DpAll X.K H v (toPys d)
  | [], _, _, _, .nil => .nil
  | _ :: _, _, _, e, .cons a r => let ⟨_, _, e1, e2, _⟩ := dataL_cons e; .cons (dp_of hK e1 a) (dps_of hK e2 r)
end
theorem frz_succ (k : Nat) (h : Mm) (d : D) : frz (k + 1) h d = bif pureD d then some d else match d with
    | .tup xs => (mapO (frz k h) xs).map .tup
    | .lst xs => (mapO (frz k h) xs).map .lst
    | .ref n => match h.get n with
      | some (.lst xs) => (mapO (frz k h) xs).map .lst
      | some (.dic t kvs) => (mapO (fun p : D × D => (frz k h p.2).map fun y => (p.1, y)) kvs).map (.dic t)
      | some (.ins c fs) => (mapO (fun p : Str × D => (frz k h p.2).map fun y => (p.1, y)) fs).map (.ins c)
      | none => none
    | _ => none := rfl
theorem mapO_dp (hK : X.K = W.K) {f : D → Option D} (ih : ∀ {d e : D} {v : L2.V} {n : Nat}, f d = some e → dataD e = some n → RV W H S ρ d v → L2.Dp X.K H v (toPy e)) :
    ∀ {xs ys : List D} {vs : List L2.V} {n : Nat}, mapO f xs = some ys → dataL ys = some n → RVs W H S ρ xs vs → L2.DpAll X.K H vs (toPys ys)
  | [], _, _, _, e, _, .nil => by cases e; exact .nil
  | d :: r, ys, _, _, e, hd, .cons a t => by
    simp only [mapO] at e
    split at e
    · split at e
      · cases e
        obtain ⟨_, _, e1, e2, _⟩ := dataL_cons hd
        exact .cons (ih (by assumption) e1 a) (mapO_dp hK ih (by assumption) e2 t)
      · cases e
    · cases e
theorem frz_dp (hK : X.K = W.K) (R : RH W H S ρ h) : ∀ (k : Nat) {d e : D} {v : L2.V} {n : Nat}, frz k h d = some e → dataD e = some n → RV W H S ρ d v → L2.Dp X.K H v (toPy e)
  | 0, d, e, v, n, hf, hd, r => by
    obtain ⟨_, h2⟩ := bif_some hf
    cases h2
    exact dp_of hK hd r
  | k + 1, d, e, v, n, hf, hd, r => by
    rw [frz_succ] at hf
    cases hp : pureD d with
    | true =>
      rw [hp] at hf
      cases hf
      exact dp_of hK hd r
    | false =>
      rw [hp] at hf
      simp only [cond_false] at hf
      split at hf
      · obtain ⟨ys, h1, rfl⟩ := Option.map_eq_some_iff.mp hf
        obtain ⟨_, e1, _⟩ := dataD_tup hd
        cases r with | tup t r => exact .tup (t.sq hK) (mapO_dp hK (fun a b c => frz_dp hK R k a b c) h1 e1 r)
      · obtain ⟨ys, h1, rfl⟩ := Option.map_eq_some_iff.mp hf
        obtain ⟨_, e1, _⟩ := dataD_lst hd
        cases r with | lst s q r => exact .lst (SqL.of q) (mapO_dp hK (fun a b c => frz_dp hK R k a b c) h1 e1 r)
      · rename_i m
        split at hf
        · rename_i xs g
          obtain ⟨ys, h1, rfl⟩ := Option.map_eq_some_iff.mp hf
          obtain ⟨_, e1, _⟩ := dataD_lst hd
          obtain ⟨a, vs, rfl, e2, r2⟩ := listR (d := .ref m) (h := h) (xs := xs) (by simp [listOf, g]) R r
          exact .lst (SqL.of e2) (mapO_dp hK (fun a b c => frz_dp hK R k a b c) h1 e1 r2)
        · obtain ⟨ys, h1, rfl⟩ := Option.map_eq_some_iff.mp hf
          cases hd
        · obtain ⟨ys, h1, rfl⟩ := Option.map_eq_some_iff.mp hf
          cases hd
        · cases hf
      · cases hf
theorem dat_dp (hK : X.K = W.K) (R : RH W H S ρ h) {d e : D} {v : L2.V} (hf : dat h d = some e) (r : RV W H S ρ d v) : L2.Dp X.K H v (toPy e) ∧ SeqAt.shaped (toPy e) = true ∧ ∃ n, dataD e = some n := by
  unfold dat at hf
  split at hf
  · rename_i x g
    split at hf
    · rename_i n g2
      obtain ⟨h1, h2⟩ := bif_some hf
      cases h2
      obtain ⟨h3, h4⟩ := lay_of g2
      refine ⟨frz_dp hK R _ g g2 r, ?_, n, g2⟩
      unfold SeqAt.shaped
      rw [h3, h4]
      have := Nat.le_of_ble_eq_true h1
      simp; omega
    · cases hf
  · cases hf
/-- a two-place question by its evaluation -/
def rQ (W : Wd) (f : D → D → Mm → Option Bool) : L2.R2 := fun x y H Q => ∃ S ρ h d e k, RV W H S ρ d x ∧ RV W H S ρ e y ∧ RH W H S ρ h ∧ f d e h = some k ∧ Q (.bl k) H
theorem scl2_ok {d e : D} {x y : L2.V} (hs : scl2 d e = true) (Rd : RV W H S ρ d x) (Re : RV W H S ρ e y) : L2.scal x y = true ∧ decide (x = y) = eqD d e := by
  cases d <;> cases e <;> first
    | (cases Rd; cases Re; first | (rename_i b1 b2; cases b1 <;> cases b2 <;> exact ⟨rfl, rfl⟩) | (exact ⟨rfl, by simp [eqD]⟩) | (refine ⟨rfl, ?_⟩; simp only [eqD]; rw [Bool.eq_iff_iff]; simp))
    | exact absurd (show false = true from hs) Bool.false_ne_true
theorem un64 (xw : XW W X) : X.A.units + 64 < cLine := Nat.lt_of_le_of_lt (by omega) xw.un
theorem un65 (xw : XW W X) : X.A.units + 65 < cLine := Nat.lt_of_le_of_lt (by omega) xw.un
theorem eqR (xw : XW W X) : OpR X (compareOp .Eq) (rQ W eqM) := by
  rintro pins s σ H x y v u Q I rx ry ⟨S, ρ, h, d, e, k, Rd, Re, R, hf, wq⟩
  unfold eqM at hf
  cases hs : scl2 d e with
  | true =>
    rw [hs] at hf; cases hf
    obtain ⟨h1, h2⟩ := scl2_ok hs Rd Re
    exact L2.op_eq pins s σ H x y v u Q I rx ry ⟨h1, by rw [h2]; exact wq⟩
  | false =>
    rw [hs] at hf
    simp only [cond_false] at hf
    split at hf
    · rename_i a b g1 g2
      cases hf
      obtain ⟨d1, s1, _, n1⟩ := dat_dp xw.K R g1 Rd
      obtain ⟨d2, s2, _, n2⟩ := dat_dp xw.K R g2 Re
      exact L2.op_eqD (un64 xw) pins s σ H x y v u Q I rx ry ⟨_, _, d1, d2, s1, s2, by rw [eqv_of n1 n2]; exact wq⟩
    · cases hf
theorem neR (xw : XW W X) : OpR X (compareOp .NotEq) (rQ W fun x y h => cmpD .ne x y h) := by
  rintro pins s σ H x y v u Q I rx ry ⟨S, ρ, h, d, e, k, Rd, Re, R, hf, wq⟩
  simp only [cmpD] at hf
  split at hf
  · cases hf
    rename_i k hf
    unfold eqM at hf
    cases hs : scl2 d e with
    | true =>
      rw [hs] at hf; cases hf
      obtain ⟨h1, h2⟩ := scl2_ok hs Rd Re
      exact L2.op_ne pins s σ H x y v u Q I rx ry ⟨h1, by rw [h2]; exact wq⟩
    | false =>
      rw [hs] at hf
      simp only [cond_false] at hf
      split at hf
      · rename_i a b g1 g2
        cases hf
        obtain ⟨d1, s1, _, n1⟩ := dat_dp xw.K R g1 Rd
        obtain ⟨d2, s2, _, n2⟩ := dat_dp xw.K R g2 Re
        exact L2.op_neD (un64 xw) pins s σ H x y v u Q I rx ry ⟨_, _, d1, d2, s1, s2, by rw [eqv_of n1 n2]; exact wq⟩
      · cases hf
  · cases hf
end
end Ev
end
section
set_option Elab.async false
set_option linter.all false
/-! Ev6: dicts. -/
namespace Ev
open PySem
open L2 (upd upd_same upd_ne ne_of ne_of_none Cx VK OpR SqL SqT Key kV Inv valV putK RelV HOk ObjOk)

section
variable {W : Wd} {H H' : HH} {S S' : Addr → Prop} {ρ ρ' : Rho} {h h' : Mm} {X : Cx}
inductive OR (W : Wd) (H : HH) (S : Addr → Prop) (ρ : Rho) : Option D → Option L2.V → Prop
  | none : OR W H S ρ none none
  | some {d v} : RV W H S ρ d v → OR W H S ρ (some d) (some v)
/-- keys that are ints or texts -/
inductive KK : D → Key → Prop
  | int (i : Int) : KK (.int i) (.inl i)
  | str (x : Str) : KK (.str x) (.inr x)
theorem kk_of {k : D} {y : L2.V} (hk : keyOk false k = true) (r : RV W H S ρ k y) : ∃ kk, KK k kk ∧ y = kV kk := by
  cases k <;> first | (cases r; exact ⟨_, .int _, rfl⟩) | (cases r; exact ⟨_, .str _, rfl⟩) | cases hk
theorem kk_eq {a k : D} {x y : Key} (ha : KK a x) (hk : KK k y) : eqD a k = decide (x = y) := by
  cases ha <;> cases hk
  · simp only [eqD]; rw [L2.key_ll]; rw [Bool.eq_iff_iff]; simp
  · rfl
  · rfl
  · simp only [eqD]; rw [L2.key_rr]
theorem RKs.kk {a : D} {d r kvs} : RKs W H S ρ ((a, d) :: kvs) r → ∃ x v s, r = (x, v) :: s ∧ KK a x ∧ RV W H S ρ d v ∧ RKs W H S ρ kvs s
  | .int a r => ⟨_, _, _, rfl, .int _, a, r⟩
  | .str a r => ⟨_, _, _, rfl, .str _, a, r⟩
theorem RKs.mk {a : D} {d kvs x v s} (hk : KK a x) (r : RV W H S ρ d v) (t : RKs W H S ρ kvs s) : RKs W H S ρ ((a, d) :: kvs) ((x, v) :: s) := by
  cases hk with
  | int i => exact .int r t
  | str z => exact .str r t
theorem RKs.look {k : D} {kk : Key} (hk : KK k kk) : ∀ {kvs ks}, RKs W H S ρ kvs ks → OR W H S ρ (lkD kvs k) (valV ks kk)
  | [], _, .nil => .none
  | (a, d) :: kvs, _, r => by
    obtain ⟨x, v, s, rfl, ha, rd, t⟩ := r.kk
    have e := kk_eq ha hk
    by_cases q : x = kk
    · rw [decide_eq_true q] at e
      rw [L2.valV_pos (by exact q)]
      simp only [lkD, e, cond_true]
      exact .some rd
    · rw [decide_eq_false q] at e
      rw [L2.valV_neg (by exact q)]
      simp only [lkD, e, cond_false]
      exact t.look hk
theorem RKs.repl {k : D} {kk : Key} {d v} (hk : KK k kk) (rd : RV W H S ρ d v) : ∀ {kvs ks}, RKs W H S ρ kvs ks → RKs W H S ρ (repD kvs k d) (ks.map fun kv => if kv.1 = kk then (kv.1, v) else kv)
  | [], _, .nil => .nil
  | (a, b) :: kvs, _, r => by
    obtain ⟨x, w, s, rfl, ha, rb, t⟩ := r.kk
    have e := kk_eq ha hk
    by_cases q : x = kk
    · rw [decide_eq_true q] at e
      simp only [repD, e, cond_true, List.map_cons, if_pos q]
      exact .mk ha rd (t.repl hk rd)
    · rw [decide_eq_false q] at e
      simp only [repD, e, cond_false, List.map_cons, if_neg q]
      exact .mk ha rb (t.repl hk rd)
theorem RKs.snoc {k : D} {kk : Key} {d v} (hk : KK k kk) (rd : RV W H S ρ d v) : ∀ {kvs ks}, RKs W H S ρ kvs ks → RKs W H S ρ (kvs ++ [(k, d)]) (ks ++ [(kk, v)])
  | [], _, .nil => .mk hk rd .nil
  | (a, b) :: kvs, _, r => by
    obtain ⟨x, w, s, rfl, ha, rb, t⟩ := r.kk
    exact .mk ha rb (t.snoc hk rd)
theorem RKs.put {k : D} {kk : Key} {d v} (hk : KK k kk) (rd : RV W H S ρ d v) {kvs ks} (r : RKs W H S ρ kvs ks) : RKs W H S ρ (putD kvs k d) (putK ks kk v) := by
  have o := r.look hk
  unfold putD putK
  rw [L2.valV_any]
  generalize lkD kvs k = a at o ⊢
  generalize valV ks kk = b at o ⊢
  cases o with
  | none => exact r.snoc hk rd
  | some _ => exact r.repl hk rd
theorem RKs.len : ∀ {kvs ks}, RKs W H S ρ kvs ks → kvs.length = ks.length
  | [], _, .nil => rfl
  | (a, b) :: kvs, _, r => by
    obtain ⟨x, w, s, rfl, ha, rb, t⟩ := r.kk
    simp [t.len]
/-! ### keys that are tuples -/
theorem NK.det : ∀ {d : D} {k m : NestedKey}, NK d k → NK d m → k = m
  | _, _, _, .non, .non => rfl
  | _, _, _, .int _, .int _ => rfl
  | _, _, _, .str _, .str _ => rfl
  | _, _, _, .tnil, .tnil => rfl
  | _, _, _, .tcons a r, .tcons b s => by
    have e1 := NK.det a b
    have e2 := NK.det r s
    cases e2
    rw [e1]
mutual
theorem nk_of : ∀ {d : D}, keyD d = true → ∃ k, NK d k
  | .non, _ => ⟨_, .non⟩
  | .int i, _ => ⟨_, .int i⟩
  | .str x, _ => ⟨_, .str x⟩
  | .tup xs, h => let ⟨ks, r⟩ := nks_of (xs := xs) h; ⟨_, r⟩
  | .bl _, h => by cases h
  | .lst _, h => by cases h
  | .dic _ _, h => by cases h
  | .ins _ _, h => by cases h
  | .ref _, h => by cases h
theorem nks_of : ∀ {xs : List D}, keyL xs = true → ∃ ks, NK (.tup xs) (.tup ks)
  | [], _ => ⟨[], .tnil⟩
  | d :: r, h => by
    simp only [keyL, Bool.and_eq_true] at h
    obtain ⟨k, hk⟩ := nk_of h.1
    obtain ⟨ks, hr⟩ := nks_of h.2
    exact ⟨k :: ks, .tcons hk hr⟩
end
theorem nk_eq : ∀ {a k : D} {x y : NestedKey}, NK a x → NK k y → eqD a k = NestedKey.beq x y
  | _, _, _, _, .non, hk => by cases hk <;> rfl
  | _, _, _, _, .int i, hk => by cases hk <;> rfl
  | _, _, _, _, .str z, hk => by cases hk <;> rfl
  | _, _, _, _, .tnil, hk => by cases hk <;> rfl
  | _, _, _, _, .tcons a r, hk => by
    cases hk with
    | tcons b s =>
      have e1 := nk_eq a b
      have e2 := nk_eq r s
      simp only [eqD, eqL, NestedKey.beq, NestedKey.beqAll] at e2 ⊢
      rw [e1, e2]
    | _ => rfl
theorem nk_dec {a k : D} {x y : NestedKey} (ha : NK a x) (hk : NK k y) : eqD a k = decide (x = y) := by rw [nk_eq ha hk, NestedKey.decide_eq]
theorem nk_depth : ∀ {d : D} {k : NestedKey}, NK d k → k.depth = kdep d
  | _, _, .non => rfl
  | _, _, .int _ => rfl
  | _, _, .str _ => rfl
  | _, _, .tnil => rfl
  | _, _, .tcons a r => by
    have e1 := nk_depth a
    have e2 := nk_depth r
    simp only [NestedKey.depth, NestedKey.depthAll, kdep, kdepL] at e2 ⊢
    omega
/-- such a value is such a key -/
theorem RT.isTup {pins σ s a vs} (t : RT W H S a vs) (xw : XW W X) (I : Inv X pins σ H s) : ∃ its : List Value, L2.Vals vs its ∧ PyProof.Rows.IsTup s.heap a its.toArray := by
  obtain ⟨its, r, p, _⟩ := I.tuple (t.sq xw.K)
  exact ⟨its, r, p⟩
theorem nk_both {pins σ s} (xw : XW W X) (I : Inv X pins σ H s) {d : D} {k : NestedKey} (n : NK d k) : (∀ (v : L2.V) (u : Value), RV W H S ρ d v → RelV v u → NestedIs s.heap k u) ∧
    (∀ (xs : List D) (ks : List NestedKey) (vs : List L2.V) (us : List Value), d = .tup xs → k = .tup ks → RVs W H S ρ xs vs → L2.Vals vs us → NestedAll s.heap ks us) := by
  have up : ∀ (xs : List D) (ks : List NestedKey), (∀ (vs : List L2.V) (us : List Value), RVs W H S ρ xs vs → L2.Vals vs us → NestedAll s.heap ks us) → ∀ (v : L2.V) (u : Value), RV W H S ρ (.tup xs) v → RelV v u → NestedIs s.heap (.tup ks) u := by
    intro xs ks f v u r e
    cases r with
    | tup t rs =>
      cases e
      obtain ⟨its, ri, o, ho, hc, m, hd⟩ := t.isTup xw I
      exact .tup ho hc hd (by simpa using f _ _ rs ri)
  induction n with
  | non => exact ⟨fun v u r e => by cases r; cases e; exact .none, fun _ _ _ _ e => by cases e⟩
  | int i => exact ⟨fun v u r e => by cases r; obtain ⟨t, rfl⟩ := e; exact .int _ _, fun _ _ _ _ e => by cases e⟩
  | str x => exact ⟨fun v u r e => by cases r; obtain ⟨t, rfl⟩ := e; exact .text _ _, fun _ _ _ _ e => by cases e⟩
  | tnil =>
    have f : ∀ (vs : List L2.V) (us : List Value), RVs W H S ρ [] vs → L2.Vals vs us → NestedAll s.heap [] us := fun vs us r e => by cases r; cases e; exact .nil
    exact ⟨up _ _ f, fun xs ks vs us e1 e2 r e => by cases e1; cases e2; exact f _ _ r e⟩
  | @tcons d r k ks a b ia ib =>
    have f : ∀ (vs : List L2.V) (us : List Value), RVs W H S ρ (d :: r) vs → L2.Vals vs us → NestedAll s.heap (k :: ks) us := fun vs us q e => by
      cases q with
      | cons q1 q2 =>
        cases e with
        | cons e1 e2 => exact .cons (ia.1 _ _ q1 e1) (ib.2 _ _ _ _ rfl rfl q2 e2)
    exact ⟨up _ _ f, fun xs ks vs us e1 e2 r e => by cases e1; cases e2; exact f _ _ r e⟩
theorem nk_is {pins σ s} (xw : XW W X) (I : Inv X pins σ H s) {d : D} {k : NestedKey} {v : L2.V} {u : Value} (n : NK d k) (r : RV W H S ρ d v) (e : RelV v u) : NestedIs s.heap k u := (nk_both xw I n).1 v u r e
theorem nested_is {pins σ s a} (xw : XW W X) (I : Inv X pins σ H s) {d : D} {k : NestedKey} (n : NK d k) (hd : kdep d ≤ 8) (r : RV W H S ρ d (.ref a)) : (nestedKind W.P W.w).is s.heap k a :=
  ⟨nk_is xw I n r rfl, by rw [nk_depth n]; exact hd⟩
abbrev Ent := NestedKey × Addr × Value
inductive OU (W : Wd) (H : HH) (S : Addr → Prop) (ρ : Rho) : Option D → Option (Addr × Value) → Prop
  | none : OU W H S ρ none none
  | some {d v u b} : RV W H S ρ d v → RelV v u → OU W H S ρ (some d) (some (b, u))
theorem atKey_cons (x : Ent) (xs : List Ent) (k : NestedKey) : atKey (x :: xs) k = if x.1 = k then some x.2 else atKey xs k := by
  unfold atKey
  rw [List.find?_cons]
  by_cases q : x.1 = k <;> simp [q]
theorem RTs.look {k : D} {n : NestedKey} (hk : NK k n) : ∀ {kvs xs}, RTs W H S ρ kvs xs → OU W H S ρ (lkD kvs k) (atKey xs n)
  | [], _, .nil => .none
  | (a, d) :: kvs, _, .cons (n := m) na hd ra rd u t => by
    have e := nk_dec na hk
    rw [atKey_cons]
    by_cases q : m = n
    · rw [decide_eq_true q] at e
      simp only [lkD, e, cond_true, if_pos q]
      exact .some rd u
    · rw [decide_eq_false q] at e
      simp only [lkD, e, cond_false, if_neg q]
      exact t.look hk
theorem RTs.repl {k : D} {n : NestedKey} {d v u} (hk : NK k n) (rd : RV W H S ρ d v) (ru : RelV v u) : ∀ {kvs xs}, RTs W H S ρ kvs xs → RTs W H S ρ (repD kvs k d) (xs.map (putAt n u))
  | [], _, .nil => .nil
  | (a, b) :: kvs, _, .cons (n := m) na hd ra rb u' t => by
    have e := nk_dec na hk
    by_cases q : m = n
    · rw [decide_eq_true q] at e
      simp only [repD, e, cond_true, List.map_cons, putAt, if_pos q]
      exact .cons na hd ra rd ru (t.repl hk rd ru)
    · rw [decide_eq_false q] at e
      simp only [repD, e, cond_false, List.map_cons, putAt, if_neg q]
      exact .cons na hd ra rb u' (t.repl hk rd ru)
theorem RTs.snoc {k : D} {n : NestedKey} {d v u a} (hk : NK k n) (hd : n.depth ≤ 8) (ra : RV W H S ρ k (.ref a)) (rd : RV W H S ρ d v) (ru : RelV v u) : ∀ {kvs xs}, RTs W H S ρ kvs xs → RTs W H S ρ (kvs ++ [(k, d)]) (xs ++ [(n, a, u)])
  | [], _, .nil => .cons hk hd ra rd ru .nil
  | _ :: _, _, .cons na h' rk rb u' t => .cons na h' rk rb u' (t.snoc hk hd ra rd ru)
theorem RTs.put {k : D} {n : NestedKey} {d v u a} (hk : NK k n) (hd : n.depth ≤ 8) (ra : RV W H S ρ k (.ref a)) (rd : RV W H S ρ d v) (ru : RelV v u) {kvs xs} (r : RTs W H S ρ kvs xs) : RTs W H S ρ (putD kvs k d) (storedH xs n a u) := by
  have o := r.look hk
  unfold putD storedH
  generalize lkD kvs k = p at o ⊢
  generalize atKey xs n = q at o ⊢
  cases o with
  | none => exact r.snoc hk hd ra rd ru
  | some _ _ => exact r.repl hk rd ru
theorem RTs.len : ∀ {kvs xs}, RTs W H S ρ kvs xs → kvs.length = xs.length
  | _, _, .nil => rfl
  | _, _, .cons _ _ _ _ _ t => by simp [t.len]

theorem keys_are {pins σ s} (xw : XW W X) (I : Inv X pins σ H s) : ∀ {kvs xs}, RTs W H S ρ kvs xs → ∀ x ∈ xs, (nestedKind W.P W.w).is s.heap x.1 x.2.1
  | _, _, .nil, x, hx => by cases hx
  | _, _, .cons na hd ra _ _ t, x, hx => by
    rcases List.mem_cons.mp hx with rfl | hx
    · exact ⟨nk_is xw I na ra rfl, hd⟩
    · exact keys_are xw I t x hx
/-- the dict of tuple keys, for the library's rules -/
theorem dT_of {pins σ s a kvs xs} (xw : XW W X) (I : Inv X pins σ H s) (e : H a = some (dTO W a xs)) (r : RTs W H S ρ kvs xs) :
    s.heap.DictOfH (nestedKind W.P W.w) a xs ∧ (a == sysModules) = false ∧ xs.length ≤ sizeLine := by
  obtain ⟨⟨h1, h2, o, es, ep, ho, hc, hd, he, hn⟩, _, _⟩ := I.hok a _ e
  exact ⟨⟨o, es, ep, ho, hc, hd, he, keys_are xw I r, hn⟩, h1, h2⟩
theorem un8 (xw : XW W X) {A : Around} (h : A.units ≤ X.A.units + 1) : A.in1.units + 8 < cLine := by
  have := xw.un
  show A.units + 1 + 8 < cLine
  omega
end
end Ev
end
section
set_option Elab.async false
set_option linter.all false
/-! Ev7: dicts, the operations. -/
namespace Ev
open PySem
open L2 (upd upd_same upd_ne ne_of ne_of_none Cx VK OpR SqL SqT Key kV Inv valV putK RelV HOk ObjOk)

section
variable {W : Wd} {H H' : HH} {S S' : Addr → Prop} {ρ ρ' : Rho} {h h' : Mm} {X : Cx} {pins : List (Addr × Obj)} {σ : L2.St} {s : Shared} {A : Around} {E : Value → Shared → Prop}
theorem keyT {k : D} (hk : keyOk true k = true) : ∃ n, NK k n ∧ n.depth ≤ 8 := by
  cases k with
  | tup xs =>
    have hk' : (keyL xs && Nat.ble (kdepL xs + 1) 7) = true := hk
    rw [Bool.and_eq_true] at hk'
    obtain ⟨ks, n⟩ := nks_of hk'.1
    refine ⟨_, n, ?_⟩
    rw [nk_depth n]
    have := Nat.le_of_ble_eq_true hk'.2
    simp only [kdep]
    omega
  | _ => cases hk
theorem keyT_ref {k : D} {y : L2.V} (hk : keyOk true k = true) (r : RV W H S ρ k y) : ∃ b, y = .ref b := by
  cases k with
  | tup xs => cases r; exact ⟨_, rfl⟩
  | _ => cases hk
/-- what a look at a key gives -/
def Looked (W : Wd) (H : HH) (S : Addr → Prop) (ρ : Rho) (o : Option D) (w' : Option Value) : Prop := match o, w' with
  | none, none => True
  | some d, some u => ∃ v, RV W H S ρ d v ∧ RelV v u
  | _, _ => False
theorem looked_or {o : Option D} {p : Option L2.V} {q : Option Value} (a : OR W H S ρ o p) (b : L2.RelO p q) : Looked W H S ρ o q := by
  cases a with
  | none => cases q with
    | none => trivial
    | some _ => exact b.elim
  | some r => cases q with
    | none => exact b.elim
    | some u => exact ⟨_, r, b⟩
theorem looked_ou {o : Option D} {p : Option (Addr × Value)} (a : OU W H S ρ o p) : Looked W H S ρ o (p.map (·.2)) := by
  cases a with
  | none => trivial
  | some r u => exact ⟨_, r, u⟩
theorem looked_some {o : Option D} {p : Option Value} (a : Looked W H S ρ o p) : o.isSome = p.isSome := by
  cases o <;> cases p <;> first | rfl | exact a.elim
theorem looked_get {d : D} {p : Option Value} (a : Looked W H S ρ (some d) p) : ∃ u v, p = some u ∧ RV W H S ρ d v ∧ RelV v u := by
  cases p with
  | none => exact a.elim
  | some u => obtain ⟨v, r, e⟩ := a; exact ⟨u, v, rfl, r, e⟩
theorem looked_getD {o : Option D} {p : Option Value} {d : D} {v : L2.V} {u : Value} (a : Looked W H S ρ o p) (r : RV W H S ρ d v) (e : RelV v u) : ∃ w', RV W H S ρ (o.getD d) w' ∧ RelV w' (p.getD u) := by
  cases o <;> cases p <;> first | exact a.elim | exact ⟨v, r, e⟩ | (obtain ⟨w', r', e'⟩ := a; exact ⟨w', r', e'⟩)
/-- d[k], there -/
theorem dGetItem (xw : XW W X) (hA : A.units ≤ X.A.units + 1) (I : Inv X pins σ H s) (R : RH W H S ρ h) {d k e : D} {x y : L2.V} {v u : Value} {t kvs} {Q : Value → Shared → Prop} (hd : dictOf h d = some (t, kvs)) (hk : keyOk t k = true)
    (Rd : RV W H S ρ d x) (Rk : RV W H S ρ k y) (rx : RelV x v) (ry : RelV y u) (l : lkD kvs k = some e) (hq : ∀ z w' s', Inv X pins σ H s' → RV W H S ρ e z → RelV z w' → Q w' s') : wpAny (model X.prog X.w) A (getItem v u) Q E s := by
  obtain ⟨a, rfl, c | c⟩ := dictR hd R Rd
  · obtain ⟨rfl, ks, ea, rk⟩ := c
    obtain ⟨kk, hkk, rfl⟩ := kk_of hk Rk
    cases rx
    have o := rk.look hkk
    rw [l] at o
    obtain ⟨z, eo⟩ : ∃ z, valV ks kk = some z := by
      generalize valV ks kk = q at o
      cases o with | some r => exact ⟨_, rfl⟩
    rw [eo] at o
    cases o with
    | some rz => exact L2.d_getItem (v := z) (by have := xw.un; omega) I (by rw [← eo]; exact L2.DGet.k ea) ry fun w' s' I' r' => hq z w' s' I' rz r'
  · obtain ⟨rfl, xs, ea, rt⟩ := c
    obtain ⟨n, hn, dn⟩ := keyT hk
    obtain ⟨b, rfl⟩ := keyT_ref hk Rk
    cases rx; cases ry
    obtain ⟨dd, hs, z⟩ := dT_of xw I ea rt
    have o := rt.look hn
    rw [l] at o
    generalize eo : atKey xs n = q at o
    cases o with
    | some rz ru =>
      rw [xw.P, xw.w]
      exact wpAny_getItem_heap (knd := nestedKind W.P W.w) (un8 xw hA) ⟨nk_is xw I hn Rk rfl, dn⟩ dd eo (hq _ _ _ (I.tok _) rz ru)
/-- k in d -/
theorem dIn (xw : XW W X) (I : Inv X pins σ H s) (R : RH W H S ρ h) {d k : D} {x y : L2.V} {v u : Value} {t kvs} {Q : Value → Shared → Prop} (hd : dictOf h d = some (t, kvs)) (hk : keyOk t k = true)
    (Rd : RV W H S ρ d x) (Rk : RV W H S ρ k y) (rx : RelV x v) (ry : RelV y u) (hq : ∀ s', Inv X pins σ H s' → Q (.bool (lkD kvs k).isSome) s') : wpAny (model X.prog X.w) X.A (compareOp .In u v) Q E s := by
  obtain ⟨a, rfl, c | c⟩ := dictR hd R Rd
  · obtain ⟨rfl, ks, ea, rk⟩ := c
    obtain ⟨kk, hkk, rfl⟩ := kk_of hk Rk
    cases rx
    have o := rk.look hkk
    have e : (valV ks kk).isSome = (lkD kvs k).isSome := by generalize valV ks kk = q at o ⊢; generalize lkD kvs k = p at o ⊢; cases o <;> rfl
    exact L2.d_in (by have := xw.un; omega) I (L2.DGet.k ea) ry fun s' I' => by rw [e]; exact hq s' I'
  · obtain ⟨rfl, xs, ea, rt⟩ := c
    obtain ⟨n, hn, dn⟩ := keyT hk
    obtain ⟨b, rfl⟩ := keyT_ref hk Rk
    cases rx; cases ry
    obtain ⟨dd, hs, z⟩ := dT_of xw I ea rt
    have o := rt.look hn
    have e : (atKey xs n).isSome = (lkD kvs k).isSome := by generalize atKey xs n = q at o ⊢; generalize lkD kvs k = p at o ⊢; cases o <;> rfl
    rw [xw.P, xw.w]
    exact wpAny_in_heap (knd := nestedKind W.P W.w) (un8 xw (Nat.le_succ _)) ⟨nk_is xw I hn Rk rfl, dn⟩ hs dd (by rw [e]; exact hq _ (I.tok _))
theorem dNotIn (xw : XW W X) (I : Inv X pins σ H s) (R : RH W H S ρ h) {d k : D} {x y : L2.V} {v u : Value} {t kvs} {Q : Value → Shared → Prop} (hd : dictOf h d = some (t, kvs)) (hk : keyOk t k = true)
    (Rd : RV W H S ρ d x) (Rk : RV W H S ρ k y) (rx : RelV x v) (ry : RelV y u) (hq : ∀ s', Inv X pins σ H s' → Q (.bool (!(lkD kvs k).isSome)) s') : wpAny (model X.prog X.w) X.A (compareOp .NotIn u v) Q E s := by
  obtain ⟨a, rfl, c | c⟩ := dictR hd R Rd
  · obtain ⟨rfl, ks, ea, rk⟩ := c
    obtain ⟨kk, hkk, rfl⟩ := kk_of hk Rk
    cases rx
    have o := rk.look hkk
    have e : (valV ks kk).isSome = (lkD kvs k).isSome := by generalize valV ks kk = q at o ⊢; generalize lkD kvs k = p at o ⊢; cases o <;> rfl
    exact L2.d_notIn (by have := xw.un; omega) I (L2.DGet.k ea) ry fun s' I' => by rw [e]; exact hq s' I'
  · obtain ⟨rfl, xs, ea, rt⟩ := c
    obtain ⟨n, hn, dn⟩ := keyT hk
    obtain ⟨b, rfl⟩ := keyT_ref hk Rk
    cases rx; cases ry
    obtain ⟨dd, hs, z⟩ := dT_of xw I ea rt
    have o := rt.look hn
    have e : (atKey xs n).isSome = (lkD kvs k).isSome := by generalize atKey xs n = q at o ⊢; generalize lkD kvs k = p at o ⊢; cases o <;> rfl
    rw [xw.P, xw.w]
    refine notIn_keyed (knd := nestedKind W.P W.w) (un8 xw (Nat.le_succ _)) ⟨nk_is xw I hn Rk rfl, dn⟩ hs ⟨xs, dd, rfl⟩ ?_
    rw [valueAt_pairsH, Option.isSome_map, e]
    exact hq _ (I.tok _)
/-- d.get(k), d.get(k, x) -/
theorem dGet1 (xw : XW W X) (I : Inv X pins σ H s) (R : RH W H S ρ h) {d k : D} {x y : L2.V} {v u : Value} {t kvs} {Q : Value → Shared → Prop} (hd : dictOf h d = some (t, kvs)) (hk : keyOk t k = true)
    (Rd : RV W H S ρ d x) (Rk : RV W H S ρ k y) (rx : RelV x v) (ry : RelV y u) (hq : ∀ z w' s', Inv X pins σ H s' → RV W H S ρ ((lkD kvs k).getD .non) z → RelV z w' → Q w' s') : wpAny (model X.prog X.w) X.A (PySem.call (.builtin "dict.get") [v, u]) Q E s := by
  obtain ⟨a, rfl, c | c⟩ := dictR hd R Rd
  · obtain ⟨rfl, ks, ea, rk⟩ := c
    obtain ⟨kk, hkk, rfl⟩ := kk_of hk Rk
    cases rx
    have o := rk.look hkk
    refine L2.d_get1 (A := X.A) (by have := xw.un; omega) I (L2.DGet.k ea) ry fun w' s' I' r' => ?_
    generalize valV ks kk = q at o r'
    generalize lkD kvs k = p at o hq
    cases o with
    | none => exact hq .non w' s' I' .non r'
    | some rz => exact hq _ w' s' I' rz r'
  · obtain ⟨rfl, xs, ea, rt⟩ := c
    obtain ⟨n, hn, dn⟩ := keyT hk
    obtain ⟨b, rfl⟩ := keyT_ref hk Rk
    cases rx; cases ry
    obtain ⟨dd, hs, z⟩ := dT_of xw I ea rt
    obtain ⟨w', r1, r2⟩ := looked_getD (looked_ou (rt.look hn)) .non (show RelV .non .none from rfl)
    rw [xw.P, xw.w]
    refine get_keyed (knd := nestedKind W.P W.w) (un8 xw (Nat.le_succ _)) ⟨nk_is xw I hn Rk rfl, dn⟩ hs ⟨xs, dd, rfl⟩ ?_
    rw [valueAt_pairsH]
    exact hq _ _ _ (I.tok _) r1 r2
theorem dGet2 (xw : XW W X) (I : Inv X pins σ H s) (R : RH W H S ρ h) {d k e : D} {x y z : L2.V} {v u w : Value} {t kvs} {Q : Value → Shared → Prop} (hd : dictOf h d = some (t, kvs)) (hk : keyOk t k = true)
    (Rd : RV W H S ρ d x) (Rk : RV W H S ρ k y) (Re : RV W H S ρ e z) (rx : RelV x v) (ry : RelV y u) (rz : RelV z w) (hq : ∀ z w' s', Inv X pins σ H s' → RV W H S ρ ((lkD kvs k).getD e) z → RelV z w' → Q w' s') : wpAny (model X.prog X.w) X.A (PySem.call (.builtin "dict.get") [v, u, w]) Q E s := by
  obtain ⟨a, rfl, c | c⟩ := dictR hd R Rd
  · obtain ⟨rfl, ks, ea, rk⟩ := c
    obtain ⟨kk, hkk, rfl⟩ := kk_of hk Rk
    cases rx
    have o := rk.look hkk
    refine L2.d_get2 (A := X.A) (by have := xw.un; omega) I (L2.DGet.k ea) ry rz fun w' s' I' r' => ?_
    generalize valV ks kk = q at o r'
    generalize lkD kvs k = p at o hq
    cases o with
    | none => exact hq _ w' s' I' Re r'
    | some rz => exact hq _ w' s' I' rz r'
  · obtain ⟨rfl, xs, ea, rt⟩ := c
    obtain ⟨n, hn, dn⟩ := keyT hk
    obtain ⟨b, rfl⟩ := keyT_ref hk Rk
    cases rx; cases ry
    obtain ⟨dd, hs, _⟩ := dT_of xw I ea rt
    obtain ⟨w', r1, r2⟩ := looked_getD (looked_ou (rt.look hn)) Re rz
    rw [xw.P, xw.w]
    refine getOr_keyed (knd := nestedKind W.P W.w) (un8 xw (Nat.le_succ _)) ⟨nk_is xw I hn Rk rfl, dn⟩ hs ⟨xs, dd, rfl⟩ ?_
    rw [valueAt_pairsH]
    exact hq _ _ _ (I.tok _) r1 r2
theorem putD_len (kvs : List (D × D)) (k v : D) : (putD kvs k v).length ≤ kvs.length + 1 := by
  have rl : ∀ kvs : List (D × D), (repD kvs k v).length = kvs.length := fun kvs => by
    induction kvs with
    | nil => rfl
    | cons p r ih => obtain ⟨a, b⟩ := p; simp [repD, ih]
  unfold putD
  split
  · rw [rl]; omega
  · simp
theorem dT_obj {s' : Shared} {a : Addr} {xs : List Ent} {H1 : HH} (hs : (a == sysModules) = false) (hz : xs.length ≤ sizeLine) (dd : s'.heap.DictOfH (nestedKind W.P W.w) a xs) (P : Program) (w : World) : ObjOk P w H1 s'.heap a (dTO W a xs) := by
  obtain ⟨o, es, ep, ho, hc, hd, he, _, hn⟩ := dd
  refine ⟨⟨hs, hz, o, es, ep, ho, hc, hd, he, hn⟩, ⟨o, ho⟩, fun h1 h2 q st => ?_⟩
  obtain ⟨q1, q2, o', es', ep', q3, q4⟩ := q
  exact ⟨q1, q2, o', es', ep', st _ q3, q4⟩
/-- n[k] = v -/
theorem dSetItem (xw : XW W X) (hA : A.units ≤ X.A.units + 1) (I : Inv X pins σ H s) (R : RH W H S ρ h) {n : Nat} {k e : D} {x y z : L2.V} {v u w : Value} {t kvs} {Q : Unit → Shared → Prop} (hn : h.get n = some (.dic t kvs)) (hk : keyOk t k = true) (hl : kvs.length < sizeLine)
    (Rd : RV W H S ρ (.ref n) x) (Rk : RV W H S ρ k y) (Re : RV W H S ρ e z) (rx : RelV x v) (ry : RelV y u) (rz : RelV z w)
    (hq : ∀ H' s', Go S ρ h H S ρ (h.set n (.dic t (putD kvs k e))) H' → RH W H' S ρ (h.set n (.dic t (putD kvs k e))) → Inv X pins σ H' s' → Q () s') : wpAny (model X.prog X.w) A (setItem v u w) Q E s := by
  cases Rd with
  | @ref n a q =>
    obtain ⟨a', ho, q', ea, ns, ro⟩ := R.lv _ _ hn
    rw [q] at q'; cases q'
    cases rx
    cases ro with
    | @dicK kvs ks rk =>
      obtain ⟨kk, hkk, rfl⟩ := kk_of hk Rk
      refine L2.d_setItem (by have := xw.un; omega) I (L2.DPut.k ea (by rw [← rk.len]; exact hl)) ry rz fun s' I' => ?_
      obtain ⟨g, R'⟩ := stored (o' := .dic false (putD kvs k e)) (ho' := .dK (putK ks kk z)) R hn q fun H' st => .dicK ((rk.put hkk Re).mono' (fun _ z => z) st fun _ _ e => e)
      exact hq _ _ g R' I'
    | @dicT kvs xs rt =>
      obtain ⟨m, hm, dm⟩ := keyT hk
      obtain ⟨b, rfl⟩ := keyT_ref hk Rk
      cases ry
      obtain ⟨dd, hs, hz⟩ := dT_of xw I ea rt
      have lz : (storedH xs m b w).length ≤ sizeLine := by
        rw [← (rt.put hm dm Rk Re rz).len]
        have := putD_len kvs k e
        omega
      rw [xw.P, xw.w]
      refine wpAny_setItem_heap (knd := nestedKind W.P W.w) (hsz := hz) (un8 xw hA) ⟨nk_is xw I hm Rk rfl, dm⟩ dd fun h' dd' hsb => ?_
      obtain ⟨g, R'⟩ := stored (o' := .dic true (putD kvs k e)) (ho' := dTO W a (storedH xs m b w)) R hn q fun H' st => .dicT ((rt.put hm dm Rk Re rz).mono' (fun _ z => z) st fun _ _ e => e)
      refine hq _ _ g R' (L2.d_write I (by rw [ea]; exact True.intro) hsb ?_ (dT_obj (s' := { s with heap := h' }) hs lz dd' _ _))
      obtain ⟨o, _, _, ho, _⟩ := dd'
      exact ⟨o, ho⟩
end
end Ev
end
section
set_option Elab.async false
set_option linter.all false
/-! Ev8: questions, subscripts, slices, stores, truth by values. -/
namespace Ev
open PySem
open L2 (upd upd_same upd_ne ne_of ne_of_none Cx VK OpR SqL SqT Key kV Inv valV putK RelV HOk ObjOk IxR SlR TruR PSet PGet CallR MtR EP)

section
variable {W : Wd} {H H' : HH} {S S' : Addr → Prop} {ρ ρ' : Rho} {h h' : Mm} {X : Cx} {pins : List (Addr × Obj)} {σ : L2.St} {s : Shared} {A : Around} {E : Value → Shared → Prop}
theorem memN_ok (c : Nat) : ∀ l : List Nat, memN c l = decide (c ∈ l)
  | [] => by simp [memN]
  | d :: r => by
    simp only [memN, memN_ok c r, List.mem_cons, Bool.decide_or]
theorem flat_ok {d : D} {x : L2.V} (hs : scl d = true) (r : RV W H S ρ d x) : L2.flatV x = true := by
  cases d <;> first | (cases r; rfl) | cases hs
theorem flats_ok : ∀ {ds : List D} {xs : List L2.V}, allScl ds = true → RVs W H S ρ ds xs → xs.all L2.flatV = true
  | [], _, _, .nil => rfl
  | d :: r, _, h, .cons a t => by
    simp only [allScl, Bool.and_eq_true] at h
    simp [flat_ok h.1 a, flats_ok h.2 t]
theorem eqV_ok {d e : D} {x y : L2.V} (hd : scl d = true) (he : scl e = true) (rd : RV W H S ρ d x) (re : RV W H S ρ e y) : L2.eqV x y = eqD d e := by
  cases d <;> first | cases hd | skip
  all_goals cases e <;> first | cases he | skip
  all_goals cases rd; cases re
  all_goals first
    | rfl
    | (simp only [L2.eqV, eqD, b2i]; rw [Bool.eq_iff_iff]; simp)
  all_goals first
    | (rename_i b i; cases b <;> simp [b2i] <;> exact ⟨fun h => decide_eq_true h, fun h => of_decide_eq_true h⟩)
    | (rename_i i b; cases b <;> simp [b2i] <;> exact ⟨fun h => decide_eq_true h, fun h => of_decide_eq_true h⟩)
theorem anyEq_ok {d : D} {x : L2.V} (hd : scl d = true) (rd : RV W H S ρ d x) : ∀ {ds : List D} {xs : List L2.V}, allScl ds = true → RVs W H S ρ ds xs → L2.inV x xs = anyEq d ds
  | [], _, _, .nil => rfl
  | e :: r, _, h, .cons a t => by
    simp only [allScl, Bool.and_eq_true] at h
    have ih := anyEq_ok hd rd h.2 t
    unfold L2.inV at ih ⊢
    simp [anyEq, eqV_ok h.1 hd a rd, ih]
theorem anyEq_py {d : D} {n : Nat} (hd : dataD d = some n) : ∀ {ds : List D} {m : Nat}, dataL ds = some m → (toPys ds).any (fun z => PyData.eqv z (toPy d)) = anyEq d ds
  | [], _, _ => rfl
  | e :: r, _, h => by
    obtain ⟨a, b, h1, h2, _⟩ := dataL_cons h
    simp [toPys, anyEq, eqv_of h1 hd, anyEq_py hd h2]
theorem str_one {a : Str} {c : Nat} (h : a.cps.toList = [c]) : a = ⟨#[c]⟩ := by
  obtain ⟨⟨l⟩⟩ := a
  simp only at h
  rw [h]
theorem inBoth (xw : XW W X) (neg : Bool) {x y : L2.V} {v u : Value} {Q : VK} {d e : D} {k : Bool} (I : Inv X pins σ H s) (rx : RelV x v) (ry : RelV y u) (Rd : RV W H S ρ d x) (Re : RV W H S ρ e y) (R : RH W H S ρ h)
    (hin : inD d e h = some k) (wq : Q (.bl (if neg then !k else k)) H) : wpAny (model X.prog X.w) X.A (compareOp (if neg then .NotIn else .In) v u) (EP X pins σ Q) X.xe s := by
  · skip
    unfold inD at hin
    split at hin
    · rename_i t kvs hd
      obtain ⟨hk, hin⟩ := bif_some hin
      cases hin
      cases neg with
      | true => exact dNotIn xw I R hd hk Re Rd ry rx fun s' I' => ⟨.bl _, H, I', rfl, wq⟩
      | false => exact dIn xw I R hd hk Re Rd ry rx fun s' I' => ⟨.bl _, H, I', rfl, wq⟩
    · split at hin
      · rename_i a b
        split at hin
        · rename_i c hc
          cases hin
          cases Rd; cases Re
          rw [memN_ok] at wq
          cases neg with
          | true => exact L2.op_notIn_sign pins s σ H _ _ v u Q I rx ry ⟨c, _, by rw [str_one hc], rfl, wq⟩
          | false => exact L2.op_in_sign pins s σ H _ _ v u Q I rx ry ⟨c, _, by rw [str_one hc], rfl, wq⟩
        · cases hin
      · split at hin
        · rename_i ys hys
          cases hb : (scl d && allScl ys) with
          | true =>
            rw [hb] at hin
            cases hin
            rw [Bool.and_eq_true] at hb
            obtain ⟨a, vs, rfl, rv, c⟩ := seqR hys R Re
            have c' : SqL X.K H a vs ∨ SqT X.K H a vs := by
              rcases c with c | c
              · exact .inl (xw.sq c)
              · exact .inr (c.sq xw.K)
            cases neg with
            | true => exact L2.op_notIn_seq pins s σ H _ _ v u Q I rx ry ⟨a, vs, rfl, c', flat_ok hb.1 Rd, flats_ok hb.2 rv, by rw [anyEq_ok hb.1 Rd hb.2 rv]; exact wq⟩
            | false => exact L2.op_in_seq pins s σ H _ _ v u Q I rx ry ⟨a, vs, rfl, c', flat_ok hb.1 Rd, flats_ok hb.2 rv, by rw [anyEq_ok hb.1 Rd hb.2 rv]; exact wq⟩
          | false =>
            rw [hb] at hin
            simp only [cond_false] at hin
            split at hin
            · rename_i a bs g1 g2
              cases hin
              obtain ⟨d1, s1, m1, n1⟩ := dat_dp xw.K R g1 Rd
              obtain ⟨d2, s2, m2, n2⟩ := dat_dp xw.K R g2 Re
              obtain ⟨m3, n3, _⟩ := dataD_tup n2
              obtain ⟨as, r1⟩ := L2.Dp.reads I _ x v d1 rx
              obtain ⟨bs', r2⟩ := L2.Dp.reads I _ y u d2 ry
              have hu := PyProof.Rows.room_in_shaped (xs := toPys bs) s1 (un65 xw)
              have e := anyEq_py n1 n3
              cases neg with
              | true => exact SeqAt.notIn_tuple_reads r2 r1 (by simpa [toPy, PyData.canLay0] using SeqAt.canLay_of_shaped s2) (SeqAt.canLay_of_shaped s1) hu ⟨.bl _, H, I, rfl, by rw [e]; exact wq⟩
              | false => exact SeqAt.in_tuple_reads r2 r1 (by simpa [toPy, PyData.canLay0] using SeqAt.canLay_of_shaped s2) (SeqAt.canLay_of_shaped s1) hu ⟨.bl _, H, I, rfl, by rw [e]; exact wq⟩
            · rename_i a bs g1 g2
              cases hin
              obtain ⟨d1, s1, m1, n1⟩ := dat_dp xw.K R g1 Rd
              obtain ⟨d2, s2, m2, n2⟩ := dat_dp xw.K R g2 Re
              obtain ⟨m3, n3, _⟩ := dataD_lst n2
              have e := anyEq_py n1 n3
              cases neg with
              | true => exact L2.op_notInD (un65 xw) pins s σ H _ _ v u Q I rx ry ⟨_, _, d1, d2, s1, s2, by rw [e]; exact wq⟩
              | false => exact L2.op_inD (un65 xw) pins s σ H _ _ v u Q I rx ry ⟨_, _, d1, d2, s1, s2, by rw [e]; exact wq⟩
            · cases hin
        · cases hin
def cmOf : Cm → CmpOp
  | .eq => .Eq | .ne => .NotEq | .lt => .Lt | .le => .LtE | .gt => .Gt | .ge => .GtE | .is => .Is | .isn => .IsNot | .inn => .In | .nin => .NotIn
theorem cmpR (xw : XW W X) (o : Cm) : OpR X (compareOp (cmOf o)) (rQ W (cmpD o)) := by
  cases o with
  | eq => exact eqR xw
  | ne => exact neR xw
  | lt =>
    rintro pins s σ H x y v u Q I rx ry ⟨S, ρ, h, d, e, k, Rd, Re, R, hf, wq⟩
    simp only [cmpD] at hf
    split at hf
    · cases hf; cases Rd; cases Re; exact L2.op_lt pins s σ H _ _ v u Q I rx ry ⟨_, _, rfl, rfl, wq⟩
    · cases hf
  | le =>
    rintro pins s σ H x y v u Q I rx ry ⟨S, ρ, h, d, e, k, Rd, Re, R, hf, wq⟩
    simp only [cmpD] at hf
    split at hf
    · cases hf; cases Rd; cases Re; exact L2.op_le pins s σ H _ _ v u Q I rx ry ⟨_, _, rfl, rfl, wq⟩
    · cases hf
  | gt =>
    rintro pins s σ H x y v u Q I rx ry ⟨S, ρ, h, d, e, k, Rd, Re, R, hf, wq⟩
    simp only [cmpD] at hf
    split at hf
    · cases hf; cases Rd; cases Re; exact L2.op_gt pins s σ H _ _ v u Q I rx ry ⟨_, _, rfl, rfl, wq⟩
    · cases hf
  | ge =>
    rintro pins s σ H x y v u Q I rx ry ⟨S, ρ, h, d, e, k, Rd, Re, R, hf, wq⟩
    simp only [cmpD] at hf
    split at hf
    · cases hf; cases Rd; cases Re; exact L2.op_ge pins s σ H _ _ v u Q I rx ry ⟨_, _, rfl, rfl, wq⟩
    · cases hf
  | is =>
    rintro pins s σ H x y v u Q I rx ry ⟨S, ρ, h, d, e, k, Rd, Re, R, hf, wq⟩
    simp only [cmpD] at hf
    split at hf
    · cases hf; cases Rd; cases Re; exact L2.op_isN pins s σ H _ _ v u Q I rx ry ⟨rfl, wq⟩
    · rename_i hne
      cases hf; cases Re
      refine L2.op_isN pins s σ H _ _ v u Q I rx ry ⟨rfl, ?_⟩
      rw [decide_eq_false]
      · exact wq
      · rintro rfl; cases Rd; exact hne rfl
    · rename_i a b
      cases hf; cases Rd; cases Re
      refine L2.op_isBl pins s σ H _ _ v u Q I rx ry ⟨_, _, rfl, rfl, ?_⟩
      cases a <;> cases b <;> exact wq
    · cases hf
  | isn =>
    rintro pins s σ H x y v u Q I rx ry ⟨S, ρ, h, d, e, k, Rd, Re, R, hf, wq⟩
    simp only [cmpD] at hf
    split at hf
    · cases hf; cases Rd; cases Re; exact L2.op_notN pins s σ H _ _ v u Q I rx ry ⟨rfl, wq⟩
    · rename_i hne
      cases hf; cases Re
      refine L2.op_notN pins s σ H _ _ v u Q I rx ry ⟨rfl, ?_⟩
      rw [decide_eq_false]
      · exact wq
      · rintro rfl; cases Rd; exact hne rfl
    · rename_i a b
      cases hf; cases Rd; cases Re
      refine L2.op_notBl pins s σ H _ _ v u Q I rx ry ⟨_, _, rfl, rfl, ?_⟩
      cases a <;> cases b <;> exact wq
    · cases hf
  | inn =>
    rintro pins s σ H x y v u Q I rx ry ⟨S, ρ, h, d, e, k, Rd, Re, R, hf, wq⟩
    exact inBoth xw false I rx ry Rd Re R hf wq
  | nin =>
    rintro pins s σ H x y v u Q I rx ry ⟨S, ρ, h, d, e, k, Rd, Re, R, hf, wq⟩
    simp only [cmpD] at hf
    split at hf
    · rename_i k' hin
      cases hf
      exact inBoth xw true I rx ry Rd Re R hin wq
    · cases hf
end
end Ev
end
section
set_option Elab.async false
set_option linter.all false
/-! Ev9: subscripts, slices, stores, truth, built-ins by values. -/
namespace Ev
open PySem
open L2 (upd upd_same upd_ne ne_of ne_of_none Cx VK OpR SqL SqT Key kV Inv valV putK RelV HOk ObjOk IxR SlR TruR PSet PGet CallR MtR EP)

section
variable {W : Wd} {H H' : HH} {S S' : Addr → Prop} {ρ ρ' : Rho} {h h' : Mm} {X : Cx} {pins : List (Addr × Obj)} {σ : L2.St} {s : Shared} {A : Around} {E : Value → Shared → Prop}
theorem ixN_eq (n : Nat) (i : Int) : ixN n i = L2.ixN n i := rfl
theorem atR {xs : List D} {vs : List L2.V} {i : Int} {d : D} (r : RVs W H S ρ xs vs) (e : atL xs i = some d) : ∃ v, L2.atI vs i = some v ∧ RV W H S ρ d v := by
  unfold atL at e
  split at e
  · rename_i j hj
    obtain ⟨v, h1, h2⟩ := r.get e
    refine ⟨v, ?_, h2⟩
    unfold L2.atI
    rw [← r.len, ← ixN_eq, hj]
    exact h1
  · cases e
theorem nthN_eq : ∀ (l : List Nat) (i : Nat), nthN l i = l[i]?
  | [], i => by simp [nthN]
  | _ :: _, 0 => rfl
  | _ :: r, i + 1 => by simp [nthN, nthN_eq r i]
/-- a subscript by its evaluation -/
def rX (W : Wd) : L2.R2 := fun x y H Q => ∃ S ρ h d e r, RV W H S ρ d x ∧ RV W H S ρ e y ∧ RH W H S ρ h ∧ idxD d e h = some r ∧ ∀ v, RV W H S ρ r v → Q v H
theorem dict_ty (xw : XW W X) (I : Inv X pins σ H s) (R : RH W H S ρ h) {d : D} {x : L2.V} {v : Value} {t kvs} (hd : dictOf h d = some (t, kvs)) (r : RV W H S ρ d x) (rx : RelV x v) :
    s.TypeIs v "dict" ∧ ∀ a, v = .ref a → ∃ ob, s.heap.get? a = some ob ∧ ob.dict = none := by
  obtain ⟨a, rfl, c | c⟩ := dictR hd R r
  · obtain ⟨_, ks, ea, _⟩ := c
    cases rx
    obtain ⟨_, _, _, _, o, _, _, e, ex, _⟩ := I.hok a _ ea
    exact ⟨⟨o, e, ex.1⟩, fun b q => by cases q; exact ⟨o, e, ex.2.1⟩⟩
  · obtain ⟨_, xs, ea, rt⟩ := c
    cases rx
    obtain ⟨⟨o, es, ep, e, ex, _⟩, _, _⟩ := dT_of xw I ea rt
    exact ⟨⟨o, e, ex.1⟩, fun b q => by cases q; exact ⟨o, e, ex.2.1⟩⟩
theorem ixStr {x : Str} {i : Int} {d : D} (e : (match ixN x.length i with | some j => (nthN x.cps.toList j).map fun c => D.str ⟨#[c]⟩ | none => none) = some d) : ∃ c, L2.atI x.cps.toList i = some c ∧ d = .str ⟨#[c]⟩ := by
  split at e
  · rename_i j hj
    obtain ⟨c, h1, rfl⟩ := Option.map_eq_some_iff.mp e
    refine ⟨c, ?_, rfl⟩
    unfold L2.atI
    have hl : x.cps.toList.length = x.length := by simp [Str.length]
    rw [hl, ← ixN_eq, hj]
    rw [nthN_eq] at h1
    exact h1
  · cases e
theorem idxR (xw : XW W X) : IxR X (rX W) := by
  rintro value slice pins s σ H x y v u Q I rx ry ⟨S, ρ, h, d, e, r, Rd, Re, R, hf, wq⟩ hs
  unfold idxD at hf
  split at hf
  · obtain ⟨hc, hf⟩ := bif_some hf
    cases Rd; cases Re
    obtain ⟨c, h1, rfl⟩ := ixStr hf
    exact L2.ix_str value slice pins s σ H _ _ v u Q I rx ry ⟨_, _, c, rfl, rfl, ble_most hc, h1, wq _ (.str _)⟩ hs
  · split at hf
    · rename_i t kvs hd
      obtain ⟨hk, hf⟩ := bif_some hf
      exact PyProof.Rows.tail_any (dict_ty xw I R hd Rd rx).1 PySem.F.slot_dict_getitem.lookup (dGetItem xw (Nat.le_succ _) I R hd hk Rd Re rx ry hf fun z w' s' I' r1 r2 => ⟨z, H, I', r2, wq z r1⟩) hs
    · split at hf
      · rename_i i xs hxs hne
        cases Re
        obtain ⟨a, vs, rfl, rv, c⟩ := seqR hxs R Rd
        obtain ⟨z, h1, h2⟩ := atR rv hf
        rcases c with c | c
        · exact L2.ix_list value slice pins s σ H _ _ v u Q I rx ry ⟨a, vs, i, z, rfl, rfl, xw.sq c, h1, wq z h2⟩ hs
        · exact L2.ix_tup value slice pins s σ H _ _ v u Q I rx ry ⟨a, vs, i, z, rfl, rfl, c.sq xw.K, h1, wq z h2⟩ hs
      · cases hf
/-- d[k] of a dict by its evaluation, for d[k] op= v -/
def rXd (W : Wd) : L2.R2 := fun x y H Q => ∃ S ρ h d e r, RV W H S ρ d x ∧ RV W H S ρ e y ∧ RH W H S ρ h ∧ (dictOf h d).isSome = true ∧ idxD d e h = some r ∧ ∀ v, RV W H S ρ r v → Q v H
theorem getR (xw : XW W X) : PGet X (rXd W) := by
  rintro pins s σ H x y v u Q I rx ry ⟨S, ρ, h, d, e, r, Rd, Re, R, hs, hf, wq⟩
  unfold idxD at hf
  split at hf
  · cases hs
  · split at hf
    · rename_i t kvs hd
      obtain ⟨hk, hf⟩ := bif_some hf
      exact dGetItem xw (Nat.le_succ _) I R hd hk Rd Re rx ry hf fun z w' s' I' r1 r2 => ⟨z, H, I', r2, wq z r1⟩
    · rename_i hd
      rw [hd] at hs
      cases hs
/-- a store by its evaluation -/
def rS (W : Wd) : L2.TSet := fun x y z H Q => ∃ S ρ h d e r h', RV W H S ρ d x ∧ RV W H S ρ e y ∧ RV W H S ρ r z ∧ RH W H S ρ h ∧ setD d e r h = some h' ∧ ∀ H', Go S ρ h H S ρ h' H' → RH W H' S ρ h' → Q H'
theorem setR (xw : XW W X) : PSet X (rS W) := by
  rintro pins s σ H x y z v u w Q I rx ry rz ⟨S, ρ, h, d, e, r, h', Rd, Re, Rr, R, hf, wq⟩
  unfold setD at hf
  split at hf
  · rename_i n
    split at hf
    · rename_i xs i hn
      split at hf
      · rename_i j hj
        cases hf
        cases Re
        cases Rd with
        | @ref n a q =>
          obtain ⟨a', ho, q', ea, ns, ro⟩ := R.lv _ _ hn
          rw [q] at q'; cases q'
          cases ro with
          | lst rv =>
            obtain ⟨g, R'⟩ := stored (o' := .lst (xs.set j r)) (ho' := .lst (List.set _ j z)) R hn q fun H' st => .lst ((rv.set Rr j).mono' (fun _ z => z) st fun _ _ e => e)
            exact L2.set_list pins s σ H _ _ _ v u w Q I rx ry rz ⟨a, _, i, j, rfl, rfl, ea, by rw [← rv.len, ← ixN_eq]; exact hj, wq _ g R'⟩
      · cases hf
    · rename_i t kvs i hn
      obtain ⟨hc, hf⟩ := bif_some hf
      cases hf
      rw [Bool.and_eq_true] at hc
      have hl := ble_most hc.2
      exact dSetItem xw (Nat.le_succ _) I R hn hc.1 (by omega) Rd Re Rr rx ry rz fun H' s' g R' I' => ⟨H', I', wq H' g R'⟩
    · cases hf
  · cases hf
/-- truth -/
def rT (W : Wd) : L2.V → HH → (Bool → HH → Prop) → Prop := fun x H Q => ∃ S ρ h d k, RV W H S ρ d x ∧ RH W H S ρ h ∧ tru h d = some k ∧ Q k H
theorem isE {xs : List D} {vs : List L2.V} (r : RVs W H S ρ xs vs) : xs.isEmpty = vs.isEmpty := by cases r <;> rfl
theorem truV (xw : XW W X) {d : D} {x : L2.V} {k : Bool} (R : RH W H S ρ h) (r : RV W H S ρ d x) (e : tru h d = some k) : L2.TruV X.K x H k := by
  unfold tru at e
  split at e
  · cases e; cases r; rfl
  · cases e; cases r; rfl
  · cases e; cases r; rfl
  · obtain ⟨hc, e⟩ := bif_some e
    cases e; cases r; exact ⟨ble_most hc, rfl⟩
  · split at e
    · rename_i xs hx
      cases e
      obtain ⟨a, vs, rfl, rv, c⟩ := seqR hx R r
      rcases c with c | c
      · exact .inl ⟨vs, xw.sq c, by rw [isE rv]⟩
      · exact .inr (.inl ⟨vs, c.sq xw.K, by rw [isE rv]⟩)
    · cases e
theorem truR (xw : XW W X) : TruR X (rT W) := by
  rintro pins s σ H x v Q I rx ⟨S, ρ, h, d, k, Rd, R, hf, wq⟩
  exact L2.tru_ok pins s σ H x v Q I rx ⟨k, truV xw R Rd hf, wq⟩
/-- slices -/
def rSl (W : Wd) (z : Bool) : L2.V → Option Int → Option Int → HH → VK → Prop := fun x lo hi H Q => ∃ S ρ h d r h', RV W H S ρ d x ∧ RH W H S ρ h ∧ slD z d lo hi h = some (r, h') ∧ Wish W S ρ h H r h' Q
theorem cutS_eq (x : Str) (lo hi : Option Int) : (⟨(cut x.cps.toList lo hi).toArray⟩ : Str) = L2.cutS x lo hi := by
  unfold cut L2.cutS
  have hl : x.cps.toList.length = x.length := by simp [Str.length]
  rw [hl, sIx_eq, sIx_eq]
theorem slR (xw : XW W X) (z : Bool) : SlR X (rSl W z) := by
  rintro pins s σ H x v vl vu lo hi sl Q I rx hs pl pu ⟨S, ρ, h, d, r, h', Rd, R, hf, wq⟩
  unfold slD at hf
  split at hf
  · obtain ⟨hc, hf⟩ := bif_some hf
    cases hf; cases Rd
    exact L2.sl_str pins s σ H _ v vl vu lo hi sl Q I rx hs pl pu ⟨_, rfl, ble_most hc, by rw [← cutS_eq]; exact wish_here R wq (.str _)⟩
  · cases hf
    cases Rd with
    | @tup a vs xs t rv =>
      refine L2.sl_tupA pins s σ H _ v vl vu lo hi sl Q I rx hs pl pu ⟨_, _, rfl, t.sq xw.K, fun e => ?_, fun _ p hp => wish_tup R wq (rv.cut lo hi) hp⟩
      refine wish_here R wq (.tup t ?_)
      have := rv.cut lo hi
      unfold L2.cutV at this
      rw [e.1, e.2] at this
      simpa using this
  · split at hf
    · rename_i xs hx
      obtain ⟨rfl, rfl⟩ := some_pair hf
      obtain ⟨a, vs, rfl, e, rv⟩ := listR hx R Rd
      exact L2.sl_list pins s σ H _ v vl vu lo hi sl Q I rx hs pl pu ⟨_, _, rfl, SqL.of e, fun p hp => wish_lst R wq (rv.cut lo hi) hp⟩
    · cases hf
end
end Ev
end
section
set_option Elab.async false
set_option linter.all false
/-! Ev10: built-in functions and methods by values. -/
namespace Ev
open PySem
open L2 (upd upd_same upd_ne ne_of ne_of_none Cx VK OpR SqL SqT Key kV Inv valV putK RelV HOk ObjOk IxR SlR TruR PSet PGet CallR MtR EP)

section
variable {W : Wd} {H H' : HH} {S S' : Addr → Prop} {ρ ρ' : Rho} {h h' : Mm} {X : Cx} {pins : List (Addr × Obj)} {σ : L2.St} {s : Shared} {A : Around} {E : Value → Shared → Prop}
/-- a built-in by its evaluation -/
def rC (W : Wd) (f : List D → Mm → Option (D × Mm)) : List L2.V → HH → VK → Prop := fun xs H Q => ∃ S ρ h ds r h', RVs W H S ρ ds xs ∧ RH W H S ρ h ∧ f ds h = some (r, h') ∧ Wish W S ρ h H r h' Q
def bOf : Bt → Value
  | .len => .builtin "len" | .abs => .builtin "abs" | .max2 => .builtin "max" | .maxL => .builtin "max" | .min2 => .builtin "min" | .sumL => .builtin "sum"
  | .tupleOf => .type "tuple" | .listOf => .type "list" | .repr => .builtin "repr" | .strOf => .type "str" | .intOf => .type "int"
  | .allL => .builtin "all" | .anyL => .builtin "any" | .dictOf => .type "dict" | .sorted => .builtin "sorted" | .setSorted => .builtin "sorted"
theorem sumI_eq : ∀ l : List Int, sumI l = l.sum
  | [] => rfl
  | i :: r => by simp [sumI, sumI_eq r]
theorem allB_eq : ∀ l : List Bool, allB l = l.all id
  | [] => rfl
  | i :: r => by simp [allB, allB_eq r]
theorem anyB_eq : ∀ l : List Bool, anyB l = l.any id
  | [] => rfl
  | i :: r => by simp [anyB, anyB_eq r]
theorem intsR : ∀ {ds : List D} {vs : List L2.V} {ns : List Int}, intsD ds = some ns → RVs W H S ρ ds vs → vs = ns.map L2.V.int
  | [], _, _, e, .nil => by cases e; rfl
  | d :: r, _, ns, e, .cons a t => by
    cases d with
    | int i =>
      simp only [intsD] at e
      split at e
      · cases e
        cases a
        simp [intsR (by assumption) t]
      · cases e
    | _ => cases e
theorem blsR : ∀ {ds : List D} {vs : List L2.V} {ns : List Bool}, bls ds = some ns → RVs W H S ρ ds vs → vs = ns.map L2.V.bl
  | [], _, _, e, .nil => by cases e; rfl
  | d :: r, _, ns, e, .cons a t => by
    cases d with
    | bl i =>
      simp only [bls] at e
      split at e
      · cases e
        cases a
        simp [blsR (by assumption) t]
      · cases e
    | _ => cases e
theorem maxI_in (m : Int) (l : List Int) : maxI m l ∈ m :: l ∧ ∀ y ∈ m :: l, y ≤ maxI m l := by
  induction l generalizing m with
  | nil => simp [maxI]
  | cons i r ih =>
    obtain ⟨h1, h2⟩ := ih (if m < i then i else m)
    simp only [maxI]
    refine ⟨?_, fun y hy => ?_⟩
    · rcases List.mem_cons.mp h1 with e | e
      · rw [e]; split <;> simp
      · simp [e]
    · have h3 := h2 (if m < i then i else m) (by simp)
      rcases List.mem_cons.mp hy with rfl | hy
      · split at h3 <;> split <;> omega
      · rcases List.mem_cons.mp hy with rfl | hy
        · split at h3 <;> split <;> omega
        · exact h2 y (by simp [hy])
theorem one_of {ds : List D} {xs : List L2.V} {d : D} (e : ds = [d]) (r : RVs W H S ρ ds xs) : ∃ v, xs = [v] ∧ RV W H S ρ d v := by
  subst e
  cases r with
  | cons a t => cases t; exact ⟨_, rfl, a⟩
theorem dat_ref {d e : D} {v : L2.V} (hd : dat h d = some e) (rv : RV W H S ρ d v) {xs : List D} (he : e = .tup xs ∨ e = .lst xs := by first | exact .inl rfl | exact .inr rfl) : ∃ a, v = .ref a := by
  have key : ∀ d : D, pureD d = true → (∀ xs, d ≠ .tup xs) → (∀ xs, d ≠ .lst xs) → (∀ n, d ≠ .ref n) → dat h d = some e → d = e := fun d hp _ _ _ q => by
    unfold dat at q
    split at q
    · rename_i x g
      have g : (bif pureD d then some d else _) = some x := g
      rw [hp] at g
      cases g
      split at q
      · obtain ⟨_, q⟩ := bif_some q; cases q; rfl
      · cases q
    · cases q
  cases rv with
  | tup _ _ => exact ⟨_, rfl⟩
  | lst _ _ _ => exact ⟨_, rfl⟩
  | ref _ => exact ⟨_, rfl⟩
  | dicK _ _ _ => exact ⟨_, rfl⟩
  | dicT _ _ _ => exact ⟨_, rfl⟩
  | ins _ _ _ => exact ⟨_, rfl⟩
  | frl _ _ => exact ⟨_, rfl⟩
  | kd _ => exact ⟨_, rfl⟩
  | non => have := key .non rfl (fun _ z => nomatch z) (fun _ z => nomatch z) (fun _ z => nomatch z) hd; subst this; rcases he with z | z <;> cases z
  | bl b => have := key (.bl b) rfl (fun _ z => nomatch z) (fun _ z => nomatch z) (fun _ z => nomatch z) hd; subst this; rcases he with z | z <;> cases z
  | int b => have := key (.int b) rfl (fun _ z => nomatch z) (fun _ z => nomatch z) (fun _ z => nomatch z) hd; subst this; rcases he with z | z <;> cases z
  | str b => have := key (.str b) rfl (fun _ z => nomatch z) (fun _ z => nomatch z) (fun _ z => nomatch z) hd; subst this; rcases he with z | z <;> cases z
theorem repr_ok (xw : XW W X) (gd : X.A.guards = some []) (I : Inv X pins σ H s) (R : RH W H S ρ h) {d e : D} {v : L2.V} {u : Value} {Q : VK} (hd : dat h d = some e) (rv : RV W H S ρ d v) (ru : RelV v u) (ha : ∃ a, v = .ref a)
    (hc : ((toPy e).showable && Nat.ble (toPy e).shown.length most) = true) (hq : Q (.str (toPy e).shown) H) : wpAny (model X.prog X.w) X.A (PySem.call (.builtin "repr") [u]) (EP X pins σ Q) X.xe s := by
  obtain ⟨a, rfl⟩ := ha
  cases ru
  obtain ⟨dp, _, n, hn⟩ := dat_dp xw.K R hd rv
  rw [Bool.and_eq_true] at hc
  obtain ⟨h1, h2⟩ := lay_of hn
  obtain ⟨as, r⟩ := L2.Dp.reads I _ _ _ dp rfl
  have hb : n ≤ 60 := by
    unfold dat at hd
    split at hd
    · split at hd
      · rename_i m hm
        obtain ⟨q1, q2⟩ := bif_some hd
        cases q2
        rw [hn] at hm; cases hm
        exact Nat.le_of_ble_eq_true q1
      · cases hd
    · cases hd
  refine repr_of_reads' r hc.1 (PyData.noDict_hsm (PyData.hasDict_of_canLay _ h1)) gd ?_ (fun b o e => e) (fun h' u tk hk => ⟨L2.V.str (toPy e).shown, H, I.kept (t' := tk) hk, ⟨u, rfl⟩, hq⟩) (ble_most hc.2)
  have := xw.un
  rw [h2]
  omega
theorem bltR (xw : XW W X) (b : Bt) (gd : b = .repr → X.A.guards = some []) (z : Bool) : CallR X (bOf b) (rC W (bltD b z)) := by
  rintro pins s σ H xs us Q I rx ⟨S, ρ, h, ds, r, h', Rd, R, hf, wq⟩
  unfold bltD at hf
  split at hf
  · obtain ⟨hc, hf⟩ := bif_some hf
    obtain ⟨v, rfl, rv⟩ := one_of rfl Rd
    cases hf; cases rv
    exact L2.call_len_str pins s σ H _ us Q I rx ⟨_, rfl, ble_most hc, wish_here R wq (.int _)⟩
  · split at hf
    · rename_i ys hy
      obtain ⟨v, rfl, rv⟩ := one_of rfl Rd
      cases hf
      obtain ⟨a, vs, rfl, r2, c⟩ := seqR hy R rv
      refine L2.call_len_seq pins s σ H _ us Q I rx ⟨a, vs, rfl, ?_, by rw [← r2.len]; exact wish_here R wq (.int _)⟩
      rcases c with c | c
      · exact .inl (xw.sq c)
      · exact .inr (c.sq xw.K)
    · cases hf
  · obtain ⟨v, rfl, rv⟩ := one_of rfl Rd
    cases hf; cases rv
    exact L2.call_abs pins s σ H _ us Q I rx ⟨_, rfl, wish_here R wq (.int _)⟩
  · cases hf
    cases Rd with
    | cons a t => cases t with
      | cons b t => cases t; cases a; cases b; exact L2.call_max2 xw.calm pins s σ H _ us Q I rx ⟨_, _, rfl, wish_here R wq (.int _)⟩
  · cases hf
    cases Rd with
    | cons a t => cases t with
      | cons b t => cases t; cases a; cases b; exact L2.call_min2 xw.calm pins s σ H _ us Q I rx ⟨_, _, rfl, wish_here R wq (.int _)⟩
  · split at hf
    · rename_i ys hy
      obtain ⟨v, rfl, rv⟩ := one_of rfl Rd
      split at hf
      · rename_i i l hi
        cases hf
        obtain ⟨a, vs, rfl, e, r2⟩ := listR hy R rv
        have ev := intsR hi r2
        subst ev
        refine L2.cr_max xw.calm pins s σ H _ us Q I rx ⟨a, _, rfl, SqL.of e, by simp, fun m hm hy => ?_⟩
        obtain ⟨h1, h2⟩ := maxI_in i l
        have : m = maxI i l := Int.le_antisymm (h2 m hm) (hy _ h1)
        rw [this]
        exact wish_here R wq (.int _)
      · cases hf
    · cases hf
  · split at hf
    · rename_i ys hy
      obtain ⟨v, rfl, rv⟩ := one_of rfl Rd
      split at hf
      · rename_i l hi
        cases hf
        obtain ⟨a, vs, rfl, e, r2⟩ := listR hy R rv
        have ev := intsR hi r2
        subst ev
        exact L2.cr_sum xw.calm pins s σ H _ us Q I rx ⟨a, _, rfl, SqL.of e, by rw [← sumI_eq]; exact wish_here R wq (.int _)⟩
      · cases hf
    · cases hf
  · split at hf
    · rename_i ys hy
      obtain ⟨v, rfl, rv⟩ := one_of rfl Rd
      split at hf
      · rename_i l hi
        cases hf
        obtain ⟨a, vs, rfl, e, r2⟩ := listR hy R rv
        have ev := blsR hi r2
        subst ev
        exact L2.cr_all xw.calm pins s σ H _ us Q I rx ⟨a, _, rfl, SqL.of e, by rw [← allB_eq]; exact wish_here R wq (.bl _)⟩
      · cases hf
    · cases hf
  · split at hf
    · rename_i ys hy
      obtain ⟨v, rfl, rv⟩ := one_of rfl Rd
      split at hf
      · rename_i l hi
        cases hf
        obtain ⟨a, vs, rfl, e, r2⟩ := listR hy R rv
        have ev := blsR hi r2
        subst ev
        exact L2.cr_any xw.calm pins s σ H _ us Q I rx ⟨a, _, rfl, SqL.of e, by rw [← anyB_eq]; exact wish_here R wq (.bl _)⟩
      · cases hf
    · cases hf
  · split at hf
    · rename_i ys hy
      obtain ⟨v, rfl, rv⟩ := one_of rfl Rd
      cases hf
      obtain ⟨a, vs, rfl, r2, c⟩ := seqR hy R rv
      refine L2.call_tuple_of pins s σ H _ us Q I rx ⟨a, vs, rfl, ?_⟩
      rcases c with c | c
      · exact .inl ⟨xw.sq c, fun p hp => wish_tup R wq r2 hp⟩
      · exact .inr ⟨c.sq xw.K, wish_here R wq (.tup c r2)⟩
    · cases hf
  · split at hf
    · rename_i ys hy
      obtain ⟨v, rfl, rv⟩ := one_of rfl Rd
      obtain ⟨rfl, rfl⟩ := some_pair hf
      obtain ⟨a, vs, rfl, r2, c⟩ := seqR hy R rv
      refine L2.call_list_of pins s σ H _ us Q I rx ⟨a, vs, rfl, ?_, fun p hp => wish_lst R wq r2 hp⟩
      rcases c with c | c
      · exact .inl (xw.sq c)
      · exact .inr (c.sq xw.K)
    · cases hf
  · obtain ⟨v, rfl, rv⟩ := one_of rfl Rd
    cases hf; cases rv
    exact L2.call_int1 pins s σ H _ us Q I rx (.inl ⟨_, rfl, wish_here R wq (.int _)⟩)
  · obtain ⟨v, rfl, rv⟩ := one_of rfl Rd
    cases hf; cases rv
    refine L2.call_int1 pins s σ H _ us Q I rx (.inr ⟨_, rfl, ?_⟩)
    have := wish_here R wq (.int _)
    rename_i k
    cases k <;> exact this
  · rename_i d
    obtain ⟨v, rfl, rv⟩ := one_of rfl Rd
    obtain ⟨u, rfl, ru⟩ := L2.vals1 rx
    split at hf
    · rename_i xs hd
      obtain ⟨hc, hf⟩ := bif_some hf
      cases hf
      exact repr_ok xw (gd rfl) I R hd rv ru (dat_ref hd rv) hc (wish_here R wq (.str _))
    · rename_i xs hd
      obtain ⟨hc, hf⟩ := bif_some hf
      cases hf
      exact repr_ok xw (gd rfl) I R hd rv ru (dat_ref hd rv) hc (wish_here R wq (.str _))
    · cases hf
  · cases hf
/-- methods -/
def rM (W : Wd) (b : Bm) : L2.V → List L2.V → HH → VK → Prop := fun x xs H Q => ∃ S ρ h d ds r h', RV W H S ρ d x ∧ RVs W H S ρ ds xs ∧ RH W H S ρ h ∧ bmD b d ds h = some (r, h') ∧ Wish W S ρ h H r h' Q
def mOf : Bm → String
  | .append => "list.append" | .extend => "list.extend" | .pop => "list.pop" | .get1 => "dict.get" | .get2 => "dict.get" | .setdefault => "dict.setdefault" | .join => "str.join"
theorem wish_set {n a o o' ho' d v} {Q : VK} (R : RH W H S ρ h) (wq : Wish W S ρ h H d (h.set n o') Q) (hn : h.get n = some o) (q : ρ n = some a) (ro : ∀ H', (∀ b u, S b → H b = some u → H' b = some u) → RO W H' S ρ a o' ho')
    (rd : ∀ H', RV W H' S ρ d v) : Q v (upd H a ho') := by
  obtain ⟨g, R'⟩ := stored (o' := o') (ho' := ho') R hn q ro
  exact wq _ _ _ _ g R' (rd _)
theorem bmR (xw : XW W X) (b : Bm) : MtR X (mOf b) (rM W b) := by
  rintro pins s σ H x xs v us Q I rx rs ⟨S, ρ, h, d, ds, r, h', Rd, Rs, R, hf, wq⟩
  unfold bmD at hf
  split at hf
  · rename_i n e
    split at hf
    · rename_i ys hn
      obtain ⟨hc, hf⟩ := bif_some hf
      cases hf
      obtain ⟨y, rfl, ry⟩ := one_of rfl Rs
      cases Rd with
      | @ref n a q =>
        obtain ⟨a', ho, q', ea, ns, ro⟩ := R.lv _ _ hn
        rw [q] at q'; cases q'
        cases ro with
        | lst rv =>
          have hl := ble_most hc
          refine L2.mt_append pins s σ H _ _ v us Q I rx rs ⟨a, _, y, rfl, rfl, ea, by rw [← rv.len]; omega, ?_⟩
          exact wish_set R wq hn q (fun H' st => .lst ((rv.append (.cons ry .nil)).mono' (fun _ z => z) st fun _ _ e => e)) fun _ => .non
    · cases hf
  · rename_i n e
    split at hf
    · rename_i ys zs hn hz
      obtain ⟨hc, hf⟩ := bif_some hf
      cases hf
      obtain ⟨y, rfl, ry⟩ := one_of rfl Rs
      rw [Bool.and_eq_true] at hc
      cases Rd with
      | @ref n a q =>
        obtain ⟨a', ho, q', ea, ns, ro⟩ := R.lv _ _ hn
        rw [q] at q'; cases q'
        cases ro with
        | lst rv =>
          obtain ⟨b, ws, rfl, eb, rw'⟩ := listR hz R ry
          have hl := ble_most hc.1
          refine L2.mt_extend pins s σ H _ _ v us Q I rx rs ⟨a, b, _, ws, rfl, rfl, ea, eb, by rw [← rv.len, ← rw'.len]; exact hl, ?_⟩
          exact wish_set R wq hn q (fun H' st => .lst ((rv.append rw').mono' (fun _ z => z) st fun _ _ e => e)) fun _ => .non
    · cases hf
  · rename_i d k
    split at hf
    · rename_i t kvs hd
      obtain ⟨hk, hf⟩ := bif_some hf
      cases hf
      obtain ⟨y, rfl, ry⟩ := one_of rfl Rs
      cases rs with
      | cons r1 r2 =>
        cases r2
        exact dGet1 xw I R hd hk Rd ry rx r1 fun z w' s' I' p1 p2 => ⟨z, H, I', p2, wish_here R wq p1⟩
    · cases hf
  · rename_i kvs k e
    cases hf
    cases Rs with
    | cons q1 q2 => cases q2 with
      | cons q3 q4 =>
        cases q4
        cases q1
        cases rs with
        | cons r1 r2 => cases r2 with
          | cons r3 r4 =>
            cases r4
            cases Rd with
            | kd kd =>
              obtain ⟨hs, es, n, hl, hk, hx⟩ := kd
              cases rx
              obtain ⟨t, rfl⟩ := r1
              rw [← xw.K] at hl hx
              rw [← xw.w] at hk
              have hm := PySem.W.mapOf_K (prog := X.prog) (w := X.w) I.kIn hl hk
              rcases hx k with ⟨h1, h2⟩ | ⟨d, v, u, h1, h2, h3, h4⟩
              · refine call_meetsIn PySem.F.slot_dict_get hm.typeIs PySem.F.entry_dict_get (PySem.F.args_dict_get_3 _ _ _) (meets_dict_get_default (strKind X.prog X.w) _ (strKind_is X.prog X.w k t) hs _) ⟨_, hm, ?_⟩
                rw [PySem.W.find_K hl h2]
                refine ⟨_, H, I.tok _, r3, ?_⟩
                rw [h1] at wq
                exact wish_here R wq q3
              · refine call_meetsIn PySem.F.slot_dict_get hm.typeIs PySem.F.entry_dict_get (PySem.F.args_dict_get_3 _ _ _) (meets_dict_get_default (strKind X.prog X.w) _ (strKind_is X.prog X.w k t) hs _) ⟨_, hm, ?_⟩
                rw [PySem.W.find_K hl h2]
                refine ⟨_, H, I.tok _, h3, ?_⟩
                rw [h1] at wq
                exact wish_here R wq (h4.rv _ _ _ _)
  · rename_i d k e
    split at hf
    · rename_i t kvs hd
      obtain ⟨hk, hf⟩ := bif_some hf
      cases hf
      cases Rs with
      | cons q1 q2 => cases q2 with
        | cons q3 q4 =>
          cases q4
          cases rs with
          | cons r1 r2 => cases r2 with
            | cons r3 r4 =>
              cases r4
              exact dGet2 xw I R hd hk Rd q1 q3 rx r1 r3 fun z w' s' I' p1 p2 => ⟨z, H, I', p2, wish_here R wq p1⟩
    · cases hf
  · cases hf
end
end Ev
end
section
set_option Elab.async false
set_option linter.all false
/-! Ev11: expressions by their evaluation (each construct once). -/
namespace Ev
open PySem
open L2 (upd upd_same upd_ne ne_of ne_of_none Cx VK OpR SqL SqT Key kV Inv valV putK RelV HOk ObjOk IxR SlR TruR PSet PGet CallR MtR EP PE PT PA PW TE TT TA PO)

section
variable {W : Wd} {H H' : HH} {S S' : Addr → Prop} {ρ ρ' : Rho} {h h' : Mm} {X : Cx} {pins : List (Addr × Obj)} {σ : L2.St} {s : Shared} {A : Around} {E : Value → Shared → Prop}
abbrev Fe := Env → Mm → Option (D × Mm)
abbrev Fc := Env → Mm → Option (Bool × Mm)
abbrev Fa := Env → Mm → Option (List D × Mm)
theorem _root_.L2.PE.sub {e : Expr} {t t' : TE} (p : PE X e t) (q : ∀ σ H Q, t' σ H Q → t σ H Q) : PE X e t' := ⟨fun pins s σ H Q I hw => p.run pins s σ H Q I (q σ H Q hw)⟩
theorem _root_.L2.PT.sub {e : Expr} {t t' : TT} (p : PT X e t) (q : ∀ σ H Q, t' σ H Q → t σ H Q) : PT X e t' := ⟨fun pins s σ H Q I hw => p.run pins s σ H Q I (q σ H Q hw)⟩
theorem _root_.L2.PA.sub {es : List Expr} {t t' : TA} (p : PA X es t) (q : ∀ σ H Q, t' σ H Q → t σ H Q) : PA X es t' := ⟨fun pos pins s σ H Q I hw => p.run pos pins s σ H Q I (q σ H Q hw)⟩
/-- the parts of an answer -/
theorem opt2 {α β γ : Type} {o : Option (α × β)} {f : α → β → Option γ} {r : γ} (e : (match o with | some (x, h1) => f x h1 | none => none) = some r) : ∃ x h1, o = some (x, h1) ∧ f x h1 = some r := by
  cases o with
  | none => cases e
  | some p => exact ⟨p.1, p.2, rfl, e⟩
theorem Wish.pre {d h1 h' Q H1 S1 ρ1} (g : Go S ρ h H S1 ρ1 h1 H1) (w : Wish W S ρ h H d h' Q) : Wish W S1 ρ1 h1 H1 d h' Q := fun S' ρ' H' v g' R' r' => w S' ρ' H' v (g.trans g') R' r'

theorem snd_var {i : Nat} {x : Str} {pos : Pos} (hN : X.N[i]? = some x) (hv : L2.Vis X.env.scope x) (hd : (x == ("__debug__" : Str)) = false) (hcd : (x == ("__classdict__" : Str)) = false) :
    PE X (.Name x pos) (tE W fun env h => match getE env i with | some d => some (d, h) | none => none) := by
  refine (L2.pe_var hN hv hd hcd).sub ?_
  rintro σ H Q ⟨env, S, ρ, h, d, h', re, R, hf, wq⟩
  try dsimp only at hf
  cases e : getE env i with
  | none => rw [e] at hf; cases hf
  | some x =>
    rw [e] at hf; cases hf
    obtain ⟨v, e1, r⟩ := re.at_ i _ e
    exact ⟨v, e1, wish_here R wq r⟩
theorem snd_con {e : Expr} {v : L2.V} {d : D} (p : PE X e (L2.tC v)) (r : ∀ H S ρ, RV W H S ρ d v) : PE X e (tE W fun _ h => some (d, h)) := by
  refine p.sub ?_
  rintro σ H Q ⟨env, S, ρ, h, d', h', re, R, hf, wq⟩
  try dsimp only at hf
  cases hf
  exact wish_here R wq (r _ _ _)
theorem snd_bin {a b : Expr} {pos : Pos} {fa fb : Fe} {o : Op} {z : Bool} (xw : XW W X) (ha : PE X a (tE W fa)) (hb : PE X b (tE W fb)) :
    PE X (.BinOp a (opOf o) b pos) (tE W fun env h => match fa env h with | some (x, h1) => (match fb env h1 with | some (y, h2) => binD o z x y h2 | none => none) | none => none) := by
  refine (L2.pe_op (binR xw o z) ha hb).sub ?_
  rintro σ H Q ⟨env, S, ρ, h, d, h', re, R, hf, wq⟩
  try dsimp only at hf
  split at hf
  rotate_left
  · cases hf
  rename_i x h1 ea
  split at hf
  rotate_left
  · cases hf
  rename_i y h2 eb
  refine ⟨env, S, ρ, h, x, h1, re, R, ea, fun S1 ρ1 H1 v1 g1 R1 r1 => ?_⟩
  refine ⟨env, S1, ρ1, h1, y, h2, re.go g1 R, R1, eb, fun S2 ρ2 H2 v2 g2 R2 r2 => ?_⟩
  exact ⟨S2, ρ2, h2, x, y, d, h', r1.go g2 R1, r2, R2, hf, Wish.pre (g1.trans g2) wq⟩
theorem snd_neg {a : Expr} {pos : Pos} {fa : Fe} (ha : PE X a (tE W fa)) :
    PE X (.UnaryOp .USub a pos) (tE W fun env h => match fa env h with | some (.int i, h1) => some (.int (-i), h1) | _ => none) := by
  refine (L2.pe_un L2.un_neg ha).sub ?_
  rintro σ H Q ⟨env, S, ρ, h, d, h', re, R, hf, wq⟩
  try dsimp only at hf
  split at hf
  · rename_i i h1 ea
    cases hf
    refine ⟨env, S, ρ, h, _, _, re, R, ea, fun S1 ρ1 H1 v1 g1 R1 r1 => ?_⟩
    cases r1
    exact ⟨_, rfl, wq _ _ _ _ g1 R1 (.int _)⟩
  · cases hf
theorem tq_cmp {fa fb : Fe} {o : Cm} {σ : L2.St} {H : HH} {R0 : Bool → HH → Prop} {Q : VK} (hQ : ∀ k H, R0 k H → Q (.bl k) H)
    (t : ∃ env S ρ h k h', RE W H S ρ env σ ∧ RH W H S ρ h ∧ (match fa env h with | some (x, h1) => (match fb env h1 with | some (y, h2) => (match cmpD o x y h2 with | some k => some (k, h2) | none => none) | none => none) | none => none) = some (k, h') ∧
      ∀ S' ρ' H', Go S ρ h H S' ρ' h' H' → RH W H' S' ρ' h' → R0 k H') : L2.tOp (rQ W (cmpD o)) (tE W fa) (tE W fb) σ H Q := by
  obtain ⟨env, S, ρ, h, k, h', re, R, hf, wq⟩ := t
  try dsimp only at hf
  split at hf
  rotate_left
  · cases hf
  rename_i x h1 ea
  split at hf
  rotate_left
  · cases hf
  rename_i y h2 eb
  refine ⟨env, S, ρ, h, x, h1, re, R, ea, fun S1 ρ1 H1 v1 g1 R1 r1 => ?_⟩
  refine ⟨env, S1, ρ1, h1, y, h2, re.go g1 R, R1, eb, fun S2 ρ2 H2 v2 g2 R2 r2 => ?_⟩
  cases ec : cmpD o x y h2 with
  | none => rw [ec] at hf; cases hf
  | some k' =>
    rw [ec] at hf; cases hf
    exact ⟨S2, ρ2, _, x, y, _, r1.go g2 R1, r2, R2, ec, hQ _ _ (wq _ _ _ (g1.trans g2) R2)⟩
theorem snd_cmp {a b : Expr} {pos : Pos} {fa fb : Fe} {o : Cm} (xw : XW W X) (ha : PE X a (tE W fa)) (hb : PE X b (tE W fb)) (hm : behindInMarks (cmOf o) b = false) :
    PE X (.Compare a [cmOf o] [b] pos) (tE W fun env h => match fa env h with | some (x, h1) => (match fb env h1 with | some (y, h2) => (match cmpD o x y h2 with | some k => some (.bl k, h2) | none => none) | none => none) | none => none) := by
  refine (L2.pe_cmpR (cmpR xw o) ha hb hm).sub ?_
  rintro σ H Q ⟨env, S, ρ, h, d, h', re, R, hf, wq⟩
  try dsimp only at hf
  split at hf
  rotate_left
  · cases hf
  rename_i x h1 ea
  split at hf
  rotate_left
  · cases hf
  rename_i y h2 eb
  cases ec : cmpD o x y h2 with
  | none => rw [ec] at hf; cases hf
  | some k =>
    rw [ec] at hf; cases hf
    exact tq_cmp (R0 := fun k H => Q (.bl k) H) (fun _ _ q => q) ⟨env, S, ρ, h, _, _, re, R, by simp [ea, eb, ec], fun S' ρ' H' g R' => wq _ _ _ _ g R' (.bl _)⟩
theorem snd_cmpT {a b : Expr} {pos : Pos} {fa fb : Fe} {o : Cm} (xw : XW W X) (ha : PE X a (tE W fa)) (hb : PE X b (tE W fb)) (hm : behindInMarks (cmOf o) b = false) :
    PT X (.Compare a [cmOf o] [b] pos) (tC W fun env h => match (match fa env h with | some (x, h1) => (match fb env h1 with | some (y, h2) => (match cmpD o x y h2 with | some k => some (D.bl k, h2) | none => none) | none => none) | none => none) with
      | some (d, h1) => (match tru h1 d with | some k => some (k, h1) | none => none) | none => none) := by
  refine (L2.pt_cmpR (cmpR xw o) ha hb hm).sub ?_
  rintro σ H Q ⟨env, S, ρ, h, b', h', re, R, hf, wq⟩
  try dsimp only at hf
  split at hf
  rotate_left
  · cases hf
  rename_i d h0 e0
  split at e0
  rotate_left
  · cases e0
  rename_i x h1 ea
  split at e0
  rotate_left
  · cases e0
  rename_i y h2 eb
  cases ec : cmpD o x y h2 with
  | none => rw [ec] at e0; cases e0
  | some k =>
    rw [ec] at e0; cases e0
    cases hf
    exact tq_cmp (R0 := fun k H => Q k H) (fun _ _ q => ⟨_, rfl, q⟩) ⟨env, S, ρ, h, _, _, re, R, by simp [ea, eb, ec], wq⟩
theorem tq_chn {fa fb fc : Fe} {o o' : Cm} {σ : L2.St} {H : HH} {R0 : Bool → HH → Prop} {Q : VK} (hQ : ∀ k H, R0 k H → Q (.bl k) H)
    (t : ∃ env S ρ h k h', RE W H S ρ env σ ∧ RH W H S ρ h ∧ (match fa env h with
    | some (x, h1) => (match fb env h1 with
      | some (y, h2) => (match cmpD o x y h2 with
        | some true => (match fc env h2 with
          | some (w, h3) => (match cmpD o' y w h3 with
            | some k => some (k, h3)
            | none => none)
          | none => none)
        | some false => some (false, h2)
        | none => none)
      | none => none)
    | none => none) = some (k, h') ∧
      ∀ S' ρ' H', Go S ρ h H S' ρ' h' H' → RH W H' S' ρ' h' → R0 k H') : L2.tChain (rQ W (cmpD o)) (rQ W (cmpD o')) (tE W fa) (tE W fb) (tE W fc) σ H Q := by
  obtain ⟨env, S, ρ, h, k, h', re, R, hf, wq⟩ := t
  try dsimp only at hf
  split at hf
  rotate_left
  · cases hf
  rename_i x h1 ea
  split at hf
  rotate_left
  · cases hf
  rename_i y h2 eb
  refine ⟨env, S, ρ, h, x, h1, re, R, ea, fun S1 ρ1 H1 v1 g1 R1 r1 => ?_⟩
  refine ⟨env, S1, ρ1, h1, y, h2, re.go g1 R, R1, eb, fun S2 ρ2 H2 v2 g2 R2 r2 => ?_⟩
  have g := g1.trans g2
  split at hf
  · rename_i ec
    split at hf
    rotate_left
    · cases hf
    rename_i w h3 ew
    refine ⟨S2, ρ2, h2, x, y, true, r1.go g2 R1, r2, R2, ec, true, rfl, ?_⟩
    rw [if_pos rfl]
    refine ⟨env, S2, ρ2, h2, w, h3, re.go g R, R2, ew, fun S3 ρ3 H3 v3 g3 R3 r3 => ?_⟩
    cases ec' : cmpD o' y w h3 with
    | none => rw [ec'] at hf; cases hf
    | some k' =>
      rw [ec'] at hf; cases hf
      exact ⟨S3, ρ3, _, y, w, k, r2.go g3 R2, r3, R3, ec', hQ _ _ (wq _ _ _ (g.trans g3) R3)⟩
  · rename_i ec
    cases hf
    refine ⟨S2, ρ2, _, x, y, false, r1.go g2 R1, r2, R2, ec, false, rfl, ?_⟩
    rw [if_neg Bool.false_ne_true]
    exact hQ _ _ (wq _ _ _ g R2)
  · cases hf
theorem snd_chn {a b c : Expr} {pos : Pos} {fa fb fc : Fe} {o o' : Cm} (xw : XW W X) (ha : PE X a (tE W fa)) (hb : PE X b (tE W fb)) (hc : PE X c (tE W fc)) (hm : lastMarks [cmOf o, cmOf o'] [b, c] = false) :
    PE X (.Compare a [cmOf o, cmOf o'] [b, c] pos) (tE W fun env h => match fa env h with
    | some (x, h1) => (match fb env h1 with
      | some (y, h2) => (match cmpD o x y h2 with
        | some true => (match fc env h2 with
          | some (w, h3) => (match cmpD o' y w h3 with
            | some k => some (.bl k, h3)
            | none => none)
          | none => none)
        | some false => some (.bl false, h2)
        | none => none)
      | none => none)
    | none => none) := by
  refine (L2.pe_chain (cmpR xw o) (cmpR xw o') ha hb hc hm).sub ?_
  rintro σ H Q ⟨env, S, ρ, h, d, h', re, R, hf, wq⟩
  try dsimp only at hf
  split at hf
  rotate_left
  · cases hf
  rename_i x h1 ea
  split at hf
  rotate_left
  · cases hf
  rename_i y h2 eb
  refine tq_chn (R0 := fun k H => Q (.bl k) H) (fun _ _ q => q) ?_
  split at hf
  · rename_i ec
    split at hf
    rotate_left
    · cases hf
    rename_i w h3 ew
    cases ec' : cmpD o' y w h3 with
    | none => rw [ec'] at hf; cases hf
    | some k' =>
      rw [ec'] at hf; cases hf
      exact ⟨env, S, ρ, h, k', _, re, R, by simp [ea, eb, ec, ew, ec'], fun S' ρ' H' g R' => wq _ _ _ _ g R' (.bl _)⟩
  · rename_i ec
    cases hf
    exact ⟨env, S, ρ, h, false, _, re, R, by simp [ea, eb, ec], fun S' ρ' H' g R' => wq _ _ _ _ g R' (.bl _)⟩
  · cases hf
theorem snd_chnT {a b c : Expr} {pos : Pos} {fa fb fc : Fe} {o o' : Cm} (xw : XW W X) (ha : PE X a (tE W fa)) (hb : PE X b (tE W fb)) (hc : PE X c (tE W fc)) (hm : lastMarks [cmOf o, cmOf o'] [b, c] = false) :
    PT X (.Compare a [cmOf o, cmOf o'] [b, c] pos) (tC W fun env h => match (match fa env h with
    | some (x, h1) => (match fb env h1 with
      | some (y, h2) => (match cmpD o x y h2 with
        | some true => (match fc env h2 with
          | some (w, h3) => (match cmpD o' y w h3 with
            | some k => some (D.bl k, h3)
            | none => none)
          | none => none)
        | some false => some (.bl false, h2)
        | none => none)
      | none => none)
    | none => none) with | some (d, h1) => (match tru h1 d with | some k => some (k, h1) | none => none) | none => none) := by
  refine (L2.pt_chain (cmpR xw o) (cmpR xw o') ha hb hc hm).sub ?_
  rintro σ H Q ⟨env, S, ρ, h, b', h', re, R, hf, wq⟩
  try dsimp only at hf
  split at hf
  rotate_left
  · cases hf
  rename_i d h0 e0
  split at e0
  rotate_left
  · cases e0
  rename_i x h1 ea
  split at e0
  rotate_left
  · cases e0
  rename_i y h2 eb
  refine tq_chn (R0 := fun k H => Q k H) (fun _ _ q => ⟨_, rfl, q⟩) ?_
  split at e0
  · rename_i ec
    split at e0
    rotate_left
    · cases e0
    rename_i w h3 ew
    cases ec' : cmpD o' y w h3 with
    | none => rw [ec'] at e0; cases e0
    | some k' =>
      rw [ec'] at e0; cases e0; cases hf
      exact ⟨env, S, ρ, h, _, _, re, R, by simp [ea, eb, ec, ew, ec'], wq⟩
  · rename_i ec
    cases e0; cases hf
    exact ⟨env, S, ρ, h, false, _, re, R, by simp [ea, eb, ec], wq⟩
  · cases e0
theorem snd_tru {a : Expr} {fa : Fe} (xw : XW W X) (ha : PE X a (tE W fa)) (hp : ∀ whole, isTrue a X.env whole = (do let v ← whole; standAt a.pos; holding [v] (truthy v))) :
    PT X a (tC W fun env h => match fa env h with | some (d, h1) => (match tru h1 d with | some k => some (k, h1) | none => none) | none => none) := by
  refine (L2.pt_truth ha hp).sub ?_
  rintro σ H Q ⟨env, S, ρ, h, b', h', re, R, hf, wq⟩
  try dsimp only at hf
  split at hf
  rotate_left
  · cases hf
  rename_i d h1 ea
  refine ⟨env, S, ρ, h, d, h1, re, R, ea, fun S1 ρ1 H1 v1 g1 R1 r1 => ?_⟩
  cases et : tru h1 d with
  | none => rw [et] at hf; cases hf
  | some k =>
    rw [et] at hf; cases hf
    exact ⟨_, truV xw R1 r1 et, wq _ _ _ g1 R1⟩
theorem snd_not {a : Expr} {pos : Pos} {fa : Fc} (ha : PT X a (tC W fa)) : PT X (.UnaryOp .Not a pos) (tC W fun env h => match fa env h with | some (k, h1) => some (!k, h1) | none => none) := by
  refine (L2.pt_not ha).sub ?_
  rintro σ H Q ⟨env, S, ρ, h, b', h', re, R, hf, wq⟩
  try dsimp only at hf
  split at hf
  rotate_left
  · cases hf
  rename_i k h1 ea
  cases hf
  exact ⟨env, S, ρ, h, k, _, re, R, ea, fun S1 ρ1 H1 g1 R1 => wq _ _ _ g1 R1⟩
theorem snd_ite {c a b : Expr} {pos : Pos} {fc : Fc} {fa fb : Fe} (hc : PT X c (tC W fc)) (ha : PE X a (tE W fa)) (hb : PE X b (tE W fb)) :
    PE X (.IfExp c a b pos) (tE W fun env h => match fc env h with | some (true, h1) => fa env h1 | some (false, h1) => fb env h1 | none => none) := by
  refine (L2.pe_ifExp hc ha hb).sub ?_
  rintro σ H Q ⟨env, S, ρ, h, d, h', re, R, hf, wq⟩
  try dsimp only at hf
  split at hf
  · rename_i h1 ec
    refine ⟨env, S, ρ, h, true, h1, re, R, ec, fun S1 ρ1 H1 g1 R1 => ?_⟩
    show tE W fa σ H1 Q
    exact ⟨env, S1, ρ1, h1, d, h', re.go g1 R, R1, hf, Wish.pre g1 wq⟩
  · rename_i h1 ec
    refine ⟨env, S, ρ, h, false, h1, re, R, ec, fun S1 ρ1 H1 g1 R1 => ?_⟩
    show tE W fb σ H1 Q
    exact ⟨env, S1, ρ1, h1, d, h', re.go g1 R, R1, hf, Wish.pre g1 wq⟩
  · cases hf
/-! ### argument lists -/
theorem snd_nil : PA X [] (tEs W fun _ h => some ([], h)) := by
  refine L2.pa_nil.sub ?_
  rintro σ H Q ⟨env, S, ρ, h, ds, h', re, R, hf, wq⟩
  try dsimp only at hf
  cases hf
  exact wq _ _ _ _ .refl R .nil
theorem snd_cons {e : Expr} {es : List Expr} {fe : Fe} {fs : Fa} (he : PE X e (tE W fe)) (hs : PA X es (tEs W fs)) (hst : starEach (e :: es) X.env = (false, eval e X.env) :: starEach es X.env) :
    PA X (e :: es) (tEs W fun env h => match fe env h with | some (d, h1) => (match fs env h1 with | some (ds, h2) => some (d :: ds, h2) | none => none) | none => none) := by
  refine (L2.pa_cons he hs hst).sub ?_
  rintro σ H Q ⟨env, S, ρ, h, ds, h', re, R, hf, wq⟩
  try dsimp only at hf
  split at hf
  rotate_left
  · cases hf
  rename_i d h1 ea
  split at hf
  rotate_left
  · cases hf
  rename_i ds' h2 eb
  cases hf
  refine ⟨env, S, ρ, h, d, h1, re, R, ea, fun S1 ρ1 H1 v1 g1 R1 r1 => ?_⟩
  refine ⟨env, S1, ρ1, h1, ds', _, re.go g1 R, R1, eb, fun S2 ρ2 H2 v2 g2 R2 r2 => ?_⟩
  exact wq _ _ _ _ (g1.trans g2) R2 (.cons (r1.go g2 R1) r2)
theorem snd_tup {es : List Expr} {k : Nat} {pos : Pos} {fs : Fa} (hs : PA X es (tEs W fs)) : PE X (.Tuple es k pos) (tE W fun env h => match fs env h with | some (xs, h1) => bif Nat.ble xs.length most then some (.tup xs, h1) else none | none => none) := by
  refine (L2.pe_tup hs).sub ?_
  rintro σ H Q ⟨env, S, ρ, h, d, h', re, R, hf, wq⟩
  try dsimp only at hf
  split at hf
  rotate_left
  · cases hf
  rename_i xs h1 ea
  obtain ⟨hc, hf⟩ := bif_some hf
  cases hf
  refine ⟨env, S, ρ, h, xs, _, re, R, ea, fun S1 ρ1 H1 v1 g1 R1 r1 => ⟨by rw [← r1.len]; exact ble_most hc, fun p hp => wish_tup R1 (Wish.pre g1 wq) r1 hp⟩⟩
theorem snd_lst {es : List Expr} {pos : Pos} {fs : Fa} {z : Bool} (hs : PA X es (tEs W fs)) : PE X (.List es pos) (tE W fun env h => match fs env h with | some (xs, h1) => bif Nat.ble xs.length most then some (mkO z (.lst xs) h1) else none | none => none) := by
  refine (L2.pe_lst hs).sub ?_
  rintro σ H Q ⟨env, S, ρ, h, d, h', re, R, hf, wq⟩
  try dsimp only at hf
  split at hf
  rotate_left
  · cases hf
  rename_i xs h1 ea
  obtain ⟨hc, hf⟩ := bif_some hf
  obtain ⟨rfl, rfl⟩ := some_pair hf
  refine ⟨env, S, ρ, h, xs, h1, re, R, ea, fun S1 ρ1 H1 v1 g1 R1 r1 => ⟨by rw [← r1.len]; exact ble_most hc, fun p hp => wish_lst R1 (Wish.pre g1 wq) r1 hp⟩⟩
theorem lkF_ok : ∀ {fs : List (Str × D)} {gs : List (Str × L2.V)} {f : Str}, RFs W H S ρ fs gs → (lkF fs f = none ∧ gs.lookup f = none) ∨ ∃ d v, lkF fs f = some d ∧ gs.lookup f = some v ∧ RV W H S ρ d v
  | _, _, f, .nil => .inl ⟨rfl, rfl⟩
  | _, _, f, .cons (x := x) a t => by
    by_cases e : x = f
    · subst e
      exact .inr ⟨_, _, by simp [lkF], by simp [List.lookup], a⟩
    · have e' : (f == x) = false := by simpa using Ne.symm e
      rcases lkF_ok (f := f) t with ⟨h1, h2⟩ | ⟨d, v, h1, h2, h3⟩
      · exact .inl ⟨by simp [lkF, e, h1], by simp [List.lookup, e', h2]⟩
      · exact .inr ⟨d, v, by simp [lkF, e, h1], by simp [List.lookup, e', h2], h3⟩
theorem putF_ok {f : Str} {d : D} {v : L2.V} (r : RV W H S ρ d v) : ∀ {fs : List (Str × D)} {gs : List (Str × L2.V)}, RFs W H S ρ fs gs → RFs W H S ρ (putF f d fs) (L2.putF f v gs)
  | _, _, .nil => .cons r .nil
  | _, _, .cons (x := x) a t => by
    by_cases e : x = f
    · subst e
      simp only [putF, L2.putF, if_true]
      exact .cons r t
    · simp only [putF, L2.putF, if_neg e]
      exact .cons a (putF_ok r t)
theorem fs_len : ∀ {fs : List (Str × D)} {gs : List (Str × L2.V)}, RFs W H S ρ fs gs → fs.length = gs.length
  | _, _, .nil => rfl
  | _, _, .cons _ t => by simp [fs_len t]
theorem snd_fld {o : Expr} {f : Str} {pos : Pos} {fo : Fe} {P : Prg} (xw : XW W X) (ho : PE X o (tE W fo)) (hb : attributeBase o f X.env (eval o X.env) = eval o X.env)
    (hcl : ∀ c k, P.cls c = some k → L2.Cls W.K (W.cA c) ∧ ∀ g ∈ k.flds, L2.NoAttr W.K (W.cA c) g) :
    PE X (.Attribute o f pos) (tE W fun env h => match fo env h with
    | some (x, h1) => (match insOf h1 x with
      | some (c, fs) => (match P.cls c with
        | some k => bif k.flds.contains f then (match lkF fs f with
          | some d => some (d, h1)
          | none => none) else none
        | none => none)
      | none => none)
    | none => none) := by
  refine (L2.pe_fld ho hb).sub ?_
  rintro σ H Q ⟨env, S, ρ, h, d, h', re, R, hf, wq⟩
  try dsimp only at hf
  split at hf
  rotate_left
  · cases hf
  rename_i x h1 ea
  refine ⟨env, S, ρ, h, x, h1, re, R, ea, fun S1 ρ1 H1 v1 g1 R1 r1 => ?_⟩
  split at hf
  · rename_i c fs ei
    split at hf
    · rename_i k ek
      obtain ⟨hc, hf⟩ := bif_some hf
      obtain ⟨a, dx, gs, rfl, e, rf⟩ := insR ei R1 r1
      obtain ⟨hC, hN⟩ := hcl c k ek
      rcases lkF_ok (f := f) rf with ⟨q1, _⟩ | ⟨d', v, q1, q2, q3⟩
      · rw [q1] at hf; cases hf
      · rw [q1] at hf; cases hf
        refine ⟨a, _, dx, gs, v, rfl, e, by rw [xw.K]; exact hC, by rw [xw.K]; exact hN f (by simpa using hc), q2, wq _ _ _ _ g1 R1 q3⟩
    · cases hf
  · cases hf
theorem snd_idx {o i : Expr} {pos : Pos} {fo fi : Fe} (xw : XW W X) (ho : PE X o (tE W fo)) (hi : PE X i (tE W fi)) (hs : L2.PlainIx i) :
    PE X (.Subscript o i pos) (tE W fun env h => match fo env h with | some (x, h1) => (match fi env h1 with | some (y, h2) => (match idxD x y h2 with | some d => some (d, h2) | none => none) | none => none) | none => none) := by
  refine (L2.pe_ix (idxR xw) ho hi hs).sub ?_
  rintro σ H Q ⟨env, S, ρ, h, d, h', re, R, hf, wq⟩
  try dsimp only at hf
  split at hf
  rotate_left
  · cases hf
  rename_i x h1 ea
  split at hf
  rotate_left
  · cases hf
  rename_i y h2 eb
  refine ⟨env, S, ρ, h, x, h1, re, R, ea, fun S1 ρ1 H1 v1 g1 R1 r1 => ?_⟩
  refine ⟨env, S1, ρ1, h1, y, h2, re.go g1 R, R1, eb, fun S2 ρ2 H2 v2 g2 R2 r2 => ?_⟩
  cases ec : idxD x y h2 with
  | none => rw [ec] at hf; cases hf
  | some k =>
    rw [ec] at hf; cases hf
    exact ⟨S2, ρ2, _, x, y, d, r1.go g2 R1, r2, R2, ec, fun v r => wq _ _ _ _ (g1.trans g2) R2 r⟩
abbrev Fp := Env → Mm → Option (Option Int × Mm)
def tP (W : Wd) (f : Fp) : L2.TO := fun σ H Q => ∃ env S ρ h b h', RE W H S ρ env σ ∧ RH W H S ρ h ∧ f env h = some (b, h') ∧ ∀ S' ρ' H', Go S ρ h H S' ρ' h' H' → RH W H' S' ρ' h' → Q b H'
theorem _root_.L2.PO.sub {e : Option Expr} {t t' : L2.TO} (p : PO X e t) (q : ∀ σ H Q, t' σ H Q → t σ H Q) : PO X e t' := by
  cases p with
  | mk run => exact ⟨fun pins s σ H Q I hw => run pins s σ H Q I (q σ H Q hw)⟩
theorem snd_p0 : PO X none (tP W fun _ h => some (none, h)) := by
  refine L2.PO.sub L2.po_none ?_
  rintro σ H Q ⟨env, S, ρ, h, b, h', re, R, hf, wq⟩
  try dsimp only at hf
  cases hf
  exact wq _ _ _ .refl R
theorem snd_p1 {e : Expr} {fe : Fe} (he : PE X e (tE W fe)) : PO X (some e) (tP W fun env h => match fe env h with | some (.int i, h1) => some (some i, h1) | _ => none) := by
  refine L2.PO.sub (L2.po_some he) ?_
  rintro σ H Q ⟨env, S, ρ, h, b, h', re, R, hf, wq⟩
  try dsimp only at hf
  split at hf
  · rename_i i h1 ea
    cases hf
    refine ⟨env, S, ρ, h, _, _, re, R, ea, fun S1 ρ1 H1 v1 g1 R1 r1 => ?_⟩
    cases r1
    exact ⟨_, rfl, wq _ _ _ g1 R1⟩
  · cases hf
theorem snd_sl {o : Expr} {lo hi : Option Expr} {pos p2 : Pos} {fo : Fe} {fl fh : Fp} {z : Bool} (xw : XW W X) (ho : PE X o (tE W fo)) (hl : PO X lo (tP W fl)) (hh : PO X hi (tP W fh)) :
    PE X (.Subscript o (.Slice lo hi none p2) pos) (tE W fun env h => match fo env h with | some (x, h1) => (match fl env h1 with | some (l, h2) => (match fh env h2 with | some (u, h3) => slD z x l u h3 | none => none) | none => none) | none => none) := by
  refine (L2.pe_slice (slR xw z) ho hl hh).sub ?_
  rintro σ H Q ⟨env, S, ρ, h, d, h', re, R, hf, wq⟩
  try dsimp only at hf
  split at hf
  rotate_left
  · cases hf
  rename_i x h1 ea
  split at hf
  rotate_left
  · cases hf
  rename_i l h2 eb
  split at hf
  rotate_left
  · cases hf
  rename_i u h3 ec
  refine ⟨env, S, ρ, h, x, h1, re, R, ea, fun S1 ρ1 H1 v1 g1 R1 r1 => ?_⟩
  refine ⟨env, S1, ρ1, h1, l, h2, re.go g1 R, R1, eb, fun S2 ρ2 H2 g2 R2 => ?_⟩
  refine ⟨env, S2, ρ2, h2, u, h3, re.go (g1.trans g2) R, R2, ec, fun S3 ρ3 H3 g3 R3 => ?_⟩
  exact ⟨S3, ρ3, h3, x, d, h', r1.go (g2.trans g3) R1, R3, hf, Wish.pre ((g1.trans g2).trans g3) wq⟩
end
end Ev
end
section
set_option Elab.async false
set_option linter.all false
/-! Ev12: calls apart. -/
namespace Ev
open PySem
open L2 (upd upd_same upd_ne ne_of ne_of_none Cx VK OpR SqL SqT Key kV Inv valV putK RelV HOk ObjOk IxR SlR TruR PSet PGet CallR MtR EP PE PT PA PW TE TT TA PO)

section
variable {W : Wd} {H H' : HH} {S S' S1 : Addr → Prop} {ρ ρ' ρ1 : Rho} {h h' : Mm}
mutual
theorem RV.pure (s1 : ∀ a, S a → S1 a) : ∀ {d v}, RV W H S ρ d v → pureD d = true → RV W H S1 ρ1 d v
  | _, _, .non, _ => .non
  | _, _, .bl b, _ => .bl b
  | _, _, .int i, _ => .int i
  | _, _, .str x, _ => .str x
  | _, _, .tup t r, p => .tup (t.mono s1 fun _ _ _ e => e) (RVs.pure s1 r p)
  | _, _, .lst s e r, p => .lst (s1 _ s) e (RVs.pure s1 r p)
  | _, _, .dicK s e r, p => .dicK (s1 _ s) e (RKs.pure s1 r p)
  | _, _, .dicT s e r, p => .dicT (s1 _ s) e (RTs.pure s1 r p)
  | _, _, .ins s e r, p => .ins (s1 _ s) e (RFs.pure s1 r p)
  | _, _, .ref _, p => by cases p
  | _, _, .frl t r, p => .frl (t.mono s1 fun _ _ _ e => e) (RVs.pure s1 r p)
  | _, _, .kd k, _ => .kd k
theorem RVs.pure (s1 : ∀ a, S a → S1 a) : ∀ {d v}, RVs W H S ρ d v → pureL d = true → RVs W H S1 ρ1 d v
  | _, _, .nil, _ => .nil
  | _, _, .cons a r, p => by
    simp only [pureL, Bool.and_eq_true] at p
    exact .cons (RV.pure s1 a p.1) (RVs.pure s1 r p.2)
theorem RKs.pure (s1 : ∀ a, S a → S1 a) : ∀ {d v}, RKs W H S ρ d v → pureK d = true → RKs W H S1 ρ1 d v
  | _, _, .nil, _ => .nil
  | _, _, .int a r, p => by
    simp only [pureK, Bool.and_eq_true] at p
    exact .int (RV.pure s1 a p.1.2) (RKs.pure s1 r p.2)
  | _, _, .str a r, p => by
    simp only [pureK, Bool.and_eq_true] at p
    exact .str (RV.pure s1 a p.1.2) (RKs.pure s1 r p.2)
theorem RTs.pure (s1 : ∀ a, S a → S1 a) : ∀ {d v}, RTs W H S ρ d v → pureK d = true → RTs W H S1 ρ1 d v
  | _, _, .nil, _ => .nil
  | _, _, .cons n hd k a u r, p => by
    simp only [pureK, Bool.and_eq_true] at p
    exact .cons n hd (RV.pure s1 k p.1.1) (RV.pure s1 a p.1.2) u (RTs.pure s1 r p.2)
theorem RFs.pure (s1 : ∀ a, S a → S1 a) : ∀ {d v}, RFs W H S ρ d v → pureF d = true → RFs W H S1 ρ1 d v
  | _, _, .nil, _ => .nil
  | _, _, .cons a r, p => by
    simp only [pureF, Bool.and_eq_true] at p
    exact .cons (RV.pure s1 a p.1) (RFs.pure s1 r p.2)
end
theorem NK.pure : ∀ {d k}, NK d k → pureD d = true
  | _, _, .non => rfl
  | _, _, .int _ => rfl
  | _, _, .str _ => rfl
  | _, _, .tnil => rfl
  | _, _, .tcons a r => by
    have h1 := NK.pure a
    have h2 := NK.pure r
    simp only [pureD, pureL] at h2 ⊢
    rw [h1, h2]; rfl
theorem RO.pure {a o ho} (s1 : ∀ a, S a → S1 a) (r : RO W H S ρ a o ho) (p : pureD o.d = true) : RO W H S1 ρ1 a o ho := by
  cases r with
  | lst r => exact .lst (r.pure s1 p)
  | dicK r => exact .dicK (r.pure s1 p)
  | dicT r => exact .dicT (r.pure s1 p)
  | ins r => exact .ins (r.pure s1 p)
/-- what was settled, and all that was live -/
def Sl (S : Addr → Prop) (ρ : Rho) (h : Mm) : Addr → Prop := fun a => S a ∨ Liv ρ h a
theorem mapO_rv {f : D → Option D} (ih : ∀ {d e : D} {v : L2.V}, f d = some e → RV W H S ρ d v → RV W H S1 ρ1 e v) : ∀ {xs ys : List D} {vs : List L2.V}, mapO f xs = some ys → RVs W H S ρ xs vs → RVs W H S1 ρ1 ys vs
  | [], _, _, e, .nil => by cases e; exact .nil
  | d :: r, ys, _, e, .cons a t => by
    simp only [mapO] at e
    split at e
    · split at e
      · cases e
        exact .cons (ih (by assumption) a) (mapO_rv ih (by assumption) t)
      · cases e
    · cases e
theorem mapO_rf {f : D → Option D} (ih : ∀ {d e : D} {v : L2.V}, f d = some e → RV W H S ρ d v → RV W H S1 ρ1 e v) : ∀ {xs ys : List (Str × D)} {vs : List (Str × L2.V)}, mapO (fun p : Str × D => (f p.2).map fun y => (p.1, y)) xs = some ys → RFs W H S ρ xs vs → RFs W H S1 ρ1 ys vs
  | [], _, _, e, .nil => by cases e; exact .nil
  | (x, d) :: r, ys, _, e, .cons a t => by
    simp only [mapO] at e
    split at e
    · rename_i b hb
      split at e
      · cases e
        obtain ⟨y, h1, rfl⟩ := Option.map_eq_some_iff.mp hb
        exact .cons (ih h1 a) (mapO_rf ih (by assumption) t)
      · cases e
    · cases e
theorem mapO_rk {f : D → Option D} (ih : ∀ {d e : D} {v : L2.V}, f d = some e → RV W H S ρ d v → RV W H S1 ρ1 e v) : ∀ {xs ys : List (D × D)} {vs : List (Key × L2.V)}, mapO (fun p : D × D => (f p.2).map fun y => (p.1, y)) xs = some ys → RKs W H S ρ xs vs → RKs W H S1 ρ1 ys vs
  | [], _, _, e, .nil => by cases e; exact .nil
  | (x, d) :: r, ys, _, e, q => by
    simp only [mapO] at e
    split at e
    · rename_i b hb
      split at e
      · cases e
        obtain ⟨y, h1, rfl⟩ := Option.map_eq_some_iff.mp hb
        cases q with
        | int a t => exact .int (ih h1 a) (mapO_rk ih (by assumption) t)
        | str a t => exact .str (ih h1 a) (mapO_rk ih (by assumption) t)
      · cases e
    · cases e
theorem mapO_rt {f : D → Option D} (s1 : ∀ a, S a → S1 a) (ih : ∀ {d e : D} {v : L2.V}, f d = some e → RV W H S ρ d v → RV W H S1 ρ1 e v) : ∀ {xs ys : List (D × D)} {vs : List (NestedKey × Addr × Value)}, mapO (fun p : D × D => (f p.2).map fun y => (p.1, y)) xs = some ys → RTs W H S ρ xs vs → RTs W H S1 ρ1 ys vs
  | [], _, _, e, .nil => by cases e; exact .nil
  | (x, d) :: r, ys, _, e, .cons n hd k a u t => by
    simp only [mapO] at e
    split at e
    · rename_i b hb
      split at e
      · cases e
        obtain ⟨y, h1, rfl⟩ := Option.map_eq_some_iff.mp hb
        exact .cons n hd (k.pure s1 n.pure) (ih h1 a) u (mapO_rt s1 ih (by assumption) t)
      · cases e
    · cases e
/-- the tree of a value, all that is live settled -/
theorem frz_rv (R : RH W H S ρ h) : ∀ (k : Nat) {d e : D} {v : L2.V}, frz k h d = some e → RV W H S ρ d v → RV W H (Sl S ρ h) ρ1 e v
  | 0, d, e, v, hf, r => by
    obtain ⟨h1, h2⟩ := bif_some hf
    cases h2
    exact r.pure (fun _ x => .inl x) h1
  | k + 1, d, e, v, hf, r => by
    have s1 : ∀ a, S a → Sl S ρ h a := fun _ x => .inl x
    have ih : ∀ {d e : D} {v : L2.V}, frz k h d = some e → RV W H S ρ d v → RV W H (Sl S ρ h) ρ1 e v := fun a b => frz_rv R k a b
    rw [frz_succ] at hf
    cases hp : pureD d with
    | true =>
      rw [hp] at hf
      cases hf
      exact r.pure s1 hp
    | false =>
      rw [hp] at hf
      simp only [cond_false] at hf
      split at hf
      · obtain ⟨ys, h1, rfl⟩ := Option.map_eq_some_iff.mp hf
        cases r with | tup t r => exact .tup (t.mono s1 fun _ _ _ e => e) (mapO_rv ih h1 r)
      · obtain ⟨ys, h1, rfl⟩ := Option.map_eq_some_iff.mp hf
        cases r with | lst s q r => exact .lst (s1 _ s) q (mapO_rv ih h1 r)
      · rename_i m
        cases r with
        | @ref n a q =>
          split at hf
          · rename_i xs g
            obtain ⟨ys, h1, rfl⟩ := Option.map_eq_some_iff.mp hf
            obtain ⟨a', ho, q', e', _, ro⟩ := R.lv _ _ g
            rw [q] at q'; cases q'
            cases ro with | lst r => exact .lst (.inr ⟨_, _, g, q⟩) e' (mapO_rv ih h1 r)
          · rename_i t kvs g
            obtain ⟨ys, h1, rfl⟩ := Option.map_eq_some_iff.mp hf
            obtain ⟨a', ho, q', e', _, ro⟩ := R.lv _ _ g
            rw [q] at q'; cases q'
            cases ro with
            | dicK r => exact .dicK (.inr ⟨_, _, g, q⟩) e' (mapO_rk ih h1 r)
            | dicT r => exact .dicT (.inr ⟨_, _, g, q⟩) e' (mapO_rt s1 ih h1 r)
          · rename_i c fs g
            obtain ⟨ys, h1, rfl⟩ := Option.map_eq_some_iff.mp hf
            obtain ⟨a', ho, q', e', _, ro⟩ := R.lv _ _ g
            rw [q] at q'; cases q'
            cases ro with | ins r => exact .ins (.inr ⟨_, _, g, q⟩) e' (mapO_rf ih h1 r)
          · cases hf
      · cases hf
def rho0 : Rho := fun _ => none
theorem liv0 {a : Addr} : ¬ Liv rho0 .nil a := by rintro ⟨n, o, e, q⟩; cases q
theorem rh0 (R : RH W H S ρ h) : RH W H S rho0 .nil := ⟨fun n o e => (by cases e), fun n m a o u e => (by cases e), fun n a e => (by cases e), R.st⟩
/-- behind a call apart: the caller's own objects stand; T: what is settled behind it -/
theorem apart {hf : Mm} {T : Addr → Prop} (R : RH W H S ρ h) (g : Go S rho0 .nil H S' ρ' hf H') (R' : RH W H' S' ρ' hf) (t1 : ∀ a, S' a → T a) (t2 : ∀ a, T a → S' a ∨ Liv ρ' hf a) :
    Go S ρ h H T ρ h H' ∧ RH W H' T ρ h := by
  have fr : ∀ a o, H a = some o → H' a = some o := fun a o e => g.fr a o e liv0
  have new : ∀ a, T a → S a ∨ H a = none := fun a s => by
    rcases t2 a s with q | q
    · rcases g.sB a q with z | z | z
      · exact .inl z
      · exact .inr z
      · exact absurd z liv0
    · rcases g.lb a q with z | z
      · exact absurd z liv0
      · exact .inr z
  refine ⟨⟨fun a s => t1 a (g.sS a s), fun a s => (new a s).elim .inl fun z => .inr (.inl z), fun _ _ e => e, fun a o e _ => fr a o e, fun _ l => .inl l⟩, ⟨fun n o e => ?_, R.inj, R.nx, fun a s => ?_⟩⟩
  · obtain ⟨a, ho, q, ea, ns, ro⟩ := R.lv n o e
    refine ⟨a, ho, q, fr _ _ ea, fun s => ?_, ro.mono' (fun a s => t1 a (g.sS a s)) (fun a o _ e => fr a o e) fun _ _ e => e⟩
    rcases new a s with z | z
    · exact ns z
    · rw [ea] at z; cases z
  · rcases t2 a s with q | q
    · exact R'.st a q
    · obtain ⟨n, o, e, q⟩ := q
      obtain ⟨b, ho, q', eb, _, _⟩ := R'.lv n o e
      rw [q] at q'; cases q'
      exact ⟨ho, eb⟩
/-- a def's promise by its evaluation -/
def spC (W : Wd) (n : Nat) (g : List D → Mm → Option (D × Mm)) : L2.Sp := fun vs H Q _ => vs.length = n ∧ ∃ S ρ h ds d h', RVs W H S ρ ds vs ∧ RH W H S ρ h ∧ g ds h = some (d, h') ∧ Wish W S ρ h H d h' Q
/-- a call in its mode -/
theorem mode_ok {m : Md} {g : List D → Mm → Option (D × Mm)} {n : Nat} {ds vs d Q E} (R : RH W H S ρ h) (r : RVs W H S ρ ds vs) (hn : vs.length = n) (hf : runM m g ds h = some (d, h')) (wq : Wish W S ρ h H d h' Q) : spC W n g vs H Q E := by
  refine ⟨hn, ?_⟩
  cases m with
  | sh => exact ⟨S, ρ, h, ds, d, h', r, R, hf, wq⟩
  | iso =>
    simp only [runM] at hf
    obtain ⟨hp, hf⟩ := bif_some hf
    split at hf
    rotate_left
    · cases hf
    rename_i d1 h1 e1
    split at hf
    rotate_left
    · cases hf
    rename_i e e2
    cases hf
    refine ⟨S, rho0, .nil, ds, d1, h1, r.pure (fun _ x => x) hp, rh0 R, e1, fun S1 ρ1 H1 v g1 R1 r1 => ?_⟩
    obtain ⟨g2, R2⟩ := apart (T := Sl S1 ρ1 h1) R g1 R1 (fun _ x => .inl x) fun _ x => x
    exact wq _ _ _ _ g2 R2 (frz_rv R1 _ e2 r1)
  | liv =>
    simp only [runM] at hf
    obtain ⟨hp, hf⟩ := bif_some hf
    split at hf
    rotate_left
    · cases hf
    rename_i k h1 e1
    split at hf
    rotate_left
    · cases hf
    rename_i o e2
    obtain ⟨hp2, hf⟩ := bif_some hf
    obtain ⟨rfl, rfl⟩ := some_pair hf
    refine ⟨S, rho0, .nil, ds, _, h1, r.pure (fun _ x => x) hp, rh0 R, e1, fun S1 ρ1 H1 v g1 R1 r1 => ?_⟩
    cases r1 with
    | @ref _ a q =>
      obtain ⟨a', ho, q', ea, ns, ro⟩ := R1.lv _ _ e2
      rw [q] at q'; cases q'
      obtain ⟨g2, R2⟩ := apart (T := fun b => S1 b ∨ (Liv ρ1 h1 b ∧ b ≠ a)) R g1 R1 (fun _ x => .inl x) fun _ x => x.elim .inl fun z => .inr z.1
      have nl : ¬ Liv ρ h a := fun ⟨m, u, e, z⟩ => by
        obtain ⟨b, hb, z', eb, _, _⟩ := R.lv m u e
        rw [z] at z'; cases z'
        rcases g1.lb a ⟨_, _, e2, q⟩ with y | y
        · exact liv0 y
        · rw [eb] at y; cases y
      have ha : H a = none := by
        rcases g1.lb a ⟨_, _, e2, q⟩ with y | y
        · exact absurd y liv0
        · exact y
      -- the object is laid as a live one of the caller
      have ro' : RO W H1 (fun b => S1 b ∨ (Liv ρ1 h1 b ∧ b ≠ a)) (rhoN ρ h.nx a) a o ho := ro.pure (fun _ x => .inl x) hp2
      have nsT : ¬ (S1 a ∨ (Liv ρ1 h1 a ∧ a ≠ a)) := fun z => z.elim ns fun z => z.2 rfl
      have fresh : ρ h.nx = none := by
        cases q : ρ h.nx with
        | none => rfl
        | some b => exact absurd (R.nx _ _ q) (Nat.lt_irrefl _)
      have old : ∀ m b, ρ m = some b → rhoN ρ h.nx a m = some b := fun m b q => by
        unfold rhoN
        rw [if_neg (fun z => by rw [z, fresh] at q; cases q)]
        exact q
      have live : ∀ m u b, (h.new o).2.get m = some u → rhoN ρ h.nx a m = some b → (m = h.nx ∧ u = o ∧ b = a) ∨ (h.get m = some u ∧ ρ m = some b) := fun m u b e q => by
        rw [get_new] at e
        by_cases z : h.nx = m
        · rw [if_pos z] at e; cases e
          subst z
          unfold rhoN at q
          rw [if_pos rfl] at q; cases q
          exact .inl ⟨rfl, rfl, rfl⟩
        · rw [if_neg z] at e
          unfold rhoN at q
          rw [if_neg (Ne.symm z)] at q
          exact .inr ⟨e, q⟩
      refine wq (fun b => S1 b ∨ (Liv ρ1 h1 b ∧ b ≠ a)) (rhoN ρ h.nx a) H1 _ ⟨g2.sS, g2.sB, old, g2.fr, fun b l => ?_⟩ ⟨fun m u e => ?_, fun m k b u u' e1 e2 q1 q2 => ?_, fun m b q => ?_, R2.st⟩ (.ref (by unfold rhoN; rw [if_pos rfl]))
      · obtain ⟨m, u, e, z⟩ := l
        rcases live m u b e z with ⟨_, _, rfl⟩ | ⟨e, z⟩
        · exact .inr ha
        · exact .inl ⟨m, u, e, z⟩
      · rw [get_new] at e
        by_cases z : h.nx = m
        · rw [if_pos z] at e; cases e
          subst z
          exact ⟨a, ho, by unfold rhoN; rw [if_pos rfl], ea, nsT, ro'⟩
        · rw [if_neg z] at e
          obtain ⟨b, hb, z1, eb, nb, rb⟩ := R2.lv m u e
          exact ⟨b, hb, old m b z1, eb, nb, rb.mono' (fun _ x => x) (fun _ _ _ e => e) old⟩
      · rcases live m u b e1 q1 with ⟨z1, _, z2⟩ | ⟨e3, q3⟩
        · rcases live k u' b e2 q2 with ⟨z3, _, _⟩ | ⟨e4, q4⟩
          · rw [z1, z3]
          · subst z2; exact absurd ⟨k, u', e4, q4⟩ nl
        · rcases live k u' b e2 q2 with ⟨_, _, z2⟩ | ⟨e4, q4⟩
          · subst z2; exact absurd ⟨m, u, e3, q3⟩ nl
          · exact R.inj m k b u u' e3 e4 q3 q4
      · unfold rhoN at q
        show m < h.nx + 1
        split at q
        · omega
        · have := R.nx m b q; omega
end
end Ev
end
section
set_option Elab.async false
set_option linter.all false
/-! Ev13: forms of the text; and, or; objects that no one tracks. -/
namespace Ev
open PySem
open L2 (upd upd_same upd_ne ne_of ne_of_none Cx VK OpR SqL SqT Key kV Inv valV putK RelV HOk ObjOk IxR SlR TruR PSet PGet CallR MtR EP PE PT PA PW TE TT TA PO)

/-- an expression that is no star, no set display, no slice, no super() -/
def plE : Expr → Bool
  | .Starred _ _ => false
  | .Set _ _ _ => false
  | .Slice _ _ _ _ => false
  | .Call (.Name id _) [] [] _ => id != "super"
  | _ => true
def plC : Expr → Bool
  | .ListComp _ _ _ _ => false
  | .SetComp _ _ _ _ => false
  | .DictComp _ _ _ _ _ => false
  | _ => true
/-- a test by its value -/
def plT : Expr → Bool
  | .UnaryOp .Not _ _ => false
  | .BoolOp _ _ _ => false
  | .IfExp _ _ _ _ => false
  | .Compare _ _ _ _ => false
  | _ => true
theorem star_pl {e : Expr} {es : List Expr} {env : PySem.Env} (h : plE e = true) : starEach (e :: es) env = (false, eval e env) :: starEach es env := by
  cases e <;> first | rfl | cases h
theorem ab_pl {o : Expr} {f : Str} {env : PySem.Env} (h : plE o = true) : attributeBase o f env (eval o env) = eval o env := by
  unfold attributeBase
  split
  · rename_i id p pos
    have : (id != "super") = true := h
    simp only [this, Bool.true_or, if_true]
  · rfl
theorem ix_pl {b : Expr} (h : plE b = true) : L2.PlainIx b := by
  intro o i
  cases b <;> first | rfl | cases h
theorem mk_pl {b : Expr} {op : CmpOp} (h : plE b = true) : behindInMarks op b = false := by
  cases b <;> first | rfl | cases h
theorem fs_pl {e : Expr} {env : PySem.Env} (h : plE e = true) : ∀ x, foldedSetIterable e env x = pure x := by
  intro x
  cases e <;> first | rfl | cases h
theorem tr_pl {e : Expr} {env : PySem.Env} (h : plT e = true) : ∀ whole, isTrue e env whole = (do let v ← whole; standAt e.pos; holding [v] (truthy v)) := by
  intro whole
  cases e with
  | UnaryOp op a p => cases op <;> first | rfl | cases h
  | BoolOp _ _ _ => cases h
  | IfExp _ _ _ _ => cases h
  | Compare _ _ _ _ => cases h
  | _ => rfl
theorem sw_pl {e : Expr} {t : Option Expr} {l : Nat} {env : PySem.Env} (h : plC e = true) : swapsWith e t l env = pure false := by
  cases e <;> first | rfl | cases h
theorem sole_pl {e t : Expr} {l : Nat} {env : PySem.Env} (h : plC e = true) : swapsWithSole [t] e l env = pure false := sw_pl h
def plG : Expr → Bool
  | .Tuple _ _ _ => false
  | .List _ _ => false
  | _ => true
def plV : Expr → Bool
  | .Tuple _ _ _ => false
  | _ => true
theorem ss_pl {e t : Expr} {env : PySem.Env} (h : (plG t || plV e) = true) : swappedStores [t] e env = pure none := by
  rcases Bool.or_eq_true_iff.mp h with q | q
  · cases t <;> first | rfl | cases q
  · cases e <;> first | (cases t <;> rfl) | cases q

section
variable {W : Wd} {H H' : HH} {S S' S1 : Addr → Prop} {ρ ρ' ρ1 : Rho} {h h' : Mm} {p : Addr} {ho : L2.HO}
/-! ### an object that is neither settled nor live -/
theorem Go.upd (g : Go S ρ h H S' ρ' h' H') (hp : H p = none) : Go S ρ h H S' ρ' h' (L2.upd H' p ho) :=
  ⟨g.sS, g.sB, g.rr, fun a o e l => by rw [upd_ne (ne_of_none e hp)]; exact g.fr a o e l, g.lb⟩
theorem Go.foreign {o : L2.HO} (g : Go S ρ h H S' ρ' h' H') (e : H p = some o) (ns : ¬ S p) (nl : ¬ Liv ρ h p) : H' p = some o ∧ ¬ S' p ∧ ¬ Liv ρ' h' p := by
  refine ⟨g.fr p o e nl, fun s => ?_, fun l => ?_⟩
  · rcases g.sB p s with q | q | q
    · exact ns q
    · rw [e] at q; cases q
    · exact nl q
  · rcases g.lb p l with q | q
    · exact nl q
    · rw [e] at q; cases q
theorem s2fo (ns : ¬ S p) : ∀ a o, S a → H a = some o → L2.upd H p ho a = some o := fun a o s e => by
  rw [upd_ne (fun (z : a = p) => ns (z ▸ s))]; exact e
theorem RH.fo (R : RH W H S ρ h) (ns : ¬ S p) (nl : ¬ Liv ρ h p) : RH W (L2.upd H p ho) S ρ h := by
  refine ⟨fun n o e => ?_, R.inj, R.nx, fun a s => ?_⟩
  · obtain ⟨a, u, q, ea, nsa, ro⟩ := R.lv n o e
    refine ⟨a, u, q, ?_, nsa, ro.mono' (fun _ z => z) (s2fo ns) fun _ _ e => e⟩
    rw [upd_ne (fun (z : a = p) => nl ⟨n, o, e, z ▸ q⟩)]; exact ea
  · obtain ⟨u, e⟩ := R.st a s
    exact ⟨u, s2fo ns a u s e⟩
theorem RV.fo {d v} (x : RV W H S ρ d v) (ns : ¬ S p) : RV W (L2.upd H p ho) S ρ d v := x.mono' (fun _ z => z) (s2fo ns) fun _ _ e => e
theorem RVs.fo {d v} (x : RVs W H S ρ d v) (ns : ¬ S p) : RVs W (L2.upd H p ho) S ρ d v := x.mono' (fun _ z => z) (s2fo ns) fun _ _ e => e
theorem RE.fo {env σ} (x : RE W H S ρ env σ) (ns : ¬ S p) : RE W (L2.upd H p ho) S ρ env σ := ⟨x.len, fun i d e => let ⟨v, q, r⟩ := x.at_ i d e; ⟨v, q, r.fo ns⟩⟩
theorem new_no (R : RH W H S ρ h) (hp : H p = none) : ¬ S p ∧ ¬ Liv ρ h p := by
  refine ⟨fun s => ?_, fun ⟨n, o, e, q⟩ => ?_⟩
  · obtain ⟨u, e⟩ := R.st p s
    rw [hp] at e; cases e
  · obtain ⟨b, u, q', e', _, _⟩ := R.lv n o e
    rw [q] at q'; cases q'
    rw [hp] at e'; cases e'
/-- such an object is settled -/
theorem adoptS {S0 ρ0 h0 H0} (g : Go S0 ρ0 h0 H0 S ρ h H) (R : RH W H S ρ h) (h0p : H0 p = none) (e : H p = some ho) (nl : ¬ Liv ρ h p) : Go S0 ρ0 h0 H0 (Sp S p) ρ h H ∧ RH W H (Sp S p) ρ h := by
  refine ⟨⟨fun a s => .inl (g.sS a s), fun a s => ?_, g.rr, g.fr, g.lb⟩, ⟨fun n o en => ?_, R.inj, R.nx, fun a s => ?_⟩⟩
  · rcases s with s | rfl
    · exact g.sB a s
    · exact .inr (.inl h0p)
  · obtain ⟨a, u, q, ea, nsa, ro⟩ := R.lv n o en
    refine ⟨a, u, q, ea, fun z => ?_, ro.mono' (fun _ z => .inl z) (fun _ _ _ e => e) fun _ _ e => e⟩
    rcases z with z | rfl
    · exact nsa z
    · exact nl ⟨n, o, en, q⟩
  · rcases s with s | rfl
    · exact R.st a s
    · exact ⟨ho, e⟩
/-- such an object is a new live one -/
theorem adoptL {o : O} {S0 ρ0 h0 H0} (g : Go S0 ρ0 h0 H0 S ρ h H) (R : RH W H S ρ h) (h0p : H0 p = none) (e : H p = some ho) (ns : ¬ S p) (nl : ¬ Liv ρ h p) (ro : RO W H S ρ p o ho) :
    Go S0 ρ0 h0 H0 S (rhoN ρ h.nx p) (h.new o).2 H ∧ RH W H S (rhoN ρ h.nx p) (h.new o).2 := by
  have fresh : ρ h.nx = none := by
    cases q : ρ h.nx with
    | none => rfl
    | some b => exact absurd (R.nx _ _ q) (Nat.lt_irrefl _)
  have old : ∀ m b, ρ m = some b → rhoN ρ h.nx p m = some b := fun m b q => by
    unfold rhoN
    rw [if_neg (fun z => by rw [z, fresh] at q; cases q)]
    exact q
  have live : ∀ m u b, (h.new o).2.get m = some u → rhoN ρ h.nx p m = some b → (m = h.nx ∧ u = o ∧ b = p) ∨ (h.get m = some u ∧ ρ m = some b) := fun m u b e q => by
    rw [get_new] at e
    by_cases z : h.nx = m
    · rw [if_pos z] at e; cases e
      subst z
      unfold rhoN at q
      rw [if_pos rfl] at q; cases q
      exact .inl ⟨rfl, rfl, rfl⟩
    · rw [if_neg z] at e
      unfold rhoN at q
      rw [if_neg (Ne.symm z)] at q
      exact .inr ⟨e, q⟩
  refine ⟨⟨g.sS, g.sB, fun n a q => old n a (g.rr n a q), g.fr, fun b l => ?_⟩, ⟨fun m u e' => ?_, fun m k b u u' e1 e2 q1 q2 => ?_, fun m b q => ?_, R.st⟩⟩
  · obtain ⟨m, u, e', z⟩ := l
    rcases live m u b e' z with ⟨_, _, rfl⟩ | ⟨e', z⟩
    · exact .inr h0p
    · exact g.lb b ⟨m, u, e', z⟩
  · rw [get_new] at e'
    by_cases z : h.nx = m
    · rw [if_pos z] at e'; cases e'
      subst z
      exact ⟨p, ho, by unfold rhoN; rw [if_pos rfl], e, ns, ro.mono' (fun _ x => x) (fun _ _ _ e => e) old⟩
    · rw [if_neg z] at e'
      obtain ⟨b, hb, z1, eb, nb, rb⟩ := R.lv m u e'
      exact ⟨b, hb, old m b z1, eb, nb, rb.mono' (fun _ x => x) (fun _ _ _ e => e) old⟩
  · rcases live m u b e1 q1 with ⟨z1, _, z2⟩ | ⟨e3, q3⟩
    · rcases live k u' b e2 q2 with ⟨z3, _, _⟩ | ⟨e4, q4⟩
      · rw [z1, z3]
      · subst z2; exact absurd ⟨k, u', e4, q4⟩ nl
    · rcases live k u' b e2 q2 with ⟨_, _, z2⟩ | ⟨e4, q4⟩
      · subst z2; exact absurd ⟨m, u, e3, q3⟩ nl
      · exact R.inj m k b u u' e3 e4 q3 q4
  · unfold rhoN at q
    show m < h.nx + 1
    split at q
    · omega
    · have := R.nx m b q; omega
end

section
variable {W : Wd} {X : Cx}
/-! ### and, or -/
theorem snd_one {op} {a : Expr} {pos : Pos} {fa : Fe} (ha : PE X a (tE W fa)) : PE X (.BoolOp op [a] pos) (tE W fun env h => match fa env h with | some (d, h1) => some (d, h1) | none => none) := by
  refine (L2.pe_one ha).sub ?_
  rintro σ H Q ⟨env, S, ρ, h, d, h', re, R, hf, wq⟩
  try dsimp only at hf
  split at hf
  · rename_i d1 h1 ea
    cases hf
    exact ⟨env, S, ρ, h, _, _, re, R, ea, wq⟩
  · cases hf
theorem snd_and {a b : Expr} {rest : List Expr} {pos : Pos} {fa fb : Fe} (xw : XW W X) (ha : PE X a (tE W fa)) (hb : PE X (.BoolOp .And (b :: rest) pos) (tE W fb)) :
    PE X (.BoolOp .And (a :: b :: rest) pos) (tE W fun env h => match fa env h with
    | some (d, h1) => (match tru h1 d with
      | some true => fb env h1
      | some false => some (d, h1)
      | none => none)
    | none => none) := by
  refine (L2.pe_andT ha hb).sub ?_
  rintro σ H Q ⟨env, S, ρ, h, d, h', re, R, hf, wq⟩
  try dsimp only at hf
  split at hf
  rotate_left
  · cases hf
  rename_i x h1 ea
  refine ⟨env, S, ρ, h, x, h1, re, R, ea, fun S1 ρ1 H1 v1 g1 R1 r1 => ?_⟩
  split at hf
  · rename_i et
    exact ⟨true, truV xw R1 r1 et, by rw [if_pos rfl]; exact ⟨env, S1, ρ1, h1, d, h', re.go g1 R, R1, hf, Wish.pre g1 wq⟩⟩
  · rename_i et
    cases hf
    exact ⟨false, truV xw R1 r1 et, by rw [if_neg Bool.false_ne_true]; exact wq _ _ _ _ g1 R1 r1⟩
  · cases hf
theorem snd_or {a b : Expr} {rest : List Expr} {pos : Pos} {fa fb : Fe} (xw : XW W X) (ha : PE X a (tE W fa)) (hb : PE X (.BoolOp .Or (b :: rest) pos) (tE W fb)) :
    PE X (.BoolOp .Or (a :: b :: rest) pos) (tE W fun env h => match fa env h with
    | some (d, h1) => (match tru h1 d with
      | some false => fb env h1
      | some true => some (d, h1)
      | none => none)
    | none => none) := by
  refine (L2.pe_orT ha hb).sub ?_
  rintro σ H Q ⟨env, S, ρ, h, d, h', re, R, hf, wq⟩
  try dsimp only at hf
  split at hf
  rotate_left
  · cases hf
  rename_i x h1 ea
  refine ⟨env, S, ρ, h, x, h1, re, R, ea, fun S1 ρ1 H1 v1 g1 R1 r1 => ?_⟩
  split at hf
  · rename_i et
    exact ⟨false, truV xw R1 r1 et, by rw [if_neg Bool.false_ne_true]; exact ⟨env, S1, ρ1, h1, d, h', re.go g1 R, R1, hf, Wish.pre g1 wq⟩⟩
  · rename_i et
    cases hf
    exact ⟨true, truV xw R1 r1 et, by rw [if_pos rfl]; exact wq _ _ _ _ g1 R1 r1⟩
  · cases hf
/-! tests -/
theorem snd_and1 {a : Expr} {pos : Pos} {fa : Fc} (ha : PT X a (tC W fa)) : PW X (.BoolOp .And [a] pos) (tC W fun env h => match fa env h with | some (true, h1) => some (true, h1) | some (false, h1) => some (false, h1) | none => none) := by
  have := L2.pw_and1 (pos := pos) ha
  refine ⟨fun e pins s σ H Q I hw => this.run e pins s σ H Q I ?_⟩
  obtain ⟨env, S, ρ, h, b', h', re, R, hf, wq⟩ := hw
  try dsimp only at hf
  split at hf
  · rename_i h1 ea; cases hf; exact ⟨env, S, ρ, h, _, _, re, R, ea, wq⟩
  · rename_i h1 ea; cases hf; exact ⟨env, S, ρ, h, _, _, re, R, ea, wq⟩
  · cases hf
theorem snd_or1 {a : Expr} {pos : Pos} {fa : Fc} (ha : PT X a (tC W fa)) : PW X (.BoolOp .Or [a] pos) (tC W fun env h => match fa env h with | some (false, h1) => some (false, h1) | some (true, h1) => some (true, h1) | none => none) := by
  have := L2.pw_or1 (pos := pos) ha
  refine ⟨fun e pins s σ H Q I hw => this.run e pins s σ H Q I ?_⟩
  obtain ⟨env, S, ρ, h, b', h', re, R, hf, wq⟩ := hw
  try dsimp only at hf
  split at hf
  · rename_i h1 ea; cases hf; exact ⟨env, S, ρ, h, _, _, re, R, ea, wq⟩
  · rename_i h1 ea; cases hf; exact ⟨env, S, ρ, h, _, _, re, R, ea, wq⟩
  · cases hf
theorem snd_andC {a b : Expr} {rest : List Expr} {pos : Pos} {fa fb : Fc} (ha : PT X a (tC W fa)) (hb : PW X (.BoolOp .And (b :: rest) pos) (tC W fb)) :
    PW X (.BoolOp .And (a :: b :: rest) pos) (tC W fun env h => match fa env h with | some (true, h1) => fb env h1 | some (false, h1) => some (false, h1) | none => none) := by
  have := L2.pw_and ha hb
  refine ⟨fun e pins s σ H Q I hw => this.run e pins s σ H Q I ?_⟩
  obtain ⟨env, S, ρ, h, b', h', re, R, hf, wq⟩ := hw
  try dsimp only at hf
  split at hf
  · rename_i h1 ea
    exact ⟨env, S, ρ, h, true, h1, re, R, ea, fun S1 ρ1 H1 g1 R1 => by show ite _ _ _; rw [if_pos rfl]; exact ⟨env, S1, ρ1, h1, b', h', re.go g1 R, R1, hf, fun S2 ρ2 H2 g2 R2 => wq _ _ _ (g1.trans g2) R2⟩⟩
  · rename_i h1 ea
    cases hf
    exact ⟨env, S, ρ, h, false, _, re, R, ea, fun S1 ρ1 H1 g1 R1 => by show ite _ _ _; rw [if_neg Bool.false_ne_true]; exact wq _ _ _ g1 R1⟩
  · cases hf
theorem snd_orC {a b : Expr} {rest : List Expr} {pos : Pos} {fa fb : Fc} (ha : PT X a (tC W fa)) (hb : PW X (.BoolOp .Or (b :: rest) pos) (tC W fb)) :
    PW X (.BoolOp .Or (a :: b :: rest) pos) (tC W fun env h => match fa env h with | some (false, h1) => fb env h1 | some (true, h1) => some (true, h1) | none => none) := by
  have := L2.pw_or ha hb
  refine ⟨fun e pins s σ H Q I hw => this.run e pins s σ H Q I ?_⟩
  obtain ⟨env, S, ρ, h, b', h', re, R, hf, wq⟩ := hw
  try dsimp only at hf
  split at hf
  · rename_i h1 ea
    exact ⟨env, S, ρ, h, false, h1, re, R, ea, fun S1 ρ1 H1 g1 R1 => by show ite _ _ _; rw [if_neg Bool.false_ne_true]; exact ⟨env, S1, ρ1, h1, b', h', re.go g1 R, R1, hf, fun S2 ρ2 H2 g2 R2 => wq _ _ _ (g1.trans g2) R2⟩⟩
  · rename_i h1 ea
    cases hf
    exact ⟨env, S, ρ, h, true, _, re, R, ea, fun S1 ρ1 H1 g1 R1 => by show ite _ _ _; rw [if_pos rfl]; exact wq _ _ _ g1 R1⟩
  · cases hf
end
end Ev
end
section
set_option Elab.async false
set_option linter.all false
/-! Ev14: calls. -/
namespace Ev
open PySem
open L2 (upd upd_same upd_ne ne_of ne_of_none Cx VK OpR SqL SqT Key kV Inv valV putK RelV HOk ObjOk IxR SlR TruR PSet PGet CallR MtR EP PE PT PA PW TE TT TA PO thn CX0 pass0 Room FnOk Gl Binds Cls Meth Mk)

def plL : List Expr → Bool
  | [] => true
  | e :: r => plE e && plL r
theorem pl_any {pos : Pos} {env : PySem.Env} : ∀ {es : List Expr}, plL es = true → (backTo pos (starEach es env)).any (·.1) = false
  | [], _ => rfl
  | e :: r, h => by
    simp only [plL, Bool.and_eq_true] at h
    rw [star_pl h.1]
    have := pl_any (pos := pos) (env := env) h.2
    simp only [backTo, List.map_cons, List.any_cons] at this ⊢
    rw [this]; rfl
theorem pl_all {pos : Pos} {env : PySem.Env} : ∀ {es : List Expr}, plL es = true → (backTo pos (starEach es env)).all (fun x => !x.1) = true
  | [], _ => rfl
  | e :: r, h => by
    simp only [plL, Bool.and_eq_true] at h
    rw [star_pl h.1]
    have := pl_all (pos := pos) (env := env) h.2
    simp only [backTo, List.map_cons, List.all_cons] at this ⊢
    rw [this]; rfl
theorem runM_any {m : Md} {g : List D → Mm → Option (D × Mm)} {vs : List D} {h : Mm} {r : D × Mm} (hf : runM m g vs h = some r) : ∃ h0 r0, g vs h0 = some r0 := by
  cases m with
  | sh => exact ⟨h, r, hf⟩
  | iso =>
    simp only [runM] at hf
    obtain ⟨_, hf⟩ := bif_some hf
    split at hf
    · exact ⟨_, _, by assumption⟩
    · cases hf
  | liv =>
    simp only [runM] at hf
    obtain ⟨_, hf⟩ := bif_some hf
    split at hf
    · exact ⟨_, _, by assumption⟩
    · cases hf
/-- a function of n parameters -/
def Ar (n : Nat) (g : List D → Mm → Option (D × Mm)) : Prop := ∀ vs h r, g vs h = some r → vs.length = n

abbrev F0 : Fa := fun _ h => some ([], h)
section
variable {W : Wd} {X : Cx} {f C : Addr} {fd : FuncData} {ps : List Str} {k : Nat} {g : List D → Mm → Option (D × Mm)} {x m : Str} {p pos apos : Pos} {es : List Expr} {fs : Fa} {o : Expr} {fo : Fe}
theorem tEs_nil (q : fs = F0) {σ H Q} {env : Env} {S ρ h ds h'} (re : RE W H S ρ env σ) (R : RH W H S ρ h) (e : fs env h = some (ds, h')) (w : ∀ S' ρ' H' vs, Go S ρ h H S' ρ' h' H' → RH W H' S' ρ' h' → RVs W H' S' ρ' ds vs → Q vs H') : L2.tNil σ H Q := by
  subst q
  cases e
  exact w _ _ _ _ .refl R .nil
/-- f(..) -/
theorem snd_call {md : Md} (F : FnOk X.prog X.w X.K X.mg X.base CX0 k f fd ps (spC W ps.length g)) (ar : Ar ps.length g) (hr : Room k X.A) (hg : Gl X x) (hm : X.mg x = some (.ref f)) (hk : PySem.W.keepIn X.K (.ref f) = true) (hb : Binds X.K fd ps [])
    (hdb : (x == ("__debug__" : Str)) = false) (pl : plL es = true) (h0 : es = [] → fs = F0) (ha : PA X es (tEs W fs)) :
    PE X (.Call (.Name x p) es [] pos) (tE W fun env h => match fs env h with | some (vs, h1) => runM md g vs h1 | none => none) := by
  have key : ∀ (t : TA), (∀ σ H Q, tEs W fs σ H Q → t σ H Q) → ∀ σ H Q, tE W (fun env h => match fs env h with | some (vs, h1) => runM md g vs h1 | none => none) σ H Q → L2.tCall (spC W ps.length g) [] L2.E0 t σ H Q := by
    rintro t ht σ H Q ⟨env, S, ρ, h, d, h', re, R, hf, wq⟩
    try dsimp only at hf
    split at hf
    rotate_left
    · cases hf
    rename_i vs h1 ea
    refine ht _ _ _ ⟨env, S, ρ, h, vs, h1, re, R, ea, fun S1 ρ1 H1 us g1 R1 r1 => ?_⟩
    show spC W ps.length g (us ++ []) H1 Q L2.E0
    rw [List.append_nil]
    obtain ⟨h0, r0, e0⟩ := runM_any hf
    exact mode_ok R1 r1 (by rw [← r1.len]; exact ar _ _ _ e0) hf (Wish.pre g1 wq)
  cases es with
  | nil => exact L2.PE.sub (L2.pe_call0 F hr hg hm hk hb .nil pass0 hdb) (key _ fun σ H Q ⟨env, S, ρ, h, ds, h', re, R, e, w⟩ => tEs_nil (h0 rfl) re R e w)
  | cons e r =>
    simp only [plL, Bool.and_eq_true] at pl
    exact L2.PE.sub (L2.pe_call F hr hg hm hk hb .nil pass0 ha hdb (star_pl pl.1) (pl_any pl.2)) (key _ fun _ _ _ z => z)
/-- o.m(..) -/
theorem snd_meth {md : Md} {c : Nat} {pl0 : Sem Bool} (ho : PE X o (tE W fo)) (xw : XW W X) (hc : Cls W.K (W.cA c)) (hm : Meth W.K (W.cA c) m f) (F : FnOk X.prog X.w X.K X.mg X.base CX0 k f fd ps (spC W ps.length g)) (ar : Ar ps.length g) (hr : Room k X.A) (hb : Binds X.K fd ps [])
    (pl : plL es = true) (h0 : es = [] → fs = F0) (ha : PA X es (tEs W fs))
    (ht : eval (.Call (.Attribute o m apos) es [] pos) X.env = (do
      let ov ← eval o X.env
      standAt apos.atName
      let (f, first) ← holding [ov] (getMethod ov m pl0)
      callWith pos f first (backTo pos (starEach es X.env)) (backToKw pos (keywordEach [] X.env)))) :
    PE X (.Call (.Attribute o m apos) es [] pos) (tE W fun env h => match fo env h with
    | some (x, h1) => (match insOf h1 x with
      | some (c', gs) => bif Nat.beq c c' && (lkF gs m).isNone then (match fs env h1 with
        | some (vs, h2) => runM md g (x :: vs) h2
        | none => none) else none
      | none => none)
    | none => none) := by
  have key : ∀ (t : TA), (∀ σ H Q, tEs W fs σ H Q → t σ H Q) → ∀ σ H Q, tE W (fun env h => match fo env h with
    | some (x, h1) => (match insOf h1 x with
      | some (c', gs) => bif Nat.beq c c' && (lkF gs m).isNone then (match fs env h1 with
        | some (vs, h2) => runM md g (x :: vs) h2
        | none => none) else none
      | none => none)
    | none => none) σ H Q → L2.tMeth (W.cA c) m (spC W ps.length g) [] L2.E0 (tE W fo) t σ H Q := by
    rintro t ht σ H Q ⟨env, S, ρ, h, d, h', re, R, hf, wq⟩
    try dsimp only at hf
    split at hf
    rotate_left
    · cases hf
    rename_i x h1 ea
    split at hf
    rotate_left
    · cases hf
    rename_i c' gs ei
    obtain ⟨hcc, hf2⟩ := bif_some hf
    rw [Bool.and_eq_true] at hcc
    obtain ⟨hc1, hc2⟩ := hcc
    have hc1 := Nat.eq_of_beq_eq_true hc1
    clear hf
    subst hc1
    split at hf2
    rotate_left
    · cases hf2
    rename_i vs h2 eb
    refine ⟨env, S, ρ, h, x, h1, re, R, ea, fun S1 ρ1 H1 v1 g1 R1 r1 => ?_⟩
    obtain ⟨a, dx, gs', rfl, e1, rf⟩ := insR ei R1 r1
    have hl : gs'.lookup m = none := by
      rcases lkF_ok (f := m) rf with ⟨_, q⟩ | ⟨d0, v0, q, _⟩
      · exact q
      · rw [q] at hc2; cases hc2
    refine ⟨a, dx, gs', rfl, e1, hl, ht _ _ _ ⟨env, S1, ρ1, h1, vs, h2, re.go g1 R, R1, eb, fun S2 ρ2 H2 us g2 R2 r2 => ?_⟩⟩
    show spC W ps.length g (L2.V.ref a :: (us ++ [])) H2 Q L2.E0
    rw [List.append_nil]
    obtain ⟨h0, r0, e0⟩ := runM_any hf2
    have hr3 : RVs W H2 S2 ρ2 (x :: vs) (L2.V.ref a :: us) := .cons (r1.go g2 R1) r2
    exact mode_ok R2 hr3 (by rw [← hr3.len]; exact ar _ _ _ e0) hf2 (Wish.pre (g1.trans g2) wq)
  have hc' : Cls X.K (W.cA c) := by rw [xw.K]; exact hc
  have hm' : Meth X.K (W.cA c) m f := by rw [xw.K]; exact hm
  cases es with
  | nil => exact L2.PE.sub (L2.pe_meth0 ho hc' hm' F hr hb .nil pass0 ht) (key _ fun σ H Q ⟨env, S, ρ, h, ds, h', re, R, e, w⟩ => tEs_nil (h0 rfl) re R e w)
  | cons e r =>
    simp only [plL, Bool.and_eq_true] at pl
    exact L2.PE.sub (L2.pe_meth ho hc' hm' F hr hb .nil pass0 ha (star_pl pl.1) (pl_any pl.2) ht) (key _ fun _ _ _ z => z)
/-- a new instance -/
theorem snd_make {md : Md} {c : Nat} {k1 : Cl} {P : Prg} {c2 : Fs} (hP : P.cls c = some k1) (xw : XW W X) (M : Mk W.K (W.cA c) f) (F : FnOk X.prog X.w X.K X.mg X.base CX0 k f fd ps (spC W ps.length (c2 k1.init))) (ar : Ar ps.length (c2 k1.init)) (hr : Room (k + 1) X.A) (hb : Binds X.K fd ps [])
    (hg : Gl X x) (hm : X.mg x = some (.ref (W.cA c))) (hdb : (x == ("__debug__" : Str)) = false) (pl : plL es = true) (h0 : es = [] → fs = F0) (ha : PA X es (tEs W fs)) :
    PE X (.Call (.Name x p) es [] pos) (tE W fun env h => match fs env h with
    | some (vs, h1) => runM md (fun vs h => match P.cls c with
      | some k => (match c2 k.init (.ref h.nx :: vs) (h.new (.ins c [])).2 with
        | some (.non, h2) => some (.ref h.nx, h2)
        | _ => none)
      | none => none) vs h1
    | none => none) := by
  have key : ∀ (t : TA), (∀ σ H Q, tEs W fs σ H Q → t σ H Q) → ∀ σ H Q, tE W (fun env h => match fs env h with
    | some (vs, h1) => runM md (fun vs h => match P.cls c with
      | some k => (match c2 k.init (.ref h.nx :: vs) (h.new (.ins c [])).2 with
        | some (.non, h2) => some (.ref h.nx, h2)
        | _ => none)
      | none => none) vs h1
    | none => none) σ H Q → L2.tMake (W.cA c) (spC W ps.length (c2 k1.init)) [] L2.E0 t σ H Q := by
    rintro t ht σ H Q ⟨env, S, ρ, h, d, h', re, R, hf, wq⟩
    try dsimp only at hf
    split at hf
    rotate_left
    · cases hf
    rename_i vs h1 ea
    refine ht _ _ _ ⟨env, S, ρ, h, vs, h1, re, R, ea, fun S1 ρ1 H1 us g1 R1 r1 y dx hy hdx hne => ?_⟩
    show spC W ps.length (c2 k1.init) (L2.V.ref y :: (us ++ [])) _ _ L2.E0
    rw [List.append_nil]
    obtain ⟨_, S2, ρ2, h2, ds, d2, h3, r2, R2, hf2, wq2⟩ := mode_ok (n := us.length) (E := L2.E0) R1 r1 rfl hf (Wish.pre g1 wq)
    rw [hP] at hf2
    dsimp only at hf2
    split at hf2
    rotate_left
    · cases hf2
    rename_i h4 e4
    cases hf2
    obtain ⟨ns, nl⟩ := new_no R2 hdx
    have R3 : RH W (upd H1 dx (.own y)) S2 ρ2 h2 := R2.fo ns nl
    have g3 : Go S2 ρ2 h2 H1 S2 ρ2 h2 (upd H1 dx (.own y)) := Go.upd .refl hdx
    have hy' : upd H1 dx (.own y) y = none := by rw [upd_ne (Ne.symm hne)]; exact hy
    obtain ⟨g4, R4⟩ := born (o := .ins c []) (ho := .ins (W.cA c) dx []) R3 hy' (.ins .nil)
    have r4 : RVs W (upd (upd H1 dx (.own y)) y (.ins (W.cA c) dx [])) S2 (rhoN ρ2 h2.nx y) (.ref h2.nx :: ds) (L2.V.ref y :: us) := by
      refine .cons (.ref (by unfold rhoN; rw [if_pos rfl])) ?_
      exact (r2.fo ns).go g4 R3
    refine ⟨?_, S2, rhoN ρ2 h2.nx y, (h2.new (.ins c [])).2, _, _, h3, r4, R4, e4, fun S5 ρ5 H5 v5 g5 R5 r5 => ?_⟩
    · rw [← r4.len]; exact ar _ _ _ e4
    · cases r5
      exact ⟨rfl, wq2 S5 ρ5 H5 _ ((g3.trans g4).trans g5) R5 (.ref (g5.rr _ _ (by unfold rhoN; rw [if_pos rfl])))⟩
  have M' : Mk X.K (W.cA c) f := by rw [xw.K]; exact M
  cases es with
  | nil => exact L2.PE.sub (L2.pe_make0 M' F hr hg hm hb .nil pass0 hdb) (key _ fun σ H Q ⟨env, S, ρ, h, ds, h', re, R, e, w⟩ => tEs_nil (h0 rfl) re R e w)
  | cons e r =>
    simp only [plL, Bool.and_eq_true] at pl
    exact L2.PE.sub (L2.pe_make M' F hr hg hm hb .nil pass0 ha hdb (star_pl pl.1) (pl_any pl.2)) (key _ fun _ _ _ z => z)
end
end Ev
end
section
set_option Elab.async false
set_option linter.all false
/-! Ev15: built-ins, isinstance, methods of built-in types, dict displays. -/
namespace Ev
open PySem
open L2 (upd upd_same upd_ne ne_of ne_of_none Cx VK OpR SqL SqT Key kV Inv valV putK RelV HOk ObjOk IxR SlR TruR PSet PGet CallR MtR EP PE PT PA PW TE TT TA PO thn CX0 pass0 Room FnOk Gl Binds Cls Meth Mk)

def bNm : Bt → Str
  | .len => "len" | .abs => "abs" | .max2 => "max" | .maxL => "max" | .min2 => "min" | .sumL => "sum" | .tupleOf => "tuple" | .listOf => "list" | .repr => "repr" | .strOf => "str" | .intOf => "int"
  | .allL => "all" | .anyL => "any" | .dictOf => "dict" | .sorted => "sorted" | .setSorted => "sorted"
theorem bNm_boot (b : Bt) : bootBuiltins (bNm b) = some (bOf b) := by
  cases b <;> decide +kernel
theorem bNm_ne (b : Bt) : bNm b ≠ "__name__" ∧ (bNm b == ("__debug__" : Str)) = false := by
  cases b <;> (constructor <;> decide)
section
variable {W : Wd} {X : Cx} {p pos apos : Pos} {es : List Expr} {e o : Expr} {fs : Fa} {fo : Fe}
theorem snd_blt {b : Bt} {z : Bool} (xw : XW W X) (gd : b = .repr → X.A.guards = some []) (hg : Gl X (bNm b)) (hm : X.mg (bNm b) = none) (pl : plL (e :: es) = true) (ha : PA X (e :: es) (tEs W fs)) :
    PE X (.Call (.Name (bNm b) p) (e :: es) [] pos) (tE W fun env h => match fs env h with | some (vs, h1) => bltD b z vs h1 | none => none) := by
  have key : ∀ σ H Q, tE W (fun env h => match fs env h with | some (vs, h1) => bltD b z vs h1 | none => none) σ H Q → L2.tCB (rC W (bltD b z)) (tEs W fs) σ H Q := by
    rintro σ H Q ⟨env, S, ρ, h, d, h', re, R, hf, wq⟩
    try dsimp only at hf
    split at hf
    rotate_left
    · cases hf
    rename_i vs h1 ea
    exact ⟨env, S, ρ, h, vs, h1, re, R, ea, fun S1 ρ1 H1 us g1 R1 r1 => ⟨S1, ρ1, h1, vs, d, h', r1, R1, hf, Wish.pre g1 wq⟩⟩
  simp only [plL, Bool.and_eq_true] at pl
  have hb := bltR xw b gd z
  have hv := bNm_boot b
  obtain ⟨n1, n2⟩ := bNm_ne b
  generalize hx : bOf b = v at hb hv
  cases b <;> (first
    | (cases hx; exact L2.PE.sub (L2.pe_callB hb hg hm hv ha n1 n2 (star_pl pl.1) (pl_any pl.2)) key)
    | (cases hx; exact L2.PE.sub (L2.pe_callTy hb hg hm hv ha n1 n2 (star_pl pl.1) (pl_any pl.2)) key))
/-! isinstance -/
def tyN : Ty → String
  | .int => "int" | .str => "str" | .bool => "bool" | .tuple => "tuple" | .list => "list" | .dict => "dict"
theorem ty_boot (t : Ty) : bootBuiltins (Str.ofString (tyN t)) = some (.type (tyN t)) := by
  cases t <;> decide +kernel
theorem ty_ne (t : Ty) : Str.ofString (tyN t) ≠ "__name__" ∧ (Str.ofString (tyN t) == ("__debug__" : Str)) = false := by
  cases t <;> (constructor <;> decide)
theorem RT.ty {H : HH} {S a xs} (t : RT W H S a xs) : L2.TyX W.K H (.ref a) (.type "tuple") := by
  rcases t with ⟨_, e⟩ | ⟨o, its, n, e, c, _⟩
  · exact .base (.tup e)
  · exact .kTuple e c
theorem isi_ok {S : Addr → Prop} {ρ : Rho} {h : Mm} {H : HH} {d : D} {v : L2.V} {t : Ty} {k : Bool} (R : RH W H S ρ h) (r : RV W H S ρ d v) (hf : isiD t d h = some k) : ∃ u, L2.TyX W.K H v u ∧ PySem.W.kitOne W.K u (.type (tyN t)) = some k := by
  cases d with
  | non => cases hf; cases r; exact ⟨_, .base .non, L2.kit_ty (by cases t <;> decide +kernel)⟩
  | bl b => cases r; refine ⟨_, .base (.bl _), L2.kit_ty ?_⟩; cases t <;> cases hf <;> decide +kernel
  | int b => cases r; refine ⟨_, .base (.int _), L2.kit_ty ?_⟩; cases t <;> cases hf <;> decide +kernel
  | str b => cases r; refine ⟨_, .base (.str _), L2.kit_ty ?_⟩; cases t <;> cases hf <;> decide +kernel
  | tup xs => cases r with | tup ta ra => refine ⟨_, ta.ty, L2.kit_ty ?_⟩; cases t <;> cases hf <;> decide +kernel
  | lst xs => cases r with | lst s e ra => refine ⟨_, .base (.lst e), L2.kit_ty ?_⟩; cases t <;> cases hf <;> decide +kernel
  | dic b kvs =>
    cases b with
    | false => cases r with | dicK s e ra => refine ⟨_, .base (.dK e), L2.kit_ty ?_⟩; cases t <;> cases hf <;> decide +kernel
    | true => cases t <;> cases hf
  | ins c fs => cases t <;> cases hf
  | frl c => cases t <;> cases hf
  | kd c => cases t <;> cases hf
  | ref n =>
    cases r with
    | ref q =>
      cases g : h.get n with
      | none => cases t <;> simp [isiD, g] at hf
      | some o =>
        obtain ⟨a', ho, q', ea, ns, ro⟩ := R.lv _ _ g
        rw [q] at q'; cases q'
        cases ro with
        | lst r =>
          refine ⟨_, .base (.lst ea), L2.kit_ty ?_⟩
          cases t <;> simp [isiD, g] at hf <;> subst hf <;> decide +kernel
        | dicK r =>
          refine ⟨_, .base (.dK ea), L2.kit_ty ?_⟩
          cases t <;> simp [isiD, g] at hf <;> subst hf <;> decide +kernel
        | dicT r => cases t <;> simp [isiD, g] at hf
        | ins r => cases t <;> simp [isiD, g] at hf
theorem snd_isi {t : Ty} {p2 : Pos} (xw : XW W X) (hg : Gl X "isinstance") (hm : X.mg "isinstance" = none) (hg2 : Gl X (Str.ofString (tyN t))) (hm2 : X.mg (Str.ofString (tyN t)) = none) (pl : plE e = true) (he : PE X e (tE W fo)) :
    PE X (.Call (.Name "isinstance" p) [e, .Name (Str.ofString (tyN t)) p2] [] pos) (tE W fun env h => match fo env h with | some (x, h1) => (match isiD t x h1 with | some k => some (.bl k, h1) | none => none) | none => none) := by
  have h2 : PE X (.Name (Str.ofString (tyN t)) p2) (L2.tC (.ty (tyN t))) := L2.pe_bltn hg2 hm2 (ty_boot t) rfl (ty_ne t).1 (ty_ne t).2
  refine L2.PE.sub (L2.pe_callB L2.call_isi hg hm PyProof.Rows.boot_isinstance (L2.pa_cons he (L2.pa_cons h2 L2.pa_nil (star_pl rfl)) (star_pl pl)) (by decide) (by decide) (star_pl pl) (pl_any (by rfl))) ?_
  rintro σ H Q ⟨env, S, ρ, h, d, h', re, R, hf, wq⟩
  try dsimp only at hf
  split at hf
  rotate_left
  · cases hf
  rename_i x h1 ea
  refine ⟨env, S, ρ, h, x, h1, re, R, ea, fun S1 ρ1 H1 v1 g1 R1 r1 => ?_⟩
  cases ei : isiD t x h1 with
  | none => rw [ei] at hf; cases hf
  | some k =>
    rw [ei] at hf
    cases hf
    obtain ⟨u, ty, kt⟩ := isi_ok R1 r1 ei
    rw [← xw.K] at ty kt
    exact ⟨v1, .ty (tyN t), u, .type (tyN t), k, rfl, .ty _, ty, kt, wq _ _ _ _ g1 R1 (.bl _)⟩
/-! methods of built-in types -/
def bmT : Bm → String
  | .append => "list" | .extend => "list" | .pop => "list" | .get1 => "dict" | .get2 => "dict" | .setdefault => "dict" | .join => "str"
def bmNm : Bm → Str
  | .append => "append" | .extend => "extend" | .pop => "pop" | .get1 => "get" | .get2 => "get" | .setdefault => "setdefault" | .join => "join"
def bmHas : Bm → Bool
  | .append => true | .extend => true | .get1 => true | .get2 => true | _ => false
theorem bm_facts (b : Bm) (h : bmHas b = true) : PlainAttrs (bmT b) ∧ Slot (bmT b) (bmNm b) (mOf b) ∧ typeOf (.builtin (mOf b)) = pure (.type "method_descriptor") := by
  cases b with
  | append => exact ⟨F.plainAttrs_list, F.slot_list_append, F.type_list_append⟩
  | extend => exact ⟨F.plainAttrs_list, F.slot_list_extend, F.type_list_extend⟩
  | get1 => exact ⟨F.plainAttrs_dict, F.slot_dict_get, F.type_dict_get⟩
  | get2 => exact ⟨F.plainAttrs_dict, F.slot_dict_get, F.type_dict_get⟩
  | _ => cases h
theorem bm_ty {pins σ s} {b : Bm} {S : Addr → Prop} {ρ : Rho} {h : Mm} {H : HH} {d : D} {x : L2.V} {v : Value} (xw : XW W X) (hb : bmHas b = true) (I : Inv X pins σ H s) (R : RH W H S ρ h) (r : RV W H S ρ d x) (rx : RelV x v) (ht : bmTy b d h = true) :
    s.TypeIs v (bmT b) ∧ ∀ a, v = .ref a → ∃ ob, s.heap.get? a = some ob ∧ ob.dict = none := by
  have lst : ∀ (n : Nat), d = .ref n → (match h.get n with | some (.lst _) => true | _ => false) = true → s.TypeIs v "list" ∧ ∀ a, v = .ref a → ∃ ob, s.heap.get? a = some ob ∧ ob.dict = none := fun n e q => by
    subst e
    split at q
    · rename_i xs g
      obtain ⟨a, vs, rfl, ea, _⟩ := listR (d := .ref n) (xs := xs) (by simp [listOf, g]) R r
      exact L2.tyV_is I rx (.inl ⟨rfl, _, SqL.of ea⟩)
    · cases q
  have dct : (dictOf h d).isSome = true → s.TypeIs v "dict" ∧ ∀ a, v = .ref a → ∃ ob, s.heap.get? a = some ob ∧ ob.dict = none := fun q => by
    obtain ⟨⟨t, kvs⟩, e⟩ := Option.isSome_iff_exists.mp q
    exact dict_ty xw I R e r rx
  cases b with
  | append =>
    cases d with
    | ref n => exact lst n rfl ht
    | _ => cases ht
  | extend =>
    cases d with
    | ref n => exact lst n rfl ht
    | _ => cases ht
  | get1 => exact dct ht
  | get2 =>
    simp only [bmTy, Bool.or_eq_true] at ht
    rcases ht with q | q
    · exact dct q
    · cases d with
      | kd kvs =>
        cases r with
        | kd kd =>
          obtain ⟨hs, es, n, hl, hk, hx⟩ := kd
          cases rx
          rw [← xw.K] at hl
          have e := I.kIn _ _ hl
          exact ⟨⟨_, e, rfl⟩, fun b q => by cases q; exact ⟨_, e, rfl⟩⟩
      | _ => cases q
  | _ => cases hb
theorem snd_bm {b : Bm} {cpos : Pos} (xw : XW W X) (hb : bmHas b = true) (ho : PE X o (tE W fo)) (po : plE o = true) (pl : plL (e :: es) = true) (few : (e :: es).length < 30) (hline : (apos.endLine == cpos.line) = true) (ha : PA X (e :: es) (tEs W fs)) :
    PE X (.Call (.Attribute o (bmNm b) apos) (e :: es) [] cpos) (tE W fun env h => match fo env h with
    | some (x, h1) => bif bmTy b x h1 then (match fs env h1 with
      | some (vs, h2) => bmD b x vs h2
      | none => none) else none
    | none => none) := by
  obtain ⟨pa, slot, hty⟩ := bm_facts b hb
  have pl' := pl
  simp only [plL, Bool.and_eq_true] at pl'
  have hfew : ((backTo cpos (starEach (e :: es) X.env)).all (fun x => !x.1) && (backToKw cpos (keywordEach [] X.env)).all (fun x => x.1.isSome)
      && decide ((e :: es).length + ([] : List Keyword).length + (if ([] : List Keyword).isEmpty then 0 else 1) < 30)) = true := by
    rw [pl_all pl]
    simp only [Bool.true_and, Bool.and_eq_true, decide_eq_true_eq]
    exact ⟨rfl, by simpa using few⟩
  refine ⟨fun pins s σ H Q I hw => ?_⟩
  obtain ⟨env, S, ρ, h, d, h', re, R, hf, wq⟩ := hw
  try dsimp only at hf
  split at hf
  rotate_left
  · cases hf
  rename_i x h1 ea
  obtain ⟨hty2, hf2⟩ := bif_some hf
  split at hf2
  rotate_left
  · cases hf2
  rename_i vs h2 eb
  refine wpAny_Call_method_late (ab_pl po) hfew hline rfl (thn (ho.run pins s σ H (fun v H1 => ∃ S1 ρ1, Go S ρ h H S1 ρ1 h1 H1 ∧ RH W H1 S1 ρ1 h1 ∧ RV W H1 S1 ρ1 x v) I ⟨env, S, ρ, h, x, h1, re, R, ea, fun S1 ρ1 H1 v1 g1 R1 r1 => ⟨S1, ρ1, g1, R1, r1⟩⟩) fun v s1 ⟨x', H1, I1, rx, S1, ρ1, g1, R1, r1⟩ => ?_)
  obtain ⟨t1, t2⟩ := bm_ty xw hb I1 R1 r1 rx hty2
  refine ⟨bmT b, mOf b, pa, slot, hty, t1, t2, ?_⟩
  have hA := ha.run cpos pins s1 σ H1 (fun us H2 => ∃ S2 ρ2, Go S1 ρ1 h1 H1 S2 ρ2 h2 H2 ∧ RH W H2 S2 ρ2 h2 ∧ RVs W H2 S2 ρ2 vs us) I1 ⟨env, S1, ρ1, h1, vs, h2, re.go g1 R, R1, eb, fun S2 ρ2 H2 us g2 R2 r2 => ⟨S2, ρ2, g2, R2, r2⟩⟩
  rw [star_pl pl'.1] at hA ⊢
  refine PySem.Calls.callWith_builtin (by show (false || (backTo cpos (starEach es X.env)).any (·.1)) = false; rw [pl_any pl'.2] <;> rfl) (PySem.Calls.evalArgs_plain ?_)
  exact thn hA fun us s2 ⟨vs', H2, I2, rv, S2, ρ2, g2, R2, r2⟩ => bmR xw b pins s2 σ H2 x' vs' v us Q I2 rx rv ⟨S2, ρ2, h2, x, vs, d, h', r1.go g2 R1, r2, R2, hf2, Wish.pre (g1.trans g2) wq⟩
end
end Ev
end
section
set_option Elab.async false
set_option linter.all false
/-! Ev16: dict displays. -/
namespace Ev
open PySem
open L2 (upd upd_same upd_ne ne_of ne_of_none Cx VK OpR SqL SqT Key kV Inv valV putK RelV HOk ObjOk IxR SlR TruR PSet PGet CallR MtR EP PE PT PA PW TE TT TA PO thn CX0 pass0 Room FnOk Gl Binds Cls Meth Mk)

inductive RPs (W : Wd) (H : HH) (S : Addr → Prop) (ρ : Rho) : List (D × D) → List (L2.V × L2.V) → Prop
  | nil : RPs W H S ρ [] []
  | cons {d v e u ds vs} : RV W H S ρ d v → RV W H S ρ e u → RPs W H S ρ ds vs → RPs W H S ρ ((d, e) :: ds) ((v, u) :: vs)
abbrev Fk := Env → Mm → Option (List (D × D) × Mm)
section
variable {W : Wd} {X : Cx} {pos : Pos} {H H' : HH} {S S' : Addr → Prop} {ρ ρ' : Rho} {h h' : Mm}
theorem RPs.mono' (s1 : ∀ a, S a → S' a) (s2 : ∀ a o, S a → H a = some o → H' a = some o) (rr : ∀ n a, ρ n = some a → ρ' n = some a) : ∀ {d v}, RPs W H S ρ d v → RPs W H' S' ρ' d v
  | _, _, .nil => .nil
  | _, _, .cons a b r => .cons (a.mono' s1 s2 rr) (b.mono' s1 s2 rr) (RPs.mono' s1 s2 rr r)
structure PPsW (W : Wd) (X : Cx) (pos : Pos) (keys : List (Option Expr)) (values : List Expr) (f : Fk) : Prop where
  run : ∀ (pins : List (Addr × Obj)) (s : Shared) (σ : L2.St) (H : HH) (Q : List (L2.V × L2.V) → HH → Prop), Inv X pins σ H s →
    (∃ env S ρ h ps h', RE W H S ρ env σ ∧ RH W H S ρ h ∧ f env h = some (ps, h') ∧ ∀ S' ρ' H' ws, Go S ρ h H S' ρ' h' H' → RH W H' S' ρ' h' → RPs W H' S' ρ' ps ws → Q ws H') →
    wpAny (model X.prog X.w) X.A (evalPairs (pairTrees keys values X.env pos)) (fun vs s' => ∃ ps H', Inv X pins σ H' s' ∧ L2.VV ps vs ∧ Q ps H') X.xe s
theorem ppw_nil : PPsW W X pos [] [] fun _ h => some ([], h) := ⟨fun pins s σ H Q I ⟨env, S, ρ, h, ps, h', re, R, hf, wq⟩ => by
  cases hf
  exact pairTrees_nil_walk ⟨[], H, I, .nil, wq _ _ _ _ .refl R .nil⟩⟩
theorem ppw_cons {k v : Expr} {ks : List (Option Expr)} {vs : List Expr} {fk fv : Fe} {fr : Fk} (hk : PE X k (tE W fk)) (hv : PE X v (tE W fv)) (hr : PPsW W X pos ks vs fr) :
    PPsW W X pos (some k :: ks) (v :: vs) fun env h => match fk env h with
    | some (k, h1) => (match fv env h1 with
      | some (v, h2) => (match fr env h2 with
        | some (ps, h3) => some ((k, v) :: ps, h3)
        | none => none)
      | none => none)
    | none => none := by
  refine ⟨fun pins s σ H Q I ⟨env, S, ρ, h, ps, h', re, R, hf, wq⟩ => ?_⟩
  try dsimp only at hf
  split at hf
  rotate_left
  · cases hf
  rename_i x h1 ea
  split at hf
  rotate_left
  · cases hf
  rename_i y h2 eb
  split at hf
  rotate_left
  · cases hf
  rename_i qs h3 ec
  cases hf
  refine pairTrees_cons_walk (thn (hk.run pins s σ H (fun v H1 => ∃ S1 ρ1, Go S ρ h H S1 ρ1 h1 H1 ∧ RH W H1 S1 ρ1 h1 ∧ RV W H1 S1 ρ1 x v) I ⟨env, S, ρ, h, x, h1, re, R, ea, fun S1 ρ1 H1 v1 g1 R1 r1 => ⟨S1, ρ1, g1, R1, r1⟩⟩) fun u s1 ⟨x1, H1, I1, rx, S1, ρ1, g1, R1, r1⟩ => ?_)
  refine thn (hv.run pins s1 σ H1 (fun v H2 => ∃ S2 ρ2, Go S1 ρ1 h1 H1 S2 ρ2 h2 H2 ∧ RH W H2 S2 ρ2 h2 ∧ RV W H2 S2 ρ2 y v) I1 ⟨env, S1, ρ1, h1, y, h2, re.go g1 R, R1, eb, fun S2 ρ2 H2 v2 g2 R2 r2 => ⟨S2, ρ2, g2, R2, r2⟩⟩) fun w2 s2 ⟨y1, H2, I2, ry, S2, ρ2, g2, R2, r2⟩ => ?_
  refine thn (hr.run pins s2 σ H2 (fun ws H3 => Q ((x1, y1) :: ws) H3) I2 ⟨env, S2, ρ2, h2, qs, _, re.go (g1.trans g2) R, R2, ec, fun S3 ρ3 H3 ws g3 R3 r3 => wq _ _ _ _ ((g1.trans g2).trans g3) R3 (.cons (r1.go (g2.trans g3) R1) (r2.go g3 R2) r3)⟩) fun ws s3 ⟨ps, H3, I3, rel, q3⟩ => ⟨(x1, y1) :: ps, H3, I3, .cons ⟨rx, ry⟩ rel, q3⟩
/-- the store into a dict that no one knows yet -/
theorem store_one {pins : List (Addr × Obj)} {σ : L2.St} {s : Shared} {a : Addr} {t : Bool} {kvs : List (D × D)} {k e : D} {y z : L2.V} {u w : Value} {ho : L2.HO} {E : Value → Shared → Prop} {Q : Unit → Shared → Prop} (xw : XW W X) (I : Inv X pins σ H s) (R : RH W H S ρ h) (ea : H a = some ho)
    (ro : RO W H S ρ a (.dic t kvs) ho) (ns : ¬ S a) (nl : ¬ Liv ρ h a) (hk : keyOk t k = true) (hl : kvs.length < sizeLine) (Rk : RV W H S ρ k y) (Re : RV W H S ρ e z) (ry : RelV y u) (rz : RelV z w)
    (hq : ∀ ho' s', RO W (upd H a ho') S ρ a (.dic t (putD kvs k e)) ho' → Inv X pins σ (upd H a ho') s' → Q () s') : wpAny (model X.prog X.w) X.A (dictSet a u w) Q E s := by
  have s2 : ∀ {ho'}, ∀ b o, S b → H b = some o → upd H a ho' b = some o := fun {ho'} b o sb eb => by
    rw [upd_ne (fun (z : b = a) => ns (z ▸ sb))]; exact eb
  cases ro with
  | @dicK kvs ks rk =>
    obtain ⟨kk, hkk, rfl⟩ := kk_of hk Rk
    obtain ⟨hz, hd, vs, rel, dd⟩ := L2.dk_of I.hok ea
    have hlv : kvs.length = vs.length := by rw [rk.len]; exact Paired.length rel
    refine wpAny_dictSet_pairs (knd := L2.mixKind X.prog X.w) (kvs := vs) (hsz := by omega) (L2.kV_is ry) dd fun h' dd' hsb => ?_
    have rk' : RKs W H S ρ (putD kvs k e) (putK ks kk z) := rk.put hkk Re
    refine hq (.dK (putK ks kk z)) _ (.dicK (rk'.mono' (fun _ z => z) s2 fun _ _ e => e)) (L2.d_write I (by rw [ea]; exact True.intro) hsb ?_ (L2.dk_new ?_ hd (rel.put kk rz) dd'))
    · obtain ⟨o, _, _, ho, _⟩ := dd'
      exact ⟨o, ho⟩
    · rw [← rk'.len]
      have := putD_len kvs k e
      omega
  | @dicT kvs xs rt =>
    obtain ⟨m, hm, dm⟩ := keyT hk
    obtain ⟨b, rfl⟩ := keyT_ref hk Rk
    cases ry
    obtain ⟨dd, hs, hz⟩ := dT_of xw I ea rt
    have lz : (storedH xs m b w).length ≤ sizeLine := by
      rw [← (rt.put hm dm Rk Re rz).len]
      have := putD_len kvs k e
      omega
    rw [xw.P, xw.w]
    refine wpAny_dictSet_heap (knd := nestedKind W.P W.w) (hsz := hz) (by have := xw.un; show X.A.units + 8 < cLine; omega) ⟨nk_is xw I hm Rk rfl, dm⟩ dd fun h' dd' hsb => ?_
    refine hq (dTO W a (storedH xs m b w)) _ (.dicT ((rt.put hm dm Rk Re rz).mono' (fun _ z => z) s2 fun _ _ e => e)) (L2.d_write I (by rw [ea]; exact True.intro) hsb ?_ (dT_obj (s' := { s with heap := h' }) hs lz dd' _ _))
    obtain ⟨o, _, _, ho, _⟩ := dd'
    exact ⟨o, ho⟩
/-- the stores of a display -/
theorem store_all {pins : List (Addr × Obj)} {σ : L2.St} {a : Addr} {t : Bool} {E : Value → Shared → Prop} {Q : PUnit → Shared → Prop} {S0 : Addr → Prop} {ρ0 : Rho} {h0 : Mm} {H0 : HH} (xw : XW W X) (h0a : H0 a = none) :
    ∀ (ps : List (D × D)) (ws : List (L2.V × L2.V)) (vs : List (Value × Value)) (kvs kvs' : List (D × D)) (H : HH) (ho : L2.HO) (s : Shared), Inv X pins σ H s → Go S0 ρ0 h0 H0 S ρ h H → RH W H S ρ h → H a = some ho → RO W H S ρ a (.dic t kvs) ho → ¬ S a → ¬ Liv ρ h a →
    RPs W H S ρ ps ws → L2.VV ws vs → mkD t kvs ps = some kvs' → (∀ H' ho' s', Inv X pins σ H' s' → Go S0 ρ0 h0 H0 S ρ h H' → RH W H' S ρ h → H' a = some ho' → RO W H' S ρ a (.dic t kvs') ho' → Q PUnit.unit s') →
    wpAny (model X.prog X.w) X.A (storeAll a vs) Q E s
  | [], _, _, kvs, kvs', H, ho, s, I, g, R, ea, ro, ns, nl, .nil, .nil, hk, hq => by
    cases hk
    unfold storeAll
    rw [List.forIn_nil]
    exact wpAny_pure (hq H ho s I g R ea ro)
  | (k, e) :: ps, _, _, kvs, kvs', H, ho, s, I, g, R, ea, ro, ns, nl, .cons (vs := ws) rk re rp, .cons hr rv, hk, hq => by
    simp only [mkD] at hk
    obtain ⟨hc, hk⟩ := bif_some hk
    rw [Bool.and_eq_true] at hc
    have hz := Nat.le_of_ble_eq_true hc.2
    unfold storeAll
    rw [List.forIn_cons]
    refine wpAny_bind (wpAny_bind (store_one xw I R ea ro ns nl hc.1 (by rw [sizeLine_eq]; omega) rk re hr.1 hr.2 fun ho' s' ro' I' => wpAny_pure ?_))
    exact store_all xw h0a ps _ _ (putD kvs k e) kvs' _ ho' s' I' (g.upd h0a) (R.fo ns nl) upd_same ro' ns nl (rp.mono' (fun _ z => z) (s2fo ns) fun _ _ e => e) rv hk hq
/-- a dict display -/
theorem snd_dic {keys : List (Option Expr)} {values : List Expr} {f : Fk} {z t : Bool} (xw : XW W X) (hp : PPsW W X pos keys values f) (hall : keys.all (·.isSome) = true) (hl : keys.length = values.length) (h15 : keys.length ≤ 15) (hn : keys = [] → f = fun _ h => some ([], h)) :
    PE X (.Dict keys values pos) (tE W fun env h => match f env h with
    | some (ps, h1) => (match mkD t [] ps with
      | some kvs => some (mkO z (.dic t kvs) h1)
      | none => none)
    | none => none) := by
  refine ⟨fun pins s σ H Q I hw => ?_⟩
  obtain ⟨env, S, ρ, h, d, h', re, R, hf, wq⟩ := hw
  try dsimp only at hf
  split at hf
  rotate_left
  · cases hf
  rename_i ps h1 ea
  split at hf
  rotate_left
  · cases hf
  rename_i kvs ek
  obtain ⟨rfl, rfl⟩ := some_pair hf
  have hfr := I.hok.fresh (Nat.le_refl s.heap.objs.size)
  obtain ⟨ns, nl⟩ := new_no R hfr
  -- the new dict, of either kind
  obtain ⟨ho, I1, ro1⟩ : ∃ ho, Inv X pins σ (upd H s.heap.objs.size ho) { s with heap := s.heap.push { cls := .type "dict", data := .dict #[] } } ∧ ∀ S ρ, RO W (upd H s.heap.objs.size ho) S ρ s.heap.objs.size (.dic t []) ho := by
    cases t with
    | false => exact ⟨.dK [], I.laid (t' := s.toks) (fun _ _ q => Heap.get?_push_of_some _ q) (Nat.le_refl _) (L2.dk_empty s.heap I.big), fun _ _ => .dicK .nil⟩
    | true =>
      refine ⟨dTO W s.heap.objs.size [], I.laid (t' := s.toks) (fun _ _ q => Heap.get?_push_of_some _ q) (Nat.le_refl _) ?_, fun _ _ => .dicT .nil⟩
      have hs : (s.heap.objs.size == sysModules) = false := beq_eq_false_iff_ne.mpr (Ne.symm (Nat.ne_of_lt I.big))
      refine ⟨⟨hs, Nat.zero_le _, _, #[], 0, Heap.get?_push_size _ rfl, ⟨rfl, rfl, rfl⟩, rfl, rfl, List.nodup_nil⟩, ⟨_, Heap.get?_push_size _ rfl⟩, fun h1 h2 q st => ?_⟩
      obtain ⟨q1, q2, o', es', ep', q3, q4⟩ := q
      exact ⟨q1, q2, o', es', ep', st _ q3, q4⟩
  have R1 : RH W (upd H s.heap.objs.size ho) S ρ h := R.fo ns nl
  have g1 : Go S ρ h H S ρ h (upd H s.heap.objs.size ho) := Go.upd .refl hfr
  -- the end, whatever came
  have fin : ∀ (S2 : Addr → Prop) (ρ2 : Rho) (H3 : HH) (ho3 : L2.HO) (s3 : Shared), Inv X pins σ H3 s3 → Go S ρ h H S2 ρ2 h1 H3 → RH W H3 S2 ρ2 h1 → H3 s.heap.objs.size = some ho3 → RO W H3 S2 ρ2 s.heap.objs.size (.dic t kvs) ho3 → ¬ S2 s.heap.objs.size → ¬ Liv ρ2 h1 s.heap.objs.size →
      EP X pins σ Q (.ref s.heap.objs.size) s3 := fun S2 ρ2 H3 ho3 s3 I3 g3 R3 e3 ro3 ns3 nl3 => by
    refine ⟨.ref s.heap.objs.size, H3, I3, rfl, ?_⟩
    cases z with
    | true =>
      obtain ⟨g4, R4⟩ := adoptS g3 R3 hfr e3 nl3
      have ro4 := ro3.mono' (S' := Sp S2 s.heap.objs.size) (fun _ z => .inl z) (fun _ _ _ e => e) (fun _ _ e => e)
      refine wq _ _ _ _ g4 R4 ?_
      cases ro4 with
      | dicK r => exact .dicK (.inr rfl) e3 r
      | dicT r => exact .dicT (.inr rfl) e3 r
    | false =>
      obtain ⟨g4, R4⟩ := adoptL g3 R3 hfr e3 ns3 nl3 ro3
      exact wq _ _ _ _ g4 R4 (.ref (by unfold rhoN; rw [if_pos rfl]))
  by_cases hk0 : keys = []
  · have hv0 : values = [] := by rw [hk0] at hl; exact List.length_eq_zero_iff.mp hl.symm
    have hf0 := hn hk0
    subst hk0 hv0 hf0
    cases ea
    cases ek
    exact wpAny_Dict_empty (fin S ρ _ ho _ I1 g1 R1 upd_same (ro1 _ _) ns nl)
  · refine wpAny_Dict_any hall hl hk0 h15 (thn (hp.run pins _ σ _ (fun ws H2 => ∃ S2 ρ2, Go S ρ h (upd H s.heap.objs.size ho) S2 ρ2 h1 H2 ∧ RH W H2 S2 ρ2 h1 ∧ RPs W H2 S2 ρ2 ps ws) I1 ⟨env, S, ρ, h, ps, h1, re.fo ns, R1, ea, fun S2 ρ2 H2 ws g2 R2 r2 => ⟨S2, ρ2, g2, R2, r2⟩⟩) fun vs s2 ⟨ws, H2, I2, rel, S2, ρ2, g2, R2, r2⟩ => ?_)
    obtain ⟨e2, ns2, nl2⟩ := g2.foreign upd_same ns nl
    have ro2 : RO W H2 S2 ρ2 s.heap.objs.size (.dic t []) ho := (ro1 S ρ).mono' g2.sS (g2.s2 R1) g2.rr
    exact store_all xw hfr ps ws vs [] kvs H2 ho s2 I2 (g1.trans g2) R2 e2 ro2 ns2 nl2 r2 rel ek fun H3 ho3 s3 I3 g3 R3 e3 ro3 => fin S2 ρ2 H3 ho3 s3 I3 g3 R3 e3 ro3 ns2 nl2
end
end Ev
end
section
set_option Elab.async false
set_option linter.all false
/-! Ev17: targets; enumerate over a tuple. -/
namespace Ev
open PySem
open L2 (upd upd_same upd_ne ne_of ne_of_none Cx VK OpR SqL SqT Key kV Inv valV putK RelV HOk ObjOk IxR SlR TruR PSet PGet CallR MtR EP PE PT PA PW TE TT TA PO thn CX0 pass0 Room FnOk Gl Binds Cls Meth Mk PG PGs TG TGs PI TI Turn FpOk)

/-! ### enumerate(tuple) -/
set_option maxHeartbeats 1000000 in
theorem meets_enum1 {v : Value} {o : Obj} {H : Heap → Prop} (B : Begins v o H) :
    Meets (Builtin.«enumerate.__new__» ⟨[.type "enumerate", v], []⟩) (fun _ R s => H s.heap ∧
      R (.ok (.ret (.ref (s.heap.push o).objs.size))) { s with heap := (s.heap.push o).push { cls := .type "enumerate", data := .fields #[.none, .bool false, .ref s.heap.objs.size, rawInt 0, .none, .none] } }) :=
  .of_wp fun prog w A R s h => by
    obtain ⟨hp, g, d, tk, os⟩ := s; obtain ⟨h1, h⟩ := h
    have hsub := sub_enumerate
    have q1 : ∀ {A' : Around} {E : Value → Shared → Prop} {Q : Value → Shared → Prop}, Q (.ref hp.objs.size) ⟨hp.push o, g, d, tk, os⟩ → wpAny (model prog w) A' (pyIter v) Q E ⟨hp, g, d, tk, os⟩ :=
      fun q => B.iter prog w _ _ ⟨hp, g, d, tk, os⟩ _ h1 q
    wp_walk using q1
    refine wpAny_stack_any fun st => wpAny_pure ?_
    split
    · rename_i c _ _ _ _ _
      cases (c == Value.type "enumerate")
      · wp_walk using q1
        exact ⟨_, rfl, h⟩
      · wp_walk using q1
        exact ⟨_, rfl, h⟩
    · wp_walk using q1
      exact ⟨_, rfl, h⟩

end Ev
end
section
set_option Elab.async false
set_option linter.all false
/-! Ev18: enumerate over a tuple, walked; targets. -/
namespace Ev
open PySem
open L2 (upd upd_same upd_ne ne_of ne_of_none Cx VK OpR SqL SqT Key kV Inv valV putK RelV HOk ObjOk IxR SlR TruR PSet PGet CallR MtR EP PE PT PA PW TE TT TA PO thn CX0 pass0 Room FnOk Gl Binds Cls Meth Mk PG PGs TG TGs PI TI Turn FpOk)

section
variable {prog : Program} {w : World} {A : Around} {E : Value → Shared → Prop} {s : Shared}
theorem enum_begins1 {v : Value} {o : Obj} {H : Heap → Prop} {Q : Value → Shared → Prop} (B : Begins v o H) (h1 : H s.heap)
    (h : ∀ h', IsEnum h' (s.heap.objs.size + 1) s.heap.objs.size 0 .none → h'.get? s.heap.objs.size = some o → h'.objs.size = s.heap.objs.size + 2 →
      (∀ b o, s.heap.get? b = some o → h'.get? b = some o) → Q (.ref (s.heap.objs.size + 1)) { s with heap := h' }) :
    wpAny (model prog w) A (PySem.call (.type "enumerate") [v]) Q E s := by
  refine callType_new F.called_enumerate (by decide) (F.typeCall_enumerate_1 _) (F.newCall_enumerate_1 _) (fun obj => F.args_object_init_2 obj _) F.entry_enumerate_new
    (meets_enum1 B) ⟨h1, ?_⟩
  have hz : (s.heap.push o).objs.size = s.heap.objs.size + 1 := Heap.size_push ..
  show _ ∧ _
  rw [hz]
  have he : IsEnum ((s.heap.push o).push { cls := .type "enumerate", data := .fields #[.none, .bool false, .ref s.heap.objs.size, rawInt 0, .none, .none] }) (s.heap.objs.size + 1) s.heap.objs.size 0 .none := by
    have := Heap.get?_push_size (s.heap.push o) (o := { cls := .type "enumerate", data := .fields #[.none, .bool false, .ref s.heap.objs.size, rawInt 0, .none, .none] }) rfl
    rw [hz] at this; exact this
  refine ⟨⟨_, he, rfl⟩, h _ he (Heap.get?_push_of_some _ (Heap.get?_push_size _ B.free)) (by rw [Heap.size_push, hz]) fun b o x => Heap.get?_push_of_some _ (Heap.get?_push_of_some _ x)⟩
end
def Itf (K : PySem.W.Frag) (a : Addr) : L2.It :=
  ⟨fun i H => ∃ (xs : List L2.V) (x : L2.V), SqT K H a xs ∧ xs[i]? = some x, fun i H v H' => ∃ T x, v = .ref T ∧ H T = none ∧ H' = upd H T (.tup [.int (i : Nat), x]) ∧ ∀ xs, SqT K H a xs → xs[i]? = some x, fun i H => ∃ xs : List L2.V, SqT K H a xs ∧ xs.length ≤ i⟩
theorem tup_ne_iter {h : Heap} {a it : Addr} {its : Array Value} {i : Nat} (p : h.IsTuple a its) (q : h.IsTupleIter it a i) : a ≠ it := by
  rintro rfl
  obtain ⟨o, h1, h2, _⟩ := p
  obtain ⟨o', h3, h4, _⟩ := q
  rw [h1] at h3; cases h3
  rw [h2] at h4
  exact absurd h4 (by decide)
theorem tup_ne_enum {h : Heap} {a e it : Addr} {its : Array Value} {i : Int} {old : Value} (p : h.IsTuple a its) (q : IsEnum h e it i old) : a ≠ e := by
  rintro rfl
  obtain ⟨o, h1, h2, _⟩ := p
  have q' : h.get? a = some _ := q
  rw [h1] at q'; cases q'
  exact absurd h2 (by simp)
theorem turn_enumT {P : Program} {w : World} {K : PySem.W.Frag} {elts : List Expr} {kk : Nat} {tpos : Pos} (a e it : Addr) :
    Turn P w K (.Tuple elts kk tpos) (Itf K a) [e, it] e (fun i h => (∃ old, IsEnum h e it ((i : Nat) : Int) old) ∧ h.IsTupleIter it a i ∧ e ≠ it) where
  mem := by simp
  obj := fun i h st b hb => by
    obtain ⟨⟨old, he⟩, ⟨o, ho, hc, hd⟩, _⟩ := st
    have e' : b = e ∨ b = it := by simpa using hb
    rcases e' with z | z
    · rw [z]; exact ⟨_, he, fun v q => nomatch q⟩
    · rw [z]; exact ⟨o, ho, fun v q => by rw [hd] at q; cases q⟩
  keep := fun i h h' st k => let ⟨⟨old, he⟩, hi, hne⟩ := st; ⟨⟨old, k e (by simp) _ he⟩, hi.at fun o q => k it (by simp) o q, hne⟩
  item := by
    intro X hP hw hK hc i pins s σ H E I hf st hg
    subst hP hw hK
    obtain ⟨⟨old, he⟩, hit, hne⟩ := st
    obtain ⟨xs, x, hq, hx⟩ := hg
    obtain ⟨its, rv, p, hz⟩ := I.tuple hq
    have p : s.heap.IsTuple a its.toArray := p
    obtain ⟨u, hu, ru⟩ := rv.get hx
    have hel : e < s.heap.objs.size := Heap.lt_size he
    have hil : it < s.heap.objs.size := by obtain ⟨_, q, _⟩ := hit; exact Heap.lt_size q
    have ai := tup_ne_iter p hit
    have ae := tup_ne_enum p he
    have D := Draws.tuple (prog := X.prog) (w := X.w) (A := X.A.in1) (I.ok.hd hc) it a ai its.toArray
    refine wpAny_pyNext_enum_itemD D he ⟨hit, p⟩ (by simpa using (List.getElem?_eq_some_iff.mp hu).1) hne (by simp [hne, Ne.symm ae]) fun y h' tk hy ho hit' hT hsz hk => ?_
    have ey : y = u := by
      have hy : its.toArray[i]? = some y := hy
      have : its[i]? = some y := by simpa using hy
      rw [hu] at this; exact (Option.some.inj this).symm
    subst ey
    refine ⟨_, rfl, wpAny_letOwnedTupleGo_enum (s := { s with heap := h', toks := tk + 1 }) ho fun h'' he' sb => ?_⟩
    have hT2 : h''.get? s.heap.objs.size = some { cls := .type "tuple", data := .seq #[.int i tk, y] } := (sb.2 _ (Nat.ne_of_gt hel)).trans hT
    have new : ObjOk X.prog X.w (upd H s.heap.objs.size (.tup [.int (i : Nat), x])) h'' s.heap.objs.size (.tup [.int (i : Nat), x]) :=
      ⟨by show 2 ≤ sizeLine; decide, [.int i tk, y], .cons ⟨_, rfl⟩ (.cons ru .nil), ⟨_, hT2, rfl, _, rfl⟩⟩
    have I1 : Inv X pins σ (upd H s.heap.objs.size (.tup [.int (i : Nat), x])) { s with heap := h'', toks := tk + 1 } :=
      I.turnedNew (ch := [e, it]) (fun b ob hb q => (sb.2 b (fun z => hb (by simp [z]))).trans (hk b ob (fun z => hb (by simp [z])) (fun z => hb (by simp [z])) q)) hf (Nat.le_refl _) new
    refine ⟨.ref s.heap.objs.size, _, I1, rfl, ⟨_, x, rfl, I.hok.fresh (Nat.le_refl _), rfl, fun ys hy => by rw [I.tuple_inj hy hq]; exact hx⟩, ⟨⟨y, ?_⟩, hit'.1.at fun o q => (sb.2 it (Ne.symm hne)).trans q, hne⟩, fun b hb => ?_⟩
    · have e1 : ((i + 1 : Nat) : Int) = (i : Int) + 1 := by omega
      rw [e1]; exact he'
    · have hb' : b < s.heap.objs.size := by
        have e' : b = e ∨ b = it := by simpa using hb
        rcases e' with z | z
        · rw [z]; exact hel
        · rw [z]; exact hil
      rw [upd_ne (Nat.ne_of_lt hb')]
      exact (hf b hb).1
  done := by
    intro X hP hw hK hc i pins s σ H E I hf st hg
    subst hP hw hK
    obtain ⟨⟨old, he⟩, hit, hne⟩ := st
    obtain ⟨xs, hq, hx⟩ := hg
    obtain ⟨its, rv, p, hz⟩ := I.tuple hq
    have p : s.heap.IsTuple a its.toArray := p
    have ai := tup_ne_iter p hit
    obtain ⟨f0, f1, f2, f3, f4, f5⟩ := hf it (by simp)
    have hT : s.TypeIs (.ref e) "enumerate" := ⟨_, he, rfl⟩
    unfold pyNext
    refine wpAny_bind (wpAny_attempt (wpAny_callSpecial?_slot (name := Str.ofString "__next__") hT F.slot_enumerate_next
      (wpAny_call_entry F.slot_enumerate_next hT F.entry_enumerate_next ?_ (F.args_enumerate_next_1 _))))
    show wpAny _ _ (field (.ref e) 2 >>= _) _ _ _
    refine wpAny_bind (wpAny_field he rfl (x := .ref it) rfl ?_)
    have hl := rv.length
    refine wpAny_bind (wpAny_nextOf_tuple_end (A := X.A.in1) (I.ok.hd hc) hit p (by simp; omega) fun h' x he' hx' => ?_)
    obtain ⟨o, ho, hc⟩ := hx'
    refine wpAny_bind (wpAny_isInstance (T := "StopIteration") (b := true) ⟨o, ho, hc⟩ isSubtype_stop ?_)
    exact wpAny_pure ⟨rfl, I.turned (t' := s.toks) (fun b o hb q => he' b o hb q) f0 f1 f3 f4 f5⟩
  self := fun A i s Q E st h => let ⟨⟨_, he⟩, _⟩ := st; wpAny_pyIter_enum he h
def iEnumT (K : PySem.W.Frag) (ta : TA) : TI := fun σ H R => ta σ H fun vs H1 => ∃ a xs, vs = [.ref a] ∧ SqT K H1 a xs ∧ R (Itf K a) H1
theorem pi_enumT {X : Cx} {e : Expr} {ta : TA} {p pos tpos : Pos} {elts : List Expr} {kk : Nat} (hg : Gl X "enumerate") (hm : X.mg "enumerate" = none) (ha : PA X [e] ta) (hs : starEach [e] X.env = [(false, eval e X.env)]) :
    PI X (.Tuple elts kk tpos) (.Call (.Name "enumerate" p) [e] [] pos) (iEnumT X.K ta) := by
  refine ⟨fun pins s σ H R I h => ?_⟩
  refine PyProof.Rows.Call_ (L2.ld_blt I hg hm PyProof.Rows.boot_enumerate (PyProof.Rows.callWith_type1 (thn (ha.run pos pins s σ H _ I h) fun us s1 ⟨vs, H1, I1, r1, q1⟩ => ?_) hs rfl))
  obtain ⟨a, xs, ex, hq, q⟩ := q1
  subst ex
  cases r1 with
  | cons r rr =>
    cases rr
    cases r
    obtain ⟨its, rv, p', hz⟩ := I1.tuple hq
    refine enum_begins1 (begins_tuple a its.toArray) (show s1.heap.IsTuple a its.toArray from p') fun h' he hit hsz hk => wpAny_pyIter_enum he ?_
    have I2 : Inv X pins σ H1 { s1 with heap := h' } := I1.kept (t' := s1.toks) hk
    refine ⟨s1.heap.objs.size + 1, [s1.heap.objs.size + 1, s1.heap.objs.size], _, _, H1, rfl, I2, turn_enumT a (s1.heap.objs.size + 1) s1.heap.objs.size, ⟨⟨.none, he⟩, ⟨_, hit, rfl, rfl⟩, Nat.succ_ne_self _⟩, fun b hb => ?_, q⟩
    have e' : b = s1.heap.objs.size + 1 ∨ b = s1.heap.objs.size := by simpa using hb
    have hle : s1.heap.objs.size ≤ b := by
      rcases e' with z | z
      · rw [z]; exact Nat.le_add_right _ _
      · rw [z]; exact Nat.le_refl _
    exact I1.fpOk hle (I1.hok.fresh hle)
end Ev
end
section
set_option Elab.async false
set_option linter.all false
/-! Ev19: targets and what is walked, by their evaluation. -/
namespace Ev
open PySem
open L2 (upd upd_same upd_ne ne_of ne_of_none Cx VK OpR SqL SqT Key kV Inv valV putK RelV HOk ObjOk IxR SlR TruR PSet PGet CallR MtR EP PE PT PA PW TE TT TA PO thn CX0 pass0 Room FnOk Gl Binds Cls Meth Mk PG PGs TG TGs PI TI Turn FpOk Loc)

abbrev Ft := D → Env → Mm → Option (Env × Mm)
abbrev Fts := List D → Env → Mm → Option (Env × Mm)
/-- what a store into a target is to reach -/
abbrev WishT (W : Wd) (ks : List Nat) (S : Addr → Prop) (ρ : Rho) (h : Mm) (H : HH) (σ : L2.St) (env' : Env) (h' : Mm) (Q : L2.St → HH → Prop) : Prop :=
  ∀ S' ρ' H' σ', Go S ρ h H S' ρ' h' H' → RH W H' S' ρ' h' → RE W H' S' ρ' env' σ' → (∀ vs, (∀ i ∈ ks, i ∈ vs) → L2.wipe σ' vs = L2.wipe σ vs) → Q σ' H'
def tT (W : Wd) (ks : List Nat) (g : Ft) : TG := fun v σ H Q => ∃ env S ρ h d env' h', RE W H S ρ env σ ∧ RH W H S ρ h ∧ RV W H S ρ d v ∧ g d env h = some (env', h') ∧ WishT W ks S ρ h H σ env' h' Q
def tTs (W : Wd) (ks : List Nat) (g : Fts) : TGs := fun vs σ H Q => ∃ env S ρ h ds env' h', RE W H S ρ env σ ∧ RH W H S ρ h ∧ RVs W H S ρ ds vs ∧ g ds env h = some (env', h') ∧ WishT W ks S ρ h H σ env' h' Q
section
variable {W : Wd} {X : Cx} {H H' : HH} {S S' : Addr → Prop} {ρ ρ' : Rho} {h h' : Mm} {pos : Pos}
theorem getE_set : ∀ (env : Env) (i j : Nat) (d e : D), getE (setE env i d) j = some e → (i = j ∧ e = d ∧ i < env.length) ∨ (i ≠ j ∧ getE env j = some e)
  | [], i, j, d, e, q => by simp [setE, getE] at q
  | x :: r, 0, 0, d, e, q => by simp [setE, getE] at q; exact .inl ⟨rfl, q.symm, Nat.zero_lt_succ _⟩
  | x :: r, 0, j + 1, d, e, q => .inr ⟨by omega, q⟩
  | x :: r, i + 1, 0, d, e, q => .inr ⟨by omega, q⟩
  | x :: r, i + 1, j + 1, d, e, q => by
    rcases getE_set r i j d e q with ⟨h1, h2, h3⟩ | ⟨h1, h2⟩
    · exact .inl ⟨by omega, h2, by simpa using h3⟩
    · exact .inr ⟨by omega, h2⟩
theorem setE_len : ∀ (env : Env) (i : Nat) (d : D), (setE env i d).length = env.length
  | [], _, _ => rfl
  | _ :: _, 0, _ => rfl
  | _ :: r, i + 1, d => by simp [setE, setE_len r i d]
theorem RE.set {env σ i d v} (x : RE W H S ρ env σ) (r : RV W H S ρ d v) : RE W H S ρ (setE env i d) (σ.set i (some v)) := by
  refine ⟨by rw [setE_len, List.length_set]; exact x.len, fun j e q => ?_⟩
  rcases getE_set env i j d e q with ⟨h1, h2, h3⟩ | ⟨h1, h2⟩
  · subst h1 h2
    refine ⟨v, ?_, r⟩
    rw [List.getElem?_set_self (by rw [← x.len]; exact h3)]
  · obtain ⟨u, h3, h4⟩ := x.at_ j e h2
    exact ⟨u, by rw [List.getElem?_set_ne h1]; exact h3, h4⟩
theorem wipe_at (σ : L2.St) (j : Nat) : ∀ vs : List Nat, (L2.wipe σ vs)[j]? = if j ∈ vs then (σ[j]?).map (fun _ => none) else σ[j]?
  | [] => by simp [L2.wipe]
  | v :: vs => by
    unfold L2.wipe
    by_cases e : v = j
    · subst e
      rw [if_pos (List.mem_cons_self ..), List.getElem?_set]
      simp only [if_true, L2.wipe_length]
      by_cases hl : v < σ.length
      · simp [hl]
      · simp [hl]
    · rw [List.getElem?_set_ne e, wipe_at σ j vs]
      have : (j ∈ v :: vs) ↔ (j ∈ vs) := by simp [Ne.symm e]
      simp only [this]
theorem wipe_set {σ : L2.St} {i : Nat} {o : Option L2.V} {vs : List Nat} (hi : i ∈ vs) : L2.wipe (σ.set i o) vs = L2.wipe σ vs := by
  apply List.ext_getElem?
  intro j
  rw [wipe_at, wipe_at]
  by_cases e : i = j
  · subst e
    rw [if_pos hi, if_pos hi]
    by_cases hl : i < σ.length
    · simp [hl]
    · simp [hl]
  · rw [List.getElem?_set_ne e]
theorem snd_gvar {i : Nat} {x : Str} (hN : X.N.Nodup) (hi : X.N[i]? = some x) (hx : Loc X.env.scope x) (hf : X.fn x = true ∨ X.env.scope.names.lookup x = some .local) : PG X (.Name x pos) (tT W [i] fun d env h => some (setE env i d, h)) := by
  refine ⟨fun pins s σ H v u Q I r hw => (L2.pg_name hN hi hx hf).run pins s σ H v u Q I r ?_⟩
  obtain ⟨env, S, ρ, h, d, env', h', re, R, rv, hg, wq⟩ := hw
  cases hg
  exact wq _ _ _ _ .refl R (re.set rv) fun vs hv => wipe_set (hv i (List.mem_singleton.mpr rfl))
theorem snd_gnil : PGs X [] (tTs W [] fun ds env h => match ds with | [] => some (env, h) | _ => none) := by
  refine ⟨fun pins s σ H vs us Q I r hw => L2.pgs_nil.run pins s σ H vs us Q I r ?_⟩
  obtain ⟨env, S, ρ, h, ds, env', h', re, R, rv, hg, wq⟩ := hw
  try dsimp only at hg
  split at hg
  · cases hg
    cases rv
    exact ⟨rfl, wq _ _ _ _ .refl R re fun _ _ => rfl⟩
  · cases hg
theorem assignEach_pl {e : Expr} {es : List Expr} {env : PySem.Env} (h : plE e = true) : assignEach (e :: es) env = (false, assign e env) :: assignEach es env := by
  cases e <;> first | rfl | cases h
theorem snd_gcons {e : Expr} {es : List Expr} {ks ls : List Nat} {g : Ft} {gs : Fts} (h1 : PG X e (tT W ks g)) (h2 : PGs X es (tTs W ls gs)) (pl : plE e = true) :
    PGs X (e :: es) (tTs W (ks ++ ls) fun ds env h => match ds with
    | d :: ds => (match g d env h with
      | some (env1, h1) => gs ds env1 h1
      | none => none)
    | [] => none) := by
  refine ⟨fun pins s σ H vs us Q I r hw => (L2.pgs_cons h1 h2 (by rw [assignEach_pl pl] <;> rfl)).run pins s σ H vs us Q I r ?_⟩
  obtain ⟨env, S, ρ, h, ds, env', h', re, R, rv, hg, wq⟩ := hw
  try dsimp only at hg
  split at hg
  rotate_left
  · cases hg
  cases rv with
  | cons a t =>
    split at hg
    rotate_left
    · cases hg
    rename_i env1 h1 e1
    refine ⟨_, _, rfl, env, S, ρ, h, _, env1, h1, re, R, a, e1, fun S1 ρ1 H1 σ1 g1 R1 re1 w1 => ?_⟩
    refine ⟨env1, S1, ρ1, h1, _, env', h', re1, R1, t.go g1 R, hg, fun S2 ρ2 H2 σ2 g2 R2 re2 w2 => ?_⟩
    exact wq _ _ _ _ (g1.trans g2) R2 re2 fun vs hv => (w2 vs fun i hi => hv i (List.mem_append_right _ hi)).trans (w1 vs fun i hi => hv i (List.mem_append_left _ hi))
theorem assign_len {env : PySem.Env} : ∀ {es : List Expr}, plL es = true → (assignEach es env).length = es.length
  | [], _ => rfl
  | e :: r, h => by
    simp only [plL, Bool.and_eq_true] at h
    rw [assignEach_pl h.1, List.length_cons, List.length_cons, assign_len h.2]
theorem assign_find {env : PySem.Env} : ∀ {es : List Expr}, plL es = true → (assignEach es env).findIdx? (·.1) = none
  | [], _ => rfl
  | e :: r, h => by
    simp only [plL, Bool.and_eq_true] at h
    rw [assignEach_pl h.1]
    have := assign_find (env := env) h.2
    simp only [List.findIdx?_cons, this]
    rfl
theorem snd_gtup {es : List Expr} {k : Nat} {ks : List Nat} {gs : Fts} (xw : XW W X) (hs : PGs X es (tTs W ks gs)) (pl : plL es = true) (hlen : ∀ ds env h r, gs ds env h = some r → ds.length = es.length) :
    PG X (.Tuple es k pos) (tT W ks fun d env h => match d with | .tup xs => gs xs env h | _ => none) := by
  refine ⟨fun pins s σ H v u Q I r hw => (L2.pg_tup xw.calm hs (assign_len pl) (assign_find pl)).run pins s σ H v u Q I r ?_⟩
  obtain ⟨env, S, ρ, h, d, env', h', re, R, rv, hg, wq⟩ := hw
  try dsimp only at hg
  split at hg
  · cases rv with
    | tup t rs =>
      exact ⟨_, _, rfl, t.sq xw.K, by rw [← rs.len]; exact hlen _ _ _ _ hg, env, S, ρ, h, _, env', h', re, R, rs, hg, wq⟩
  · cases hg
theorem snd_gsub {o i : Expr} {fo fi : Fe} (xw : XW W X) (ho : PE X o (tE W fo)) (hi : PE X i (tE W fi)) (pl : plE i = true) :
    PG X (.Subscript o i pos) (tT W [] fun d env h => match fo env h with
    | some (x, h1) => (match fi env h1 with
      | some (y, h2) => (match setD x y d h2 with
        | some h3 => some (env, h3)
        | none => none)
      | none => none)
    | none => none) := by
  refine ⟨fun pins s σ H v u Q I r hw => (L2.pg_sub ho hi (setR xw) (fun v => by cases i <;> first | rfl | cases pl)).run pins s σ H v u Q I r ?_⟩
  obtain ⟨env, S, ρ, h, d, env', h', re, R, rv, hg, wq⟩ := hw
  try dsimp only at hg
  split at hg
  rotate_left
  · cases hg
  rename_i x h1 ea
  split at hg
  rotate_left
  · cases hg
  rename_i y h2 eb
  split at hg
  rotate_left
  · cases hg
  rename_i h3 ec
  cases hg
  refine ⟨env, S, ρ, h, x, h1, re, R, ea, fun S1 ρ1 H1 v1 g1 R1 r1 => ?_⟩
  refine ⟨env, S1, ρ1, h1, y, h2, re.go g1 R, R1, eb, fun S2 ρ2 H2 v2 g2 R2 r2 => ?_⟩
  have g := g1.trans g2
  exact ⟨S2, ρ2, h2, x, y, d, _, r1.go g2 R1, r2, rv.go g R, R2, ec, fun H3 g3 R3 => wq _ _ _ _ (g.trans g3) R3 (re.go (g.trans g3) R) fun _ _ => rfl⟩
end
/-! ### what is walked -/
def Seen (W : Wd) (S : Addr → Prop) (ρ : Rho) (h : Mm) (H : HH) (w : Option (Nat × List D)) (xs : List D) (J : L2.It) : Prop :=
  ∀ i S2 ρ2 h2 H2, Go S ρ h H S2 ρ2 h2 H2 → RH W H2 S2 ρ2 h2 → stay h2 w = true →
    (xs.length ≤ i → J.stop i H2) ∧ ∀ d, xs[i]? = some d → J.go i H2 ∧ ∀ v H3, J.yld i H2 v H3 → ∃ S3, Go S2 ρ2 h2 H2 S3 ρ2 h2 H3 ∧ RH W H3 S3 ρ2 h2 ∧ RV W H3 S3 ρ2 d v
abbrev Fi := Env → Mm → Option (List D × Option (Nat × List D) × Mm)
def tI (W : Wd) (f : Fi) : TI := fun σ H R => ∃ env S ρ h xs w h', RE W H S ρ env σ ∧ RH W H S ρ h ∧ f env h = some (xs, w, h') ∧ ∀ S' ρ' H' J, Go S ρ h H S' ρ' h' H' → RH W H' S' ρ' h' → Seen W S' ρ' h' H' w xs J → R J H'
mutual
theorem same_eq : ∀ {a b : D}, same a b = true → a = b
  | .non, b, h => by cases b <;> first | rfl | cases h
  | .bl x, b, h => by cases b with
    | bl y => simp [same] at h; rw [h]
    | _ => cases h
  | .int x, b, h => by cases b with
    | int y => simp [same] at h; rw [h]
    | _ => cases h
  | .str x, b, h => by cases b with
    | str y => simp [same] at h; rw [h]
    | _ => cases h
  | .tup xs, b, h => by cases b with
    | tup ys => simp only [same] at h; rw [sameL_eq h]
    | _ => cases h
  | .lst xs, b, h => by cases b with
    | lst ys => simp only [same] at h; rw [sameL_eq h]
    | _ => cases h
  | .ref x, b, h => by cases b with
    | ref y => simp [same] at h; rw [h]
    | _ => cases h
  | .dic _ _, b, h => by cases b <;> cases h
  | .frl _, b, h => by cases b <;> cases h
  | .kd xs, b, h => by cases b with
    | kd ys => simp only [same] at h; rw [sameF_eq h]
    | _ => cases h
  | .ins _ _, b, h => by cases b <;> cases h
theorem sameF_eq : ∀ {xs ys : List (Str × D)}, sameF xs ys = true → xs = ys
  | [], [], _ => rfl
  | [], _ :: _, h => by cases h
  | _ :: _, [], h => by cases h
  | (a, x) :: xs, (b, y) :: ys, h => by
    simp only [sameF, Bool.and_eq_true, decide_eq_true_eq] at h
    rw [h.1.1, same_eq h.1.2, sameF_eq h.2]
theorem sameL_eq : ∀ {xs ys : List D}, sameL xs ys = true → xs = ys
  | [], [], _ => rfl
  | [], _ :: _, h => by cases h
  | _ :: _, [], h => by cases h
  | x :: xs, y :: ys, h => by
    simp only [sameL, Bool.and_eq_true] at h
    rw [same_eq h.1, sameL_eq h.2]
end
theorem stay_get {h : Mm} {n : Nat} {xs : List D} (q : stay h (some (n, xs)) = true) : h.get n = some (.lst xs) := by
  have q : (match h.get n with | some (.lst ys) => sameL ys xs | _ => false) = true := q
  split at q
  · rename_i ys g
    rw [sameL_eq q] at g; exact g
  · cases q
section
variable {W : Wd} {X : Cx} {H H' : HH} {S S' : Addr → Prop} {ρ ρ' : Rho} {h h' : Mm} {pos : Pos} {tg : Expr}
theorem rvs_get : ∀ {xs : List D} {vs : List L2.V} {i : Nat} {d : D}, RVs W H S ρ xs vs → xs[i]? = some d → ∃ v, vs[i]? = some v ∧ RV W H S ρ d v
  | _, _, _, _, .nil, e => by simp at e
  | _, _, 0, _, .cons a _, e => by simp at e; subst e; exact ⟨_, rfl, a⟩
  | _, _, i + 1, _, .cons _ t, e => by
    obtain ⟨v, h1, h2⟩ := rvs_get (i := i) t (by simpa using e)
    exact ⟨v, by simpa using h1, h2⟩
/-- a settled or live list, walked -/
theorem sqL_later {d : D} {xs : List D} {w v} (hw : walkOf h d = some (xs, w)) (R : RH W H S ρ h) (r : RV W H S ρ d v) : ∃ a, v = .ref a ∧
    ((∃ vs, H a = some (.lst vs)) ∧ (∀ S2 ρ2 h2 H2, Go S ρ h H S2 ρ2 h2 H2 → RH W H2 S2 ρ2 h2 → stay h2 w = true → ∃ vs, H2 a = some (.lst vs) ∧ RVs W H2 S2 ρ2 xs vs)
    ∨ (∃ ys, d = .tup ys) ∧ (∃ vs, RT W H S a vs) ∧ w = none ∧ ∀ S2 ρ2 h2 H2, Go S ρ h H S2 ρ2 h2 H2 → RH W H2 S2 ρ2 h2 → ∃ vs, RT W H2 S2 a vs ∧ RVs W H2 S2 ρ2 xs vs) := by
  cases d with
  | tup ys =>
    cases hw
    cases r with
    | tup t r => exact ⟨_, rfl, .inr ⟨⟨_, rfl⟩, ⟨_, t⟩, rfl, fun S2 ρ2 h2 H2 g R2 => ⟨_, t.mono g.sS (g.s2 R), r.go g R⟩⟩⟩
  | lst ys =>
    cases hw
    cases r with
    | lst s e r => exact ⟨_, rfl, .inl ⟨⟨_, e⟩, fun S2 ρ2 h2 H2 g R2 _ => ⟨_, g.s2 R _ _ s e, r.go g R⟩⟩⟩
  | ref n =>
    cases r with
    | @ref _ a q =>
      have hw : (match h.get n with | some (.lst xs) => some (xs, some (n, xs)) | _ => none) = some (xs, w) := hw
      split at hw
      · rename_i ys g
        cases hw
        obtain ⟨a', ho, q', ea, _, ro⟩ := R.lv _ _ g
        rw [q] at q'; cases q'
        cases ro with
        | lst r =>
          refine ⟨a, rfl, .inl ⟨⟨_, ea⟩, fun S2 ρ2 h2 H2 g2 R2 st => ?_⟩⟩
          obtain ⟨a2, ho2, q2, ea2, _, ro2⟩ := R2.lv _ _ (stay_get st)
          rw [g2.rr _ _ q] at q2; cases q2
          cases ro2 with
          | lst r2 => exact ⟨_, ea2, r2⟩
      · cases hw
  | _ => cases hw
theorem snd_iof {e : Expr} {fe : Fe} (xw : XW W X) (he : PE X e (tE W fe)) : PI X tg e (tI W fun env h => match fe env h with
    | some (d, h1) => (match walkOf h1 d with
      | some (xs, w) => some (xs, w, h1)
      | none => none)
    | none => none) := by
  refine ⟨fun pins s σ H R I hw => ?_⟩
  obtain ⟨env, S, ρ, h, xs, w, h', re, R0, hf, wq⟩ := hw
  try dsimp only at hf
  split at hf
  rotate_left
  · cases hf
  rename_i d h1 ea
  split at hf
  rotate_left
  · cases hf
  rename_i xs' w' ew
  cases hf
  by_cases ht : ∃ ys, d = .tup ys
  · obtain ⟨ys, rfl⟩ := ht
    refine (L2.pi_tup he).run pins s σ H R I ⟨env, S, ρ, h, _, _, re, R0, ea, fun S1 ρ1 H1 v1 g1 R1 r1 => ?_⟩
    obtain ⟨a, rfl, c | ⟨_, ⟨vs, t⟩, rfl, lt⟩⟩ := sqL_later ew R1 r1
    · obtain ⟨⟨vs, e⟩, c⟩ := c
      obtain ⟨vs', e', _⟩ := c S1 ρ1 h' H1 .refl R1 (by cases ew; rfl)
      cases r1 with
      | tup t r =>
        refine ⟨a, rfl, ⟨_, t.sq xw.K⟩, wq S1 ρ1 H1 _ g1 R1 fun i S2 ρ2 h2 H2 g2 R2 st => ?_⟩
        cases ew
        have t2 := t.mono g2.sS (g2.s2 R1)
        have r2 := r.go g2 R1
        refine ⟨fun hl => ⟨_, t2.sq xw.K, by rw [← r2.len]; exact hl⟩, fun d hd => ?_⟩
        obtain ⟨v, hv, rv⟩ := rvs_get r2 hd
        exact ⟨⟨_, v, t2.sq xw.K, hv⟩, fun x H3 y => by
          obtain ⟨rfl, y⟩ := y
          have := y _ (t2.sq xw.K)
          rw [hv] at this; cases this
          exact ⟨S2, .refl, R2, rv⟩⟩
    · refine ⟨a, rfl, ⟨vs, t.sq xw.K⟩, wq S1 ρ1 H1 _ g1 R1 fun i S2 ρ2 h2 H2 g2 R2 st => ?_⟩
      obtain ⟨vs2, t2, r2⟩ := lt S2 ρ2 h2 H2 g2 R2
      refine ⟨fun hl => ⟨vs2, t2.sq xw.K, by rw [← r2.len]; exact hl⟩, fun d hd => ?_⟩
      obtain ⟨v, hv, rv⟩ := rvs_get r2 hd
      exact ⟨⟨vs2, v, t2.sq xw.K, hv⟩, fun x H3 y => by
        obtain ⟨rfl, y⟩ := y
        have := y _ (t2.sq xw.K)
        rw [hv] at this; cases this
        exact ⟨S2, .refl, R2, rv⟩⟩
  · refine (L2.pi_list he).run pins s σ H R I ⟨env, S, ρ, h, _, _, re, R0, ea, fun S1 ρ1 H1 v1 g1 R1 r1 => ?_⟩
    obtain ⟨a, rfl, ⟨⟨vs, e⟩, lt⟩ | ⟨z, _⟩⟩ := sqL_later ew R1 r1
    · refine ⟨a, rfl, ⟨vs, SqL.of e⟩, wq S1 ρ1 H1 _ g1 R1 fun i S2 ρ2 h2 H2 g2 R2 st => ?_⟩
      obtain ⟨vs2, e2, r2⟩ := lt S2 ρ2 h2 H2 g2 R2 st
      refine ⟨fun hl => ⟨vs2, SqL.of e2, by rw [← r2.len]; exact hl⟩, fun d hd => ?_⟩
      obtain ⟨v, hv, rv⟩ := rvs_get r2 hd
      exact ⟨⟨vs2, v, SqL.of e2, hv⟩, fun x H3 y => by
        obtain ⟨rfl, y⟩ := y
        have := y _ (SqL.of e2)
        rw [hv] at this; cases this
        exact ⟨S2, .refl, R2, rv⟩⟩
    · exact absurd z ht
theorem rngL_len : ∀ (n : Nat) (lo c : Int), (rngL n lo c).length = n
  | 0, _, _ => rfl
  | n + 1, lo, c => by simp [rngL, rngL_len n]
theorem rngL_get : ∀ (n : Nat) (lo c : Int) (i : Nat) (d : D), (rngL n lo c)[i]? = some d → i < n ∧ d = .int (lo + i * c)
  | 0, _, _, i, d, e => by simp [rngL] at e
  | n + 1, lo, c, 0, d, e => by simp [rngL] at e; subst e; exact ⟨Nat.zero_lt_succ _, by simp⟩
  | n + 1, lo, c, i + 1, d, e => by
    obtain ⟨h1, h2⟩ := rngL_get n (lo + c) c i d (by simpa [rngL] using e)
    refine ⟨by omega, ?_⟩
    rw [h2, Int.natCast_succ, Int.add_mul, Int.one_mul]
    congr 1
    omega
theorem i63_ok {i : Int} (h : i63 i = true) : -(2 ^ 62) ≤ i ∧ i < 2 ^ 62 := by simpa [i63] using h
theorem seen_r {S ρ h H lo n} : Seen W S ρ h H none (rngL n lo 1) (L2.Itr lo n) := fun i S2 ρ2 h2 H2 g R st => by
  refine ⟨fun hl => by rw [rngL_len] at hl; exact hl, fun d hd => ?_⟩
  obtain ⟨h1, rfl⟩ := rngL_get _ _ _ _ _ hd
  refine ⟨h1, fun v H3 y => ?_⟩
  obtain ⟨rfl, rfl⟩ := y
  refine ⟨S2, .refl, R, ?_⟩
  rw [Int.mul_one]
  exact .int _
theorem seen_rc {S ρ h H lo c n} : Seen W S ρ h H none (rngL n lo c) (L2.Itc lo c n) := fun i S2 ρ2 h2 H2 g R st => by
  refine ⟨fun hl => by rw [rngL_len] at hl; exact hl, fun d hd => ?_⟩
  obtain ⟨h1, rfl⟩ := rngL_get _ _ _ _ _ hd
  refine ⟨h1, fun v H3 y => ?_⟩
  obtain ⟨rfl, rfl⟩ := y
  exact ⟨S2, .refl, R, .int _⟩
theorem snd_irng {es : List Expr} {fs : Fa} {p : Pos} (hg : Gl X "range") (hm : X.mg "range" = none) (ha : PA X es (tEs W fs)) (pl : plL es = true) (hl : ∀ env h vs h1, fs env h = some (vs, h1) → vs.length = es.length) :
    PI X tg (.Call (.Name "range" p) es [] pos) (tI W fun env h => match fs env h with
    | some (vs, h1) => (match rngD vs with
      | some xs => some (xs, none, h1)
      | none => none)
    | none => none) := by
  refine ⟨fun pins s σ H R I hw => ?_⟩
  obtain ⟨env, S, ρ, h, xs, w, h', re, R0, hf, wq⟩ := hw
  try dsimp only at hf
  split at hf
  rotate_left
  · cases hf
  rename_i vs h1 ea
  split at hf
  rotate_left
  · cases hf
  rename_i xs' ex
  cases hf
  have ln := hl _ _ _ _ ea
  unfold rngD at ex
  split at ex
  · rename_i j
    obtain ⟨hc, ex⟩ := bif_some ex
    cases ex
    obtain ⟨c1, c2⟩ := i63_ok hc
    match es, ln with
    | [a], _ =>
      simp only [plL, Bool.and_eq_true] at pl
      refine (L2.pi_range1 hg hm ha (star_pl pl.1)).run pins s σ H R I ⟨env, S, ρ, h, _, _, re, R0, ea, fun S1 ρ1 H1 us g1 R1 r1 => ?_⟩
      obtain ⟨v, rfl, rv⟩ := one_of rfl r1
      cases rv
      exact ⟨j, rfl, c1, c2, wq S1 ρ1 H1 _ g1 R1 seen_r⟩
  · rename_i i j
    obtain ⟨hc, ex⟩ := bif_some ex
    cases ex
    rw [Bool.and_eq_true] at hc
    obtain ⟨c1, c2⟩ := i63_ok hc.1
    obtain ⟨c3, c4⟩ := i63_ok hc.2
    match es, ln with
    | [a, b], _ =>
      simp only [plL, Bool.and_eq_true] at pl
      refine (L2.pi_range2 hg hm ha (by rw [star_pl pl.1, star_pl pl.2.1] <;> rfl) (star_pl pl.2.1)).run pins s σ H R I ⟨env, S, ρ, h, _, _, re, R0, ea, fun S1 ρ1 H1 us g1 R1 r1 => ?_⟩
      cases r1 with
      | cons a t => cases t with
        | cons b t =>
          cases t; cases a; cases b
          exact ⟨i, j, rfl, ⟨c1, c2, c3, c4⟩, wq S1 ρ1 H1 _ g1 R1 seen_r⟩
  · rename_i i j c
    obtain ⟨hc, ex⟩ := bif_some ex
    cases ex
    simp only [Bool.and_eq_true, decide_eq_true_eq] at hc
    obtain ⟨⟨hc1, hc2⟩, rfl⟩ := hc
    obtain ⟨c1, c2⟩ := i63_ok hc1
    obtain ⟨c3, c4⟩ := i63_ok hc2
    match es, ln with
    | [a, b, c], _ =>
      simp only [plL, Bool.and_eq_true] at pl
      refine (L2.pi_range3 hg hm ha (star_pl pl.1) (pl_any (by simp [plL, pl.2.1, pl.2.2.1]))).run pins s σ H R I ⟨env, S, ρ, h, _, _, re, R0, ea, fun S1 ρ1 H1 us g1 R1 r1 => ?_⟩
      cases r1 with
      | cons a t => cases t with
        | cons b t => cases t with
          | cons c t =>
            cases t; cases a; cases b; cases c
            exact ⟨i, j, -1, _, rfl, L2.RgC.neg c1 c2 c3 c4, wq S1 ρ1 H1 _ g1 R1 seen_rc⟩
  · cases ex
end
end Ev
end
section
set_option Elab.async false
set_option linter.all false
/-! Ev20: enumerate; list comprehensions. -/
namespace Ev
open PySem
open L2 (upd upd_same upd_ne ne_of ne_of_none Cx VK OpR SqL SqT Key kV Inv valV putK RelV HOk ObjOk IxR SlR TruR PSet PGet CallR MtR EP PE PT PA PW TE TT TA PO thn CX0 pass0 Room FnOk Gl Binds Cls Meth Mk PG PGs TG TGs PI TI Turn FpOk Loc PTs BlkOk)

section
variable {W : Wd} {X : Cx} {H H' : HH} {S S' : Addr → Prop} {ρ ρ' : Rho} {h h' : Mm} {pos : Pos} {tg : Expr}
theorem enmL_len : ∀ (xs : List D) (n : Nat), (enmL n xs).length = xs.length
  | [], _ => rfl
  | x :: r, n => by simp [enmL, enmL_len r]
theorem enmL_get : ∀ (xs : List D) (n i : Nat) (d : D), (enmL n xs)[i]? = some d → ∃ x, xs[i]? = some x ∧ d = .tup [.int ((n + i : Nat) : Int), x]
  | [], _, i, d, e => by simp [enmL] at e
  | x :: r, n, 0, d, e => by simp [enmL] at e; subst e; exact ⟨x, rfl, by simp⟩
  | x :: r, n, i + 1, d, e => by
    obtain ⟨y, h1, h2⟩ := enmL_get r (n + 1) i d (by simpa [enmL] using e)
    refine ⟨y, by simpa using h1, ?_⟩
    rw [h2]
    have : n + 1 + i = n + (i + 1) := by omega
    rw [this]
theorem pair_new {S2 : Addr → Prop} {ρ2 : Rho} {h2 : Mm} {H2 : HH} {T : Addr} {i : Int} {d : D} {v : L2.V} (R : RH W H2 S2 ρ2 h2) (hT : H2 T = none) (r : RV W H2 S2 ρ2 d v) :
    ∃ S3, Go S2 ρ2 h2 H2 S3 ρ2 h2 (upd H2 T (.tup [.int i, v])) ∧ RH W (upd H2 T (.tup [.int i, v])) S3 ρ2 h2 ∧ RV W (upd H2 T (.tup [.int i, v])) S3 ρ2 (.tup [.int i, d]) (.ref T) := by
  obtain ⟨g, R'⟩ := settle (ho := .tup [.int i, v]) R hT
  exact ⟨_, g, R', .tup (.inl ⟨.inr rfl, upd_same⟩) (.cons (.int _) (.cons (r.go g R) .nil))⟩
theorem snd_ienm {e : Expr} {fe : Fe} {elts : List Expr} {kk : Nat} {tpos p : Pos} (xw : XW W X) (hg : Gl X "enumerate") (hm : X.mg "enumerate" = none) (he : PE X e (tE W fe)) (pl : plE e = true) :
    PI X (.Tuple elts kk tpos) (.Call (.Name "enumerate" p) [e] [] pos) (tI W fun env h => match fe env h with
    | some (d, h1) => (match walkOf h1 d with
      | some (xs, w) => some (enmL 0 xs, w, h1)
      | none => none)
    | none => none) := by
  have ha : PA X [e] (L2.tCons (tE W fe) L2.tNil) := L2.pa_cons he L2.pa_nil (star_pl pl)
  refine ⟨fun pins s σ H R I hw => ?_⟩
  obtain ⟨env, S, ρ, h, xs, w, h', re, R0, hf, wq⟩ := hw
  try dsimp only at hf
  split at hf
  rotate_left
  · cases hf
  rename_i d h1 ea
  split at hf
  rotate_left
  · cases hf
  rename_i xs' w' ew
  cases hf
  by_cases ht : ∃ ys, d = .tup ys
  · refine (L2.PI.run (pi_enumT hg hm ha (star_pl pl))) pins s σ H R I ⟨env, S, ρ, h, _, _, re, R0, ea, fun S1 ρ1 H1 v1 g1 R1 r1 => ?_⟩
    obtain ⟨ys, rfl⟩ := ht
    cases ew
    cases r1 with
    | @tup a vs ys t r =>
      refine ⟨a, vs, rfl, t.sq xw.K, wq S1 ρ1 H1 _ g1 R1 fun i S2 ρ2 h2 H2 g2 R2 st => ?_⟩
      have t2 := (t.mono g2.sS (g2.s2 R1)).sq xw.K
      have r2 := r.go g2 R1
      refine ⟨fun hl => ⟨vs, t2, by rw [enmL_len] at hl; rw [← r2.len]; exact hl⟩, fun d hd => ?_⟩
      obtain ⟨x, hx, rfl⟩ := enmL_get _ _ _ _ hd
      obtain ⟨v, hv, rv⟩ := rvs_get r2 hx
      refine ⟨⟨vs, v, t2, hv⟩, fun u H3 y => ?_⟩
      obtain ⟨T, x', rfl, hT, rfl, y⟩ := y
      have := y _ t2
      rw [hv] at this; cases this
      rw [Nat.zero_add]
      exact pair_new R2 hT rv
  · refine (L2.pi_enum hg hm ha (star_pl pl)).run pins s σ H R I ⟨env, S, ρ, h, _, _, re, R0, ea, fun S1 ρ1 H1 v1 g1 R1 r1 => ?_⟩
    obtain ⟨a, rfl, ⟨⟨vs, e⟩, lt⟩ | ⟨z, _⟩⟩ := sqL_later ew R1 r1
    · refine ⟨a, vs, rfl, SqL.of e, wq S1 ρ1 H1 _ g1 R1 fun i S2 ρ2 h2 H2 g2 R2 st => ?_⟩
      obtain ⟨vs2, e2, r2⟩ := lt S2 ρ2 h2 H2 g2 R2 st
      refine ⟨fun hl => ⟨vs2, SqL.of e2, by rw [enmL_len] at hl; rw [← r2.len]; exact hl⟩, fun d hd => ?_⟩
      obtain ⟨x, hx, rfl⟩ := enmL_get _ _ _ _ hd
      obtain ⟨v, hv, rv⟩ := rvs_get r2 hx
      refine ⟨⟨vs2, v, SqL.of e2, hv⟩, fun u H3 y => ?_⟩
      obtain ⟨T, x', rfl, hT, rfl, y⟩ := y
      have := y _ (SqL.of e2)
      rw [hv] at this; cases this
      rw [Nat.zero_add]
      exact pair_new R2 hT rv
    · exact absurd z ht

/-! ### comprehensions -/
theorem getE_eq : ∀ (env : Env) (i : Nat), getE env i = (env[i]?).join
  | [], i => by simp [getE]
  | x :: r, 0 => by simp [getE]
  | x :: r, i + 1 => by simp [getE, getE_eq r i]
theorem wipeE_len (env : Env) : ∀ vs : List Nat, (wipeE env vs).length = env.length
  | [] => rfl
  | v :: vs => by unfold wipeE; rw [List.length_set, wipeE_len env vs]
theorem wipeE_get (env : Env) (j : Nat) (d : D) : ∀ vs : List Nat, getE (wipeE env vs) j = some d → j ∉ vs ∧ getE env j = some d
  | [], h => ⟨by simp, h⟩
  | v :: vs, h => by
    unfold wipeE at h
    rw [getE_eq] at h
    by_cases e : v = j
    · subst e
      rw [List.getElem?_set] at h
      simp only [if_true] at h
      split at h <;> simp at h
    · rw [List.getElem?_set_ne e, ← getE_eq] at h
      obtain ⟨h1, h2⟩ := wipeE_get env j d vs h
      exact ⟨by simp [h1, Ne.symm e], h2⟩
theorem RE.wipe {env σ} (x : RE W H S ρ env σ) (vs : List Nat) : RE W H S ρ (wipeE env vs) (L2.wipe σ vs) := by
  refine ⟨by rw [wipeE_len, L2.wipe_length]; exact x.len, fun j d e => ?_⟩
  obtain ⟨h1, h2⟩ := wipeE_get env j d vs e
  obtain ⟨v, h3, h4⟩ := x.at_ j d h2
  exact ⟨v, by rw [wipe_at, if_neg h1]; exact h3, h4⟩
theorem wipe_wipe (σ : L2.St) (vs : List Nat) : L2.wipe (L2.wipe σ vs) vs = L2.wipe σ vs := by
  apply List.ext_getElem?
  intro j
  rw [wipe_at, wipe_at]
  split
  · cases σ[j]? <;> rfl
  · rfl
theorem drop_cons {α : Type} {xs : List α} {i : Nat} (h : i < xs.length) : xs.drop i = xs[i] :: xs.drop (i + 1) := (List.drop_eq_getElem_cons h)
abbrev turnC (g : Ft) (fc : Fc) (fe : Fe) (env : Env) : D → Mm → Option (Option D × Mm) := fun x h => match g x env h with
  | some (env2, h2) => (match fc env2 h2 with
    | some (true, h3) => (match fe env2 h3 with
      | some (y, h4) => some (some y, h4)
      | none => none)
    | some (false, h3) => some (none, h3)
    | none => none)
  | none => none
abbrev fComp (z : Bool) (own : List Nat) (fi : Fi) (g : Ft) (fc : Fc) (fe : Fe) : Fe := fun env h => match fi env h with
  | some (xs, w, h1) => (match cmpL (fun h => stay h w) (turnC g fc fe (wipeE env own)) xs h1 with
    | some (ys, h2) => bif Nat.ble xs.length most then some (mkO z (.lst ys) h2) else none
    | none => none)
  | none => none
theorem lc_read {z : Bool} {own ks : List Nat} {fi : Fi} {g : Ft} {fc : Fc} {fe : Fe} (hks : ∀ i ∈ ks, i ∈ own) {σ H Q} (hw : tE W (fComp z own fi g fc fe) σ H Q) : L2.tLc (tI W fi) (tT W ks g) (tC W fc) (tE W fe) own σ H Q := by
  obtain ⟨env, S, ρ, h, d, h', re, R, hf, wq⟩ := hw
  unfold fComp at hf
  try dsimp only at hf
  split at hf
  rotate_left
  · cases hf
  rename_i xs w h1 ea
  split at hf
  rotate_left
  · cases hf
  rename_i all hE ec
  obtain ⟨hz, hf⟩ := bif_some hf
  obtain ⟨rfl, rfl⟩ := some_pair hf
  have hz := ble_most hz
  refine ⟨env, S, ρ, h, xs, w, h1, re, R, ea, fun S1 ρ1 H1 J g1 R1 sn Dn hD => ?_⟩
  obtain ⟨ns1, nl1⟩ := new_no R1 hD
  let Wit : Nat → HH → Prop := fun i H2 => ∃ S2 ρ2 h2 acc done ys, Go S1 ρ1 h1 H1 S2 ρ2 h2 H2 ∧ RH W H2 S2 ρ2 h2 ∧ H2 Dn = some (.lst acc) ∧ ¬ S2 Dn ∧ ¬ Liv ρ2 h2 Dn ∧ RVs W H2 S2 ρ2 done acc ∧ done.length ≤ i ∧
    cmpL (fun h => stay h w) (turnC g fc fe (wipeE env own)) (xs.drop i) h2 = some (ys, hE) ∧ done ++ ys = all
  refine ⟨fun i m H2 => m = xs.length - i ∧ i ≤ xs.length ∧ Wit i H2, ⟨xs.length, rfl, Nat.zero_le _, S1, ρ1, h1, [], [], all, Go.upd .refl hD, R1.fo ns1 nl1, upd_same, ns1, nl1, .nil, Nat.le_refl _, ec, rfl⟩, ?_⟩
  rintro i m H2 ⟨rfl, hi, S2, ρ2, h2, acc, done, ys, g2, R2, eD, nsD, nlD, rd, hl, ev, ha⟩
  by_cases hlt : i < xs.length
  · rw [drop_cons hlt] at ev
    simp only [cmpL] at ev
    obtain ⟨st, ev⟩ := bif_some ev
    split at ev
    rotate_left
    · cases ev
    rename_i o h3 et
    split at ev
    rotate_left
    · cases ev
    rename_i ys' h'' er
    cases ev
    obtain ⟨_, sn2⟩ := sn i S2 ρ2 h2 H2 g2 R2 st
    obtain ⟨go, yl⟩ := sn2 xs[i] (by simp [hlt])
    refine .inr ⟨go, Wit (i + 1), fun H' w' => ⟨xs.length - (i + 1), by omega, rfl, hlt, w'⟩, fun v H3 y => ?_⟩
    obtain ⟨S3, g3, R3, r3⟩ := yl v H3 y
    obtain ⟨eD3, nsD3, nlD3⟩ := g3.foreign eD nsD nlD
    simp only [turnC] at et
    split at et
    rotate_left
    · cases et
    rename_i env2 h4 eg
    have g13 := g2.trans g3
    have re3 : RE W H3 S3 ρ2 env σ := (re.go g1 R).go g13 R1
    refine ⟨wipeE env own, S3, ρ2, h2, xs[i], env2, h4, re3.wipe own, R3, r3, eg, fun S4 ρ4 H4 σ4 g4 R4 re4 w4 => ⟨by rw [w4 own hks, wipe_wipe], ?_⟩⟩
    split at et
    · rename_i h5 ef
      split at et
      rotate_left
      · cases et
      rename_i y' h6 eg2
      cases et
      refine ⟨env2, S4, ρ4, h4, true, h5, re4, R4, ef, fun S5 ρ5 H5 g5 R5 => ?_⟩
      show ite _ _ _
      rw [if_pos rfl]
      refine ⟨env2, S5, ρ5, h5, y', _, re4.go g5 R4, R5, eg2, fun S6 ρ6 H6 v6 g6 R6 r6 => ?_⟩
      have g36 := (g4.trans g5).trans g6
      obtain ⟨eD6, nsD6, nlD6⟩ := g36.foreign eD3 nsD3 nlD3
      have rd6 : RVs W H6 S6 ρ6 done acc := (rd.go g3 R2).go g36 R3
      refine ⟨acc, eD6, by rw [← rd.len]; omega, S6, ρ6, _, acc ++ [v6], done ++ [y'], ys', (g13.trans g36).upd hD, R6.fo nsD6 nlD6, upd_same, nsD6, nlD6, (rd6.append (.cons r6 .nil)).fo nsD6, by simp; omega, er, ?_⟩
      rw [← ha]; simp
    · rename_i h5 ef
      cases et
      refine ⟨env2, S4, ρ4, h4, false, _, re4, R4, ef, fun S5 ρ5 H5 g5 R5 => ?_⟩
      show ite _ _ _
      rw [if_neg Bool.false_ne_true]
      have g35 := g4.trans g5
      obtain ⟨eD5, nsD5, nlD5⟩ := g35.foreign eD3 nsD3 nlD3
      exact ⟨S5, ρ5, _, acc, done, ys', g13.trans g35, R5, eD5, nsD5, nlD5, (rd.go g3 R2).go g35 R3, by omega, er, ha⟩
    · cases et
  · have e : i = xs.length := by omega
    subst e
    rw [List.drop_length] at ev
    simp only [cmpL] at ev
    obtain ⟨st, ev⟩ := bif_some ev
    cases ev
    obtain ⟨stop, _⟩ := sn xs.length S2 ρ2 _ H2 g2 R2 st
    refine .inl ⟨stop (Nat.le_refl _), ?_⟩
    rw [List.append_nil] at ha
    subst ha
    cases z with
    | true =>
      obtain ⟨g4, R4⟩ := adoptS g2 R2 hD eD nlD
      exact wq _ _ _ _ (g1.trans g4) R4 (.lst (.inr rfl) eD (rd.mono' (fun _ z => .inl z) (fun _ _ _ e => e) fun _ _ e => e))
    | false =>
      obtain ⟨g4, R4⟩ := adoptL (o := .lst done) g2 R2 hD eD nsD nlD (.lst rd)
      exact wq _ _ _ _ (g1.trans g4) R4 (.ref (by unfold rhoN; rw [if_pos rfl]))
end
end Ev
end
section
set_option Elab.async false
set_option linter.all false
/-! Ev21: statements by their evaluation. -/
namespace Ev
open PySem
open L2 (upd upd_same upd_ne ne_of ne_of_none Cx VK OpR SqL SqT Key kV Inv valV putK RelV HOk ObjOk IxR SlR TruR PSet PGet CallR MtR EP PE PT PA PW TE TT TA PO thn CX0 pass0 Room FnOk Gl Binds Cls Meth Mk PG PGs TG TGs PI TI Turn FpOk Loc PTs BlkOk PS PSs Ends TS)

abbrev Fst := Env → Mm → Option (Fl × Env × Mm)
abbrev WishS (W : Wd) (S : Addr → Prop) (ρ : Rho) (h : Mm) (H : HH) (r : Fl × Env × Mm) (N : Ends) : Prop :=
  ∀ S' ρ' H', Go S ρ h H S' ρ' r.2.2 H' → RH W H' S' ρ' r.2.2 → match r.1 with
  | .nx => ∀ σ', RE W H' S' ρ' r.2.1 σ' → N.nx σ' H'
  | .bk => ∀ σ', RE W H' S' ρ' r.2.1 σ' → N.bk σ' H'
  | .ct => ∀ σ', RE W H' S' ρ' r.2.1 σ' → N.ct σ' H'
  | .rt d => ∀ v, RV W H' S' ρ' d v → N.rt v H'
def tS (W : Wd) (f : Fst) : TS := fun N σ H => ∃ env S ρ h r, RE W H S ρ env σ ∧ RH W H S ρ h ∧ f env h = some r ∧ WishS W S ρ h H r N
theorem _root_.L2.PS.sub {X : Cx} {e : Stmt} {t t' : TS} (p : PS X e t) (q : ∀ N σ H, t' N σ H → t N σ H) : PS X e t' := ⟨fun pins s σ H N I hw => p.run pins s σ H N I (q N σ H hw)⟩
theorem _root_.L2.PSs.sub {X : Cx} {e : List Stmt} {t t' : TS} (p : PSs X e t) (q : ∀ N σ H, t' N σ H → t N σ H) : PSs X e t' := ⟨fun pins s σ H N I hw => p.run pins s σ H N I (q N σ H hw)⟩
section
variable {W : Wd} {X : Cx} {H H' : HH} {S S' : Addr → Prop} {ρ ρ' : Rho} {h h' : Mm} {pos p : Pos} {tg e a b o i : Expr} {fe fa fb fo fi : Fe} {g : Ft} {ks : List Nat}
theorem WishS.pre {r N S1 ρ1 h1 H1} (g : Go S ρ h H S1 ρ1 h1 H1) (w : WishS W S ρ h H r N) : WishS W S1 ρ1 h1 H1 r N := fun S' ρ' H' g' R' => w S' ρ' H' (g.trans g') R'
theorem WishS.nx {env h1 N} (w : WishS W S ρ h H (.nx, env, h1) N) {S1 ρ1 H1 σ1} (g : Go S ρ h H S1 ρ1 h1 H1) (R : RH W H1 S1 ρ1 h1) (re : RE W H1 S1 ρ1 env σ1) : N.nx σ1 H1 := w S1 ρ1 H1 g R σ1 re
theorem snd_asg0 {N : Ends} {σ : L2.St} {H : HH} (hw : tS W (fun env h => match fe env h with
    | some (d, h1) => (match g d env h1 with
      | some (env1, h2) => some (.nx, env1, h2)
      | none => none)
    | none => none) N σ H) : L2.tAsg (tE W fe) (tT W ks g) N σ H := by
  obtain ⟨env, S, ρ, h, r, re, R, hf, wq⟩ := hw
  try dsimp only at hf
  split at hf
  rotate_left
  · cases hf
  rename_i d h1 ea
  split at hf
  rotate_left
  · cases hf
  rename_i env1 h2 eg
  cases hf
  refine ⟨env, S, ρ, h, d, h1, re, R, ea, fun S1 ρ1 H1 v1 g1 R1 r1 => ?_⟩
  exact ⟨env, S1, ρ1, h1, d, env1, h2, re.go g1 R, R1, r1, eg, fun S2 ρ2 H2 σ2 g2 R2 re2 _ => wq.nx (g1.trans g2) R2 re2⟩
abbrev fAsg (fe : Fe) (g : Ft) : Fst := fun env h => match fe env h with
    | some (d, h1) => (match g d env h1 with
      | some (env1, h2) => some (.nx, env1, h2)
      | none => none)
    | none => none
theorem snd_asg (he : PE X e (tE W fe)) (hg : PG X tg (tT W ks g)) (hs : swapsWithSole [tg] e pos.line X.env = pure false) (hw : swappedStores [tg] e X.env = pure none) (pl : plE tg = true) :
    PS X (.Assign [tg] e pos) (tS W (fAsg fe g)) :=
  (L2.ps_asg he hg hs hw (by rw [assignEach_pl pl] <;> rfl)).sub fun N σ H hw => snd_asg0 hw
/-- name = [..] on one line -/
theorem snd_setLc {z : Bool} {n : Nat} {y : Str} {py spos : Pos} {elt iter : Expr} {ifs : List Expr} {scope : Scope} {own : List (Str × Nat)} {fi : Fi} {fc : Fc} (xw : XW W X) (hN : X.N.Nodup) (hy : X.N[n]? = some y) (hyl : X.env.scope.names.lookup y = some .local) (hk : X.env.scope.kind = .function)
    (hl : (py.line == pos.line) = true) (hany : (scope.names.any fun (n, k) => n == y && (k == .local || k == .cell)) = false) (hi : PI X tg iter (tI W fi)) (ok : BlkOk X.N X.env.scope scope own)
    (hg : ∀ (s : Shared) (H : HH) (C : Addr) (cl : List (Str × Addr)) (fp : List Addr), PG (X.blk s H scope (compEnvC scope cl C X.env) fp) tg (tT W ks g)) (ht : ∀ (s : Shared) (H : HH) (C : Addr) (cl : List (Str × Addr)) (fp : List Addr), PTs (X.blk s H scope (compEnvC scope cl C X.env) fp) ifs (tC W fc))
    (he : ∀ (s : Shared) (H : HH) (C : Addr) (cl : List (Str × Addr)) (fp : List Addr), PE (X.blk s H scope (compEnvC scope cl C X.env) fp) elt (tE W fe)) (pl : plE iter = true) (hks : ∀ i ∈ ks, i ∈ own.map (·.2)) :
    PS X (.Assign [.Name y py] (.ListComp elt [⟨tg, iter, ifs, 0⟩] scope pos) spos) (tS W (fAsg (fComp z (own.map (·.2)) fi g fc fe) fun d env h => some (setE env n d, h))) := by
  refine (L2.ps_setLc xw.calm hN hy hyl (L2.sw_true hk hyl hl hany) hi ok hg ht he (fs_pl pl)).sub fun N σ H hw => ?_
  refine lc_read (z := z) hks (Q := fun x H1 => L2.gName n x σ H1 N.nx) ?_
  obtain ⟨env, S, ρ, h, r, re, R, hf, wq⟩ := hw
  unfold fAsg at hf
  split at hf
  rotate_left
  · cases hf
  rename_i d h1 ea
  cases hf
  exact ⟨env, S, ρ, h, d, h1, re, R, ea, fun S1 ρ1 H1 v1 g1 R1 r1 => wq.nx g1 R1 ((re.go g1 R).set r1)⟩
/-- a, b = x, y -/
theorem snd_par {n m : Nat} {x y : Str} {px py pt : Pos} {kt k2 : Nat} {pt2 : Pos} (xw : XW W X) (hN : X.N.Nodup) (hi : X.N[n]? = some x) (hj : X.N[m]? = some y) (hij : n ≠ m)
    (hx : X.env.scope.names.lookup x = some .local) (hy : X.env.scope.names.lookup y = some .local) (ha : PE X a (tE W fa)) (hb : PE X b (tE W fb)) (pa : plE a = true) (pb : plE b = true)
    (hw : swappedStores [.Tuple [.Name x px, .Name y py] kt pt] (.Tuple [a, b] k2 pt2) X.env = pure (some [x, y])) :
    PS X (.Assign [.Tuple [.Name x px, .Name y py] kt pt] (.Tuple [a, b] k2 pt2) pos) (tS W fun env h => match fa env h with
    | some (x, h1) => (match fb env h1 with
      | some (y, h2) => some (.nx, setE (setE env n x) m y, h2)
      | none => none)
    | none => none) := by
  refine (L2.ps_par xw.calm hN hi hj hij hx hy (L2.pa_cons ha (L2.pa_cons hb L2.pa_nil (star_pl pb)) (star_pl pa)) hw (sole_pl rfl)).sub fun N σ H hw => ?_
  obtain ⟨env, S, ρ, h, r, re, R, hf, wq⟩ := hw
  try dsimp only at hf
  split at hf
  rotate_left
  · cases hf
  rename_i x h1 ea
  split at hf
  rotate_left
  · cases hf
  rename_i y h2 eb
  cases hf
  refine ⟨env, S, ρ, h, x, h1, re, R, ea, fun S1 ρ1 H1 v1 g1 R1 r1 => ?_⟩
  refine ⟨env, S1, ρ1, h1, y, _, re.go g1 R, R1, eb, fun S2 ρ2 H2 v2 g2 R2 r2 => ?_⟩
  exact ⟨v1, v2, rfl, wq.nx (g1.trans g2) R2 (((re.go (g1.trans g2) R).set (r1.go g2 R1)).set r2)⟩
/-- op= of ints -/
def rIp (W : Wd) (o : Op) : L2.TIp := fun x y H Q => ∃ S ρ h i j r h', x = .int i ∧ y = .int j ∧ RH W H S ρ h ∧ binD o false (.int i) (.int j) h = some (r, h') ∧ Wish W S ρ h H r h' Q
theorem ipR (o : Op) : L2.PIp X (opOf o) (rIp W o) := by
  rintro pins s σ H x y v u Q I rx ry ⟨S, ρ, h, i, j, r, h', rfl, rfl, R, hf, wq⟩
  cases o with
  | add => cases hf; exact L2.iop_add pins s σ H _ _ v u Q I rx ry ⟨_, _, rfl, rfl, wish_here R wq (.int _)⟩
  | sub => cases hf; exact L2.iop_sub pins s σ H _ _ v u Q I rx ry ⟨_, _, rfl, rfl, wish_here R wq (.int _)⟩
  | mul =>
    obtain ⟨hc, hf⟩ := bif_some (show (bif i64 i || i64 j then some (D.int (i * j), h) else none) = some (r, h') from hf)
    cases hf
    refine L2.iop_mul pins s σ H _ _ v u Q I rx ry ⟨_, _, rfl, rfl, ?_, wish_here R wq (.int _)⟩
    rcases Bool.or_eq_true_iff.mp hc with q | q
    · exact .inl (i64_ok q)
    · exact .inr (i64_ok q)
  | fdiv =>
    obtain ⟨hc, hf⟩ := bif_some (show (bif decide (0 < j) && decide (j < 1073741824) then some (D.int (i / j), h) else none) = some (r, h') from hf)
    cases hf
    simp only [Bool.and_eq_true, decide_eq_true_eq] at hc
    exact L2.iop_fdiv pins s σ H _ _ v u Q I rx ry ⟨_, _, rfl, rfl, hc, wish_here R wq (.int _)⟩
  | mod =>
    obtain ⟨hc, hf⟩ := bif_some (show (bif decide (0 < j) then some (D.int (i % j), h) else none) = some (r, h') from hf)
    cases hf
    simp only [decide_eq_true_eq] at hc
    exact L2.iop_mod pins s σ H _ _ v u Q I rx ry ⟨_, _, rfl, rfl, hc, wish_here R wq (.int _)⟩
  | pow =>
    obtain ⟨hc, hf⟩ := bif_some (show (bif decide (0 ≤ j) && decide (j ≤ 1000) && i64 i then some (D.int (i ^ j.toNat), h) else none) = some (r, h') from hf)
    cases hf
    simp only [Bool.and_eq_true, decide_eq_true_eq] at hc
    obtain ⟨⟨h1, h2⟩, h3⟩ := hc
    have h4 := i64_ok h3
    obtain ⟨t, rfl⟩ := rx
    obtain ⟨t', rfl⟩ := ry
    exact PyProof.Rows.ipow_int_small h1 (by omega) (by omega) ⟨.int _, H, I.tok _, ⟨_, rfl⟩, wish_here R wq (.int _)⟩
theorem snd_aug {n : Nat} {x : Str} {pos' : Pos} {o : Op} (hN : X.N.Nodup) (hi : X.N[n]? = some x) (hx : Loc X.env.scope x) (hf : X.fn x = true ∨ X.env.scope.names.lookup x = some .local) (he : PE X e (tE W fe)) :
    PS X (.AugAssign (.Name x pos') (opOf o) e pos) (tS W fun env h => match getE env n with
    | some x => (match fe env h with
      | some (y, h1) => (match x, y, binD o false x y h1 with
        | .int _, .int _, some (r, h2) => some (.nx, setE env n r, h2)
        | _, _, _ => none)
      | none => none)
    | none => none) := by
  refine (L2.ps_aug hN hi hx he (ipR (W := W) o) hf).sub fun N σ H hw => ?_
  obtain ⟨env, S, ρ, h, r, re, R, hf, wq⟩ := hw
  try dsimp only at hf
  split at hf
  rotate_left
  · cases hf
  rename_i x ex
  split at hf
  rotate_left
  · cases hf
  rename_i y h1 ea
  split at hf
  · rename_i i j r' h2 eb
    cases hf
    obtain ⟨v, e1, rv⟩ := re.at_ n _ ex
    cases rv
    refine ⟨_, e1, env, S, ρ, h, _, h1, re, R, ea, fun S1 ρ1 H1 v1 g1 R1 r1 => ?_⟩
    cases r1
    exact ⟨S1, ρ1, h1, _, _, _, _, rfl, rfl, R1, eb, fun S2 ρ2 H2 v2 g2 R2 r2 => wq.nx (g1.trans g2) R2 ((re.go (g1.trans g2) R).set r2)⟩
  · cases hf
theorem snd_augS {op : Op} {tpos : Pos} (xw : XW W X) (ho : PE X o (tE W fo)) (hi : PE X i (tE W fi)) (he : PE X e (tE W fe)) (pl : plE i = true) :
    PS X (.AugAssign (.Subscript o i tpos) (opOf op) e pos) (tS W fun env h => match fo env h with
    | some (x, h1) => (match fi env h1 with
      | some (y, h2) => (match (bif (dictOf h2 x).isSome then idxD x y h2 else none) with
        | some v => (match fe env h2 with
          | some (u, h3) => (match v, u, binD op false v u h3 with
            | .int _, .int _, some (r, h4) => (match setD x y r h4 with
              | some h5 => some (.nx, env, h5)
              | none => none)
            | _, _, _ => none)
          | none => none)
        | none => none)
      | none => none)
    | none => none) := by
  refine (L2.ps_augS ho hi (getR xw) he (ipR (W := W) op) (setR xw) (fun ov iv new => by cases i <;> first | rfl | cases pl)).sub fun N σ H hw => ?_
  obtain ⟨env, S, ρ, h, r, re, R, hf, wq⟩ := hw
  try dsimp only at hf
  split at hf
  rotate_left
  · cases hf
  rename_i x h1 ea
  split at hf
  rotate_left
  · cases hf
  rename_i y h2 eb
  split at hf
  rotate_left
  · cases hf
  rename_i v ev
  obtain ⟨hd, ev⟩ := bif_some ev
  split at hf
  rotate_left
  · cases hf
  rename_i u h3 ec
  split at hf
  · rename_i i j r' h4 ed
    split at hf
    rotate_left
    · cases hf
    rename_i h5 es
    cases hf
    refine ⟨env, S, ρ, h, x, h1, re, R, ea, fun S1 ρ1 H1 v1 g1 R1 r1 => ?_⟩
    refine ⟨env, S1, ρ1, h1, y, h2, re.go g1 R, R1, eb, fun S2 ρ2 H2 v2 g2 R2 r2 => ?_⟩
    refine ⟨S2, ρ2, h2, x, y, _, r1.go g2 R1, r2, R2, hd, ev, fun v3 r3 => ?_⟩
    cases r3
    have g12 := g1.trans g2
    refine ⟨env, S2, ρ2, h2, _, h3, re.go g12 R, R2, ec, fun S3 ρ3 H3 v4 g3 R3 r4 => ?_⟩
    cases r4
    refine ⟨S3, ρ3, h3, _, _, _, _, rfl, rfl, R3, ed, fun S4 ρ4 H4 v5 g4 R4 r5 => ?_⟩
    have g34 := g3.trans g4
    exact ⟨S4, ρ4, _, x, y, _, _, (r1.go g2 R1).go g34 R2, r2.go g34 R2, r5, R4, es, fun H5 g5 R5 => wq.nx ((g12.trans g34).trans g5) R5 (re.go ((g12.trans g34).trans g5) R)⟩
  · cases hf
theorem snd_exp (he : PE X e (tE W fe)) (pc : plC e = true) : PS X (.Expr e pos) (tS W fun env h => match fe env h with | some (_, h1) => some (.nx, env, h1) | none => none) := by
  refine (L2.ps_expr he (sw_pl pc)).sub fun N σ H hw => ?_
  obtain ⟨env, S, ρ, h, r, re, R, hf, wq⟩ := hw
  try dsimp only at hf
  split at hf
  · rename_i d h1 ea
    cases hf
    exact ⟨env, S, ρ, h, d, _, re, R, ea, fun S1 ρ1 H1 v1 g1 R1 r1 => wq.nx g1 R1 (re.go g1 R)⟩
  · cases hf
theorem snd_ret (he : PE X e (tE W fe)) : PS X (.Return (some e) pos) (tS W fun env h => match fe env h with | some (d, h1) => some (.rt d, env, h1) | none => none) := by
  refine (L2.ps_ret he).sub fun N σ H hw => ?_
  obtain ⟨env, S, ρ, h, r, re, R, hf, wq⟩ := hw
  try dsimp only at hf
  split at hf
  · rename_i d h1 ea
    cases hf
    exact ⟨env, S, ρ, h, d, _, re, R, ea, fun S1 ρ1 H1 v1 g1 R1 r1 => wq S1 ρ1 H1 g1 R1 v1 r1⟩
  · cases hf
theorem snd_retN : PS X (.Return none pos) (tS W fun env h => some (.rt .non, env, h)) := by
  refine L2.ps_retN.sub fun N σ H hw => ?_
  obtain ⟨env, S, ρ, h, r, re, R, hf, wq⟩ := hw
  cases hf
  exact wq S ρ H .refl R _ .non
theorem snd_pass : PS X (.Pass pos) (tS W fun env h => some (.nx, env, h)) := by
  refine L2.ps_pass.sub fun N σ H hw => ?_
  obtain ⟨env, S, ρ, h, r, re, R, hf, wq⟩ := hw
  cases hf
  exact wq.nx .refl R re
theorem snd_brk : PS X (.Break pos) (tS W fun env h => some (.bk, env, h)) := by
  refine L2.ps_break.sub fun N σ H hw => ?_
  obtain ⟨env, S, ρ, h, r, re, R, hf, wq⟩ := hw
  cases hf
  exact wq S ρ H .refl R _ re
theorem snd_cnt : PS X (.Continue pos) (tS W fun env h => some (.ct, env, h)) := by
  refine L2.ps_continue.sub fun N σ H hw => ?_
  obtain ⟨env, S, ρ, h, r, re, R, hf, wq⟩ := hw
  cases hf
  exact wq S ρ H .refl R _ re
theorem snd_nvr {st : Stmt} : PS X st (tS W fun _ _ => none) := by
  refine L2.ps_never.sub fun N σ H hw => ?_
  obtain ⟨env, S, ρ, h, r, re, R, hf, wq⟩ := hw
  cases hf
theorem snd_iff {c : Expr} {as bs : List Stmt} {fc : Fc} {fs gs : Fst} (hc : PT X c (tC W fc)) (ha : PSs X as (tS W fs)) (hb : PSs X bs (tS W gs)) :
    PS X (.If c as bs pos) (tS W fun env h => match fc env h with | some (true, h1) => fs env h1 | some (false, h1) => gs env h1 | none => none) := by
  refine (L2.ps_if hc ha hb).sub fun N σ H hw => ?_
  obtain ⟨env, S, ρ, h, r, re, R, hf, wq⟩ := hw
  try dsimp only at hf
  split at hf
  · rename_i h1 ec
    refine ⟨env, S, ρ, h, true, h1, re, R, ec, fun S1 ρ1 H1 g1 R1 => ?_⟩
    show ite _ _ _
    rw [if_pos rfl]
    exact ⟨env, S1, ρ1, h1, r, re.go g1 R, R1, hf, wq.pre g1⟩
  · rename_i h1 ec
    refine ⟨env, S, ρ, h, false, h1, re, R, ec, fun S1 ρ1 H1 g1 R1 => ?_⟩
    show ite _ _ _
    rw [if_neg Bool.false_ne_true]
    exact ⟨env, S1, ρ1, h1, r, re.go g1 R, R1, hf, wq.pre g1⟩
  · cases hf
theorem snd_snil : PSs X [] (tS W fun env h => some (.nx, env, h)) := by
  refine L2.pss_nil.sub fun N σ H hw => ?_
  obtain ⟨env, S, ρ, h, r, re, R, hf, wq⟩ := hw
  cases hf
  exact wq.nx .refl R re
theorem snd_scons {st : Stmt} {rest : List Stmt} {f gs : Fst} (h1 : PS X st (tS W f)) (h2 : PSs X rest (tS W gs)) : PSs X (st :: rest) (tS W fun env h => match f env h with
    | some (.nx, env1, h1) => gs env1 h1
    | some (.bk, env1, h1) => some (.bk, env1, h1)
    | some (.ct, env1, h1) => some (.ct, env1, h1)
    | some (.rt d, env1, h1) => some (.rt d, env1, h1)
    | none => none) := by
  refine (L2.pss_cons h1 h2).sub fun N σ H hw => ?_
  obtain ⟨env, S, ρ, h, r, re, R, hf, wq⟩ := hw
  try dsimp only at hf
  split at hf
  · rename_i env1 h1 e1
    exact ⟨env, S, ρ, h, _, re, R, e1, fun S1 ρ1 H1 g1 R1 σ1 re1 => ⟨env1, S1, ρ1, h1, r, re1, R1, hf, wq.pre g1⟩⟩
  · rename_i env1 h1 e1
    cases hf
    exact ⟨env, S, ρ, h, _, re, R, e1, fun S1 ρ1 H1 g1 R1 σ1 re1 => wq S1 ρ1 H1 g1 R1 σ1 re1⟩
  · rename_i env1 h1 e1
    cases hf
    exact ⟨env, S, ρ, h, _, re, R, e1, fun S1 ρ1 H1 g1 R1 σ1 re1 => wq S1 ρ1 H1 g1 R1 σ1 re1⟩
  · rename_i d env1 h1 e1
    cases hf
    exact ⟨env, S, ρ, h, _, re, R, e1, fun S1 ρ1 H1 g1 R1 v rv => wq S1 ρ1 H1 g1 R1 v rv⟩
  · cases hf
end
end Ev
end
section
set_option Elab.async false
set_option linter.all false
/-! Ev22: loops, stores into fields, blocks apart. -/
namespace Ev
open PySem
open L2 (upd upd_same upd_ne ne_of ne_of_none Cx VK OpR SqL SqT Key kV Inv valV putK RelV HOk ObjOk IxR SlR TruR PSet PGet CallR MtR EP PE PT PA PW TE TT TA PO thn CX0 pass0 Room FnOk Gl Binds Cls Meth Mk PG PGs TG TGs PI TI Turn FpOk Loc PTs BlkOk PS PSs Ends TS)

section
variable {W : Wd} {X : Cx} {H H' : HH} {S S' : Addr → Prop} {ρ ρ' : Rho} {h h' : Mm} {pos p : Pos} {tg e a b o i : Expr} {fe fa fb fo fi : Fe} {g : Ft} {ks : List Nat}
theorem snd_fldS {f : Str} {pos' : Pos} {P : Prg} (xw : XW W X) (ho : PE X o (tE W fo)) (he : PE X e (tE W fe))
    (hcl : ∀ c k, P.cls c = some k → L2.Cls W.K (W.cA c) ∧ ∀ g ∈ k.flds, L2.NoAttr W.K (W.cA c) g) :
    PS X (.Assign [.Attribute o f pos'] e pos) (tS W (fAsg fe fun d env h => match fo env h with
    | some (.ref n, h1) => (match h1.get n with
      | some (.ins c fs) => (match P.cls c with
        | some k => bif k.flds.contains f && Nat.ble fs.length 900 then some (env, h1.set n (.ins c (putF f d fs))) else none
        | none => none)
      | _ => none)
    | _ => none)) := by
  refine (L2.ps_fld ho he (by cases e <;> rfl)).sub fun N σ H hw => ?_
  obtain ⟨env, S, ρ, h, r, re, R, hf, wq⟩ := hw
  unfold fAsg at hf
  split at hf
  rotate_left
  · cases hf
  rename_i d h1 ea
  split at hf
  rotate_left
  · cases hf
  rename_i env1 h2 eg
  cases hf
  dsimp only at eg
  split at eg
  · rename_i n h3 eo
    split at eg
    · rename_i c fs en
      split at eg
      · rename_i k ek
        obtain ⟨hc, eg⟩ := bif_some eg
        cases eg
        rw [Bool.and_eq_true] at hc
        obtain ⟨hC, hN⟩ := hcl c k ek
        refine ⟨env, S, ρ, h, d, h1, re, R, ea, fun S1 ρ1 H1 v1 g1 R1 r1 => ?_⟩
        refine ⟨env, S1, ρ1, h1, _, h3, re.go g1 R, R1, eo, fun S2 ρ2 H2 v2 g2 R2 r2 => ?_⟩
        cases r2 with
        | @ref _ a q =>
          obtain ⟨a', hob, q', ea', ns, ro⟩ := R2.lv _ _ en
          rw [q] at q'; cases q'
          cases ro with
          | @ins c dx fs gs rf =>
            refine ⟨a, W.cA c, dx, gs, rfl, ea', by rw [xw.K]; exact hC, by rw [xw.K]; exact hN f (by simpa using hc.1), ?_, ?_⟩
            · rw [← fs_len rf]
              exact Nat.lt_of_le_of_lt (Nat.le_of_ble_eq_true hc.2) (by decide)
            · obtain ⟨g3, R3⟩ := stored (o' := .ins c (putF f d fs)) (ho' := .ins (W.cA c) dx (L2.putF f v1 gs)) R2 en q fun H' st => .ins ((putF_ok (r1.go g2 R1) rf).mono' (fun _ z => z) st fun _ _ e => e)
              exact wq.nx ((g1.trans g2).trans g3) R3 (re.go ((g1.trans g2).trans g3) R)
      · cases eg
    · cases eg
  · cases eg
/-! ### for -/
abbrev turnF (g : Ft) (fb : Fst) : D → Env → Mm → Option (Fl × Env × Mm) := fun x env h => match g x env h with
  | some (env2, h2) => fb env2 h2
  | none => none
theorem snd_for {iter : Expr} {body : List Stmt} {fi : Fi} {fb : Fst} (xw : XW W X) (hp : PassesOwn (model X.prog X.w) X.A X.env X.xe) (hi : PI X tg iter (tI W fi)) (hg : PG X tg (tT W ks g)) (hb : PSs X body (tS W fb)) (pl : plE iter = true) :
    PS X (.For tg iter body [] pos) (tS W fun env h => match fi env h with
    | some (xs, w, h1) => forL (fun h => stay h w) (turnF g fb) xs env h1
    | none => none) := by
  refine (L2.ps_for hp xw.calm hi hg hb (fs_pl pl)).sub fun N σ H hw => ?_
  obtain ⟨env, S, ρ, h, r, re, R, hf, wq⟩ := hw
  try dsimp only at hf
  split at hf
  rotate_left
  · cases hf
  rename_i xs w h1 ea
  refine ⟨env, S, ρ, h, xs, w, h1, re, R, ea, fun S1 ρ1 H1 J g1 R1 sn => ?_⟩
  let Wit : Nat → L2.St → HH → Prop := fun i σ2 H2 => ∃ env2 S2 ρ2 h2, Go S1 ρ1 h1 H1 S2 ρ2 h2 H2 ∧ RH W H2 S2 ρ2 h2 ∧ RE W H2 S2 ρ2 env2 σ2 ∧ forL (fun h => stay h w) (turnF g fb) (xs.drop i) env2 h2 = some r
  refine ⟨fun i m σ2 H2 => m = xs.length - i ∧ i ≤ xs.length ∧ Wit i σ2 H2, ⟨xs.length, rfl, Nat.zero_le _, env, S1, ρ1, h1, .refl, R1, re.go g1 R, hf⟩, ?_⟩
  rintro i m σ2 H2 ⟨rfl, hi, env2, S2, ρ2, h2, g2, R2, re2, ev⟩
  by_cases hlt : i < xs.length
  · rw [drop_cons hlt] at ev
    simp only [forL] at ev
    obtain ⟨st, ev⟩ := bif_some ev
    obtain ⟨_, sn2⟩ := sn i S2 ρ2 h2 H2 g2 R2 st
    obtain ⟨go, yl⟩ := sn2 xs[i] (by simp [hlt])
    refine .inr ⟨go, Wit (i + 1), fun σ' H' w' => ⟨xs.length - (i + 1), by omega, rfl, hlt, w'⟩, fun v H3 y => ?_⟩
    obtain ⟨S3, g3, R3, r3⟩ := yl v H3 y
    generalize et : turnF g fb xs[i] env2 h2 = t at ev
    cases t with
    | none => cases ev
    | some t =>
      simp only [turnF] at et
      split at et
      rotate_left
      · cases et
      rename_i env4 h4 eg
      refine ⟨env2, S3, ρ2, h2, xs[i], env4, h4, re2.go g3 R2, R3, r3, eg, fun S4 ρ4 H4 σ4 g4 R4 re4 _ => ?_⟩
      refine ⟨env4, S4, ρ4, h4, t, re4, R4, et, fun S5 ρ5 H5 g5 R5 => ?_⟩
      have gg : Go S1 ρ1 h1 H1 S5 ρ5 t.2.2 H5 := (g2.trans g3).trans (g4.trans g5)
      obtain ⟨fl, env5, h5⟩ := t
      cases fl with
      | nx => exact fun σ5 re5 => ⟨env5, S5, ρ5, h5, gg, R5, re5, ev⟩
      | ct => exact fun σ5 re5 => ⟨env5, S5, ρ5, h5, gg, R5, re5, ev⟩
      | bk =>
        cases ev
        exact fun σ5 re5 => wq.nx (g1.trans gg) R5 re5
      | rt d =>
        cases ev
        exact fun v rv => wq S5 ρ5 H5 (g1.trans gg) R5 v rv
  · have e : i = xs.length := by omega
    subst e
    rw [List.drop_length] at ev
    simp only [forL] at ev
    obtain ⟨st, ev⟩ := bif_some ev
    cases ev
    obtain ⟨stop, _⟩ := sn xs.length S2 ρ2 _ H2 g2 R2 st
    exact .inl ⟨stop (Nat.le_refl _), wq.nx (g1.trans g2) R2 re2⟩
/-! ### while -/
theorem snd_whl {c : Expr} {body : List Stmt} {fc : Fc} {fb : Fst} {n : Nat} (hp : PassesOwn (model X.prog X.w) X.A X.env X.xe) (hc : PT X c (tC W fc)) (hb : PSs X body (tS W fb)) :
    PS X (.While c body [] pos) (tS W fun env h => whlL fc fb n env h) := by
  refine (L2.ps_while hp hc hb).sub fun N σ H hw => ?_
  obtain ⟨env, S, ρ, h, r, re, R, hf, wq⟩ := hw
  try dsimp only at hf
  let Wit : Nat → L2.St → HH → Prop := fun m σ2 H2 => ∃ env2 S2 ρ2 h2, Go S ρ h H S2 ρ2 h2 H2 ∧ RH W H2 S2 ρ2 h2 ∧ RE W H2 S2 ρ2 env2 σ2 ∧ whlL fc fb m env2 h2 = some r
  refine ⟨Wit, ⟨n, env, S, ρ, h, .refl, R, re, hf⟩, ?_⟩
  rintro m σ2 H2 ⟨env2, S2, ρ2, h2, g2, R2, re2, ev⟩
  cases m with
  | zero => cases ev
  | succ m =>
    simp only [whlL] at ev
    split at ev
    · rename_i h3 ec
      cases ev
      refine ⟨env2, S2, ρ2, h2, false, _, re2, R2, ec, fun S3 ρ3 H3 g3 R3 => ?_⟩
      show ite _ _ _
      rw [if_neg Bool.false_ne_true]
      exact wq.nx (g2.trans g3) R3 (re2.go g3 R2)
    · rename_i h3 ec
      refine ⟨env2, S2, ρ2, h2, true, h3, re2, R2, ec, fun S3 ρ3 H3 g3 R3 => ?_⟩
      show ite _ _ _
      rw [if_pos rfl]
      refine ⟨Wit m, fun σ' H' w' => ⟨m, Nat.lt_succ_self _, w'⟩, ?_⟩
      generalize et : fb env2 h3 = t at ev
      cases t with
      | none => cases ev
      | some t =>
        refine ⟨env2, S3, ρ3, h3, t, re2.go g3 R2, R3, et, fun S5 ρ5 H5 g5 R5 => ?_⟩
        have gg : Go S ρ h H S5 ρ5 t.2.2 H5 := (g2.trans g3).trans g5
        obtain ⟨fl, env5, h5⟩ := t
        cases fl with
        | nx => exact fun σ5 re5 => ⟨env5, S5, ρ5, h5, gg, R5, re5, ev⟩
        | ct => exact fun σ5 re5 => ⟨env5, S5, ρ5, h5, gg, R5, re5, ev⟩
        | bk =>
          cases ev
          exact fun σ5 re5 => wq.nx gg R5 re5
        | rt d =>
          cases ev
          exact fun v rv => wq S5 ρ5 H5 gg R5 v rv
    · cases ev
/-! ### a block apart -/
abbrev pur : Option D → Option D := fun o => match o with | some d => (bif pureD d then some d else none) | none => none
theorem getE_pur : ∀ (env : Env) (i : Nat) (d : D), getE (env.map pur) i = some d → getE env i = some d ∧ pureD d = true
  | [], i, d, e => by simp [getE] at e
  | x :: r, 0, d, e => by
    have e : pur x = some d := e
    cases x with
    | none => cases e
    | some y =>
      obtain ⟨h1, h2⟩ := bif_some e
      cases h2
      exact ⟨rfl, h1⟩
  | x :: r, i + 1, d, e => getE_pur r i d e
theorem RE.pur {env σ S1 ρ1} (x : RE W H S ρ env σ) (s1 : ∀ a, S a → S1 a) : RE W H S1 ρ1 (env.map pur) σ :=
  ⟨by rw [List.length_map]; exact x.len, fun i d e => by
    obtain ⟨h1, h2⟩ := getE_pur env i d e
    obtain ⟨v, h3, h4⟩ := x.at_ i d h1
    exact ⟨v, h3, h4.pure s1 h2⟩⟩
theorem snd_iso {body : List Stmt} {fb : Fst} (hb : PSs X body (tS W fb)) : PSs X body (tS W fun env h => match fb (env.map pur) .nil with
    | some (.nx, env1, _) => some (.nx, env1.map pur, h)
    | some (.ct, env1, _) => some (.ct, env1.map pur, h)
    | some (.bk, env1, _) => some (.bk, env1.map pur, h)
    | some (.rt d, _, _) => bif pureD d then some (.rt d, [], h) else none
    | none => none) := by
  refine hb.sub fun N σ H hw => ?_
  obtain ⟨env, S, ρ, h, r, re, R, hf, wq⟩ := hw
  try dsimp only at hf
  have key : ∀ (fl : Fl) (env1 : Env) (h1 : Mm), fb (env.map pur) .nil = some (fl, env1, h1) → (∀ S1 ρ1 H1, Go S rho0 .nil H S1 ρ1 h1 H1 → RH W H1 S1 ρ1 h1 → Go S ρ h H S1 ρ h H1 → RH W H1 S1 ρ h → match fl with
      | .nx => ∀ σ', RE W H1 S1 ρ1 env1 σ' → N.nx σ' H1
      | .bk => ∀ σ', RE W H1 S1 ρ1 env1 σ' → N.bk σ' H1
      | .ct => ∀ σ', RE W H1 S1 ρ1 env1 σ' → N.ct σ' H1
      | .rt d => ∀ v, RV W H1 S1 ρ1 d v → N.rt v H1) → tS W fb N σ H := fun fl env1 h1 e1 k =>
    ⟨env.map pur, S, rho0, .nil, (fl, env1, h1), re.pur fun _ z => z, rh0 R, e1, fun S1 ρ1 H1 g1 R1 => by
      obtain ⟨g2, R2⟩ := apart (T := S1) R g1 R1 (fun _ x => x) fun _ x => .inl x
      exact k S1 ρ1 H1 g1 R1 g2 R2⟩
  split at hf
  · rename_i env1 h1 e1
    cases hf
    exact key _ _ _ e1 fun S1 ρ1 H1 g1 R1 g2 R2 σ' re1 => wq.nx g2 R2 (re1.pur fun _ z => z)
  · rename_i env1 h1 e1
    cases hf
    exact key _ _ _ e1 fun S1 ρ1 H1 g1 R1 g2 R2 σ' re1 => wq S1 ρ H1 g2 R2 σ' (re1.pur fun _ z => z)
  · rename_i env1 h1 e1
    cases hf
    exact key _ _ _ e1 fun S1 ρ1 H1 g1 R1 g2 R2 σ' re1 => wq S1 ρ H1 g2 R2 σ' (re1.pur fun _ z => z)
  · rename_i d env1 h1 e1
    obtain ⟨hp, hf⟩ := bif_some hf
    cases hf
    exact key _ _ _ e1 fun S1 ρ1 H1 g1 R1 g2 R2 v rv => wq S1 ρ H1 g2 R2 v (rv.pure (fun _ z => z) hp)
  · cases hf
end
end Ev
end
section
set_option Elab.async false
set_option linter.all false
/-! Ev23: the check of a text against its term. -/
namespace Ev
open PySem

/-- what is known of a program's names, by numbers -/
structure FS where
  nm : Str
  ps : List Str
  top : Bool
structure SI where
  fi : Nat → Option FS
  cn : Nat → Option Str
  ms : Nat → Str → Option Nat
  free : Str → Bool
  con : Str → Option D
  rep : Bool
def cmOf' : Cm → CmpOp
  | .eq => .Eq | .ne => .NotEq | .lt => .Lt | .le => .LtE | .gt => .Gt | .ge => .GtE | .is => .Is | .isn => .IsNot | .inn => .In | .nin => .NotIn
def dbg : Str := "__debug__"
def dbc : Str := "__classdict__"
def okN (x : Str) : Bool := !(x == dbg) && !(x == dbc)
def glB (sc : Scope) (x : Str) : Bool := (match sc.names.lookup x with | some .globalImplicit => true | _ => false) && okN x
def visB (sc : Scope) (x : Str) : Bool := (match sc.names.lookup x with | some .local => true | some .cell => true | some .free => true | _ => false) && okN x
def locB (sc : Scope) (x : Str) : Bool := match sc.names.lookup x with | some .local => true | some .cell => true | _ => false
def stoB (sc : Scope) (fb : Str → Bool) (x : Str) : Bool := fb x || (match sc.names.lookup x with | some .local => true | _ => false)
def atB (N : List Str) (i : Nat) (x : Str) : Bool := match N[i]? with | some y => y == x | none => false
def ownP (N : List Str) (own : List Nat) : List (Str × Nat) := own.map fun i => (N.getD i dbg, i)
mutual
def vT : T → List Nat
  | .var i => [i]
  | .tup ts => vTs ts
  | .sub _ _ => []
  | .fld _ _ => []
def vTs : Ts → List Nat
  | .nil => []
  | .cons t r => vT t ++ vTs r
end
def isCmp : E → Bool
  | .cmp _ _ _ => true
  | .chn _ _ _ _ _ => true
  | _ => false
section
variable (I : SI)
mutual
def chkE : E → List Str → Scope → (Str → Bool) → Expr → Bool
  | .var i, N, sc, fb, x => match x with
    | .Name y _ => atB N i y && visB sc y
    | _ => false
  | .non, N, sc, fb, x => match x with
    | .Constant .none _ _ => true
    | _ => false
  | .bl b, N, sc, fb, x => match x with
    | .Constant (.bool c) _ _ => c == b
    | _ => false
  | .int i, N, sc, fb, x => match x with
    | .Constant (.int j) _ _ => decide (j = i)
    | _ => false
  | .str s, N, sc, fb, x => match x with
    | .Constant (.str t) _ _ => t == s
    | _ => false
  | .glo y d, N, sc, fb, x => match x with
    | .Name z _ => z == y && glB sc z && (match I.con z with | some e => same e d | none => false)
    | _ => false
  | .bin o z a b, N, sc, fb, x => match x with
    | .BinOp u op v _ => decide (op = opOf o) && chkE a N sc fb u && chkE b N sc fb v
    | _ => false
  | .neg a, N, sc, fb, x => match x with
    | .UnaryOp .USub u _ => chkE a N sc fb u
    | _ => false
  | .cmp o a b, N, sc, fb, x => match x with
    | .Compare u [op] [v] _ => decide (op = cmOf o) && chkE a N sc fb u && chkE b N sc fb v && plE v
    | _ => false
  | .chn o o' a b c, N, sc, fb, x => match x with
    | .Compare u [op, op'] [v, w] _ => decide (op = cmOf o) && decide (op' = cmOf o') && chkE a N sc fb u && chkE b N sc fb v && chkE c N sc fb w && plE w
    | _ => false
  | .and es, N, sc, fb, x => match x with
    | .BoolOp .And l _ => chkEs es N sc fb l && !l.isEmpty
    | _ => false
  | .or es, N, sc, fb, x => match x with
    | .BoolOp .Or l _ => chkEs es N sc fb l && !l.isEmpty
    | _ => false
  | .not _, _, _, _, _ => false
  | .ite c a b, N, sc, fb, x => match x with
    | .IfExp t u v _ => chkC c N sc fb t && chkE a N sc fb u && chkE b N sc fb v
    | _ => false
  | .tup es, N, sc, fb, x => match x with
    | .Tuple l _ _ => chkEs es N sc fb l
    | _ => false
  | .lst z es, N, sc, fb, x => match x with
    | .List l _ => chkEs es N sc fb l
    | _ => false
  | .dic z t ks, N, sc, fb, x => match x with
    | .Dict l m _ => chkK ks N sc fb l m && Nat.ble l.length 15
    | _ => false
  | .fld o f, N, sc, fb, x => match x with
    | .Attribute u g _ => g == f && chkE o N sc fb u && plE u
    | _ => false
  | .idx o i, N, sc, fb, x => match x with
    | .Subscript u v _ => chkE o N sc fb u && chkE i N sc fb v && plE v
    | _ => false
  | .sl z o lo hi, N, sc, fb, x => match x with
    | .Subscript u (.Slice l m none _) _ => chkE o N sc fb u && chkP lo N sc fb l && chkP hi N sc fb m
    | _ => false
  | .call m f es, N, sc, fb, x => match x with
    | .Call (.Name y _) l [] _ => (match I.fi f with | some i => i.nm == y && i.top | none => false) && glB sc y && chkEs es N sc fb l
    | _ => false
  | .meth m c f nm o es, N, sc, fb, x => match x with
    | .Call (.Attribute u g p) l [] q => g == nm && (match I.ms c nm with | some f' => Nat.beq f' f | none => false) && (I.fi f).isSome && chkE o N sc fb u && plE u && chkEs es N sc fb l && Nat.ble l.length 28 && (p.endLine == q.line)
    | _ => false
  | .make m c es, N, sc, fb, x => match x with
    | .Call (.Name y _) l [] _ => (match I.cn c with | some z => z == y | none => false) && glB sc y && chkEs es N sc fb l
    | _ => false
  | .blt b z es, N, sc, fb, x => match x with
    | .Call (.Name y _) (u :: l) [] _ => (match b with | .repr => I.rep | _ => true) && y == bNm b && I.free y && glB sc y && chkEs es N sc fb (u :: l)
    | _ => false
  | .bm b o es, N, sc, fb, x => match x with
    | .Call (.Attribute u g p) (v :: l) [] q => g == bmNm b && bmHas b && chkE o N sc fb u && plE u && chkEs es N sc fb (v :: l) && Nat.ble (v :: l).length 28 && (p.endLine == q.line)
    | _ => false
  | .isi e t, N, sc, fb, x => match x with
    | .Call (.Name y _) [u, .Name z _] [] _ => y == "isinstance" && z == Str.ofString (tyN t) && I.free y && I.free z && glB sc y && glB sc z && chkE e N sc fb u && plE u
    | _ => false
  | .comp z own e g it cs, N, sc, fb, x => match x with
    | .ListComp elt [⟨tg, iter, ifs, 0⟩] scope _ => L2.blkC N sc scope (ownP N own) && chkI it N sc fb iter tg && plE iter && chkT g N (L2.relS scope sc) (fun x => scope.names.lookup x == some .cell) tg &&
        chkQ cs N (L2.relS scope sc) (fun x => scope.names.lookup x == some .cell) ifs && chkE e N (L2.relS scope sc) (fun x => scope.names.lookup x == some .cell) elt && (vT g).all fun i => own.contains i
    | _ => false
def chkC : C → List Str → Scope → (Str → Bool) → Expr → Bool
  | .and cs, N, sc, fb, x => match x with
    | .BoolOp .And l _ => chkCs cs N sc fb l && !l.isEmpty
    | _ => false
  | .or cs, N, sc, fb, x => match x with
    | .BoolOp .Or l _ => chkCs cs N sc fb l && !l.isEmpty
    | _ => false
  | .not c, N, sc, fb, x => match x with
    | .UnaryOp .Not u _ => chkC c N sc fb u
    | _ => false
  | .of e, N, sc, fb, x => chkE e N sc fb x && (isCmp e || plT x)
def chkCs : Cs → List Str → Scope → (Str → Bool) → List Expr → Bool
  | .nil, N, sc, fb, l => match l with
    | [] => true
    | _ => false
  | .cons c r, N, sc, fb, l => match l with
    | x :: l => chkC c N sc fb x && chkCs r N sc fb l
    | [] => false
def chkQ : Cs → List Str → Scope → (Str → Bool) → List Expr → Bool
  | .nil, N, sc, fb, l => match l with
    | [] => true
    | _ => false
  | .cons c r, N, sc, fb, l => match l with
    | [x] => chkC c N sc fb x && (match r with | .nil => true | _ => false)
    | _ => false
def chkEs : Es → List Str → Scope → (Str → Bool) → List Expr → Bool
  | .nil, N, sc, fb, l => match l with
    | [] => true
    | _ => false
  | .cons e r, N, sc, fb, l => match l with
    | x :: l => chkE e N sc fb x && plE x && chkEs r N sc fb l
    | [] => false
def chkP : Es → List Str → Scope → (Str → Bool) → Option Expr → Bool
  | .nil, N, sc, fb, l => match l with
    | none => true
    | _ => false
  | .cons e r, N, sc, fb, l => match l with
    | some x => chkE e N sc fb x
    | none => false
def chkK : Ks → List Str → Scope → (Str → Bool) → List (Option Expr) → List Expr → Bool
  | .nil, N, sc, fb, l, m => match l, m with
    | [], [] => true
    | _, _ => false
  | .cons k v r, N, sc, fb, l, m => match l, m with
    | some x :: l, y :: m => chkE k N sc fb x && chkE v N sc fb y && chkK r N sc fb l m
    | _, _ => false
def chkT : T → List Str → Scope → (Str → Bool) → Expr → Bool
  | .var i, N, sc, fb, x => match x with
    | .Name y _ => atB N i y && locB sc y && stoB sc fb y
    | _ => false
  | .tup ts, N, sc, fb, x => match x with
    | .Tuple l _ _ => chkTs ts N sc fb l
    | _ => false
  | .sub o i, N, sc, fb, x => match x with
    | .Subscript u v _ => chkE o N sc fb u && chkE i N sc fb v && plE v
    | _ => false
  | .fld _ _, _, _, _, _ => false
def chkTs : Ts → List Str → Scope → (Str → Bool) → List Expr → Bool
  | .nil, N, sc, fb, l => match l with
    | [] => true
    | _ => false
  | .cons t r, N, sc, fb, l => match l with
    | x :: l => chkT t N sc fb x && plE x && chkTs r N sc fb l
    | [] => false
def chkI : It → List Str → Scope → (Str → Bool) → Expr → Expr → Bool
  | .of e, N, sc, fb, x, tg => chkE e N sc fb x
  | .rng es, N, sc, fb, x, tg => match x with
    | .Call (.Name y _) l [] _ => y == "range" && I.free y && glB sc y && chkEs es N sc fb l
    | _ => false
  | .enm e, N, sc, fb, x, tg => match x, tg with
    | .Call (.Name y _) [u] [] _, .Tuple _ _ _ => y == "enumerate" && I.free y && glB sc y && chkE e N sc fb u && plE u
    | _, _ => false
  | .zip _ _, _, _, _, _, _ => false
end
/-- may the store and the value's end change places -/
def swB (tg v : Expr) : Bool := plC v || (match tg with | .Name _ _ => false | _ => true)
/-- a pair of names of which one is no plain local -/
def celB (sc : Scope) (tg : Expr) : Bool := match tg with
  | .Tuple [.Name x _, .Name y _] _ _ => (match sc.names.lookup x with | some .local => false | _ => true) || (match sc.names.lookup y with | some .local => false | _ => true)
  | _ => false
def parB (sc : Scope) (x y : Str) (px py : Pos) (a b : Expr) : Bool :=
  (match sc.names.lookup x with | some .local => true | _ => false) && (match sc.names.lookup y with | some .local => true | _ => false) && (px.line == py.line) && !(x == y) &&
  !([a, b].all (foldedForSure 8)) && !([a, b].all (constantsAlone 8))
mutual
def chkS : S → List Str → Scope → Stmt → Bool
  | .asg g e, N, sc, x => match x with
    | .Assign [tg] v p => (match g, tg with
      | .fld o f, .Attribute u g' _ => g' == f && chkE I o N sc (fun _ => true) u && chkE I e N sc (fun _ => true) v
      | .var i, .Name y py => (match v with
        | .ListComp _ _ scope pv => (py.line == pv.line) && atB N i y && (match sc.names.lookup y with | some .local => true | _ => false) && !(scope.names.any fun (n, k) => n == y && (k == .local || k == .cell)) && chkE I e N sc (fun _ => true) v
        | _ => plC v && chkE I e N sc (fun _ => true) v && chkT I g N sc (fun _ => true) tg)
      | _, _ => swB tg v && (plG tg || plV v || celB sc tg) && plE tg && chkE I e N sc (fun _ => true) v && chkT I g N sc (fun _ => true) tg)
    | _ => false
  | .par i j a b, N, sc, x => match x with
    | .Assign [.Tuple [.Name y py, .Name z pz] _ _] (.Tuple [u, v] _ _) _ => atB N i y && atB N j z && !(Nat.beq i j) && parB sc y z py pz u v && chkE I a N sc (fun _ => true) u && chkE I b N sc (fun _ => true) v && plE u && plE v
    | _ => false
  | .aug i o e, N, sc, x => match x with
    | .AugAssign (.Name y _) op v _ => decide (op = opOf o) && atB N i y && locB sc y && chkE I e N sc (fun _ => true) v
    | _ => false
  | .augS o i p e, N, sc, x => match x with
    | .AugAssign (.Subscript u v _) op w _ => decide (op = opOf p) && chkE I o N sc (fun _ => true) u && chkE I i N sc (fun _ => true) v && plE v && chkE I e N sc (fun _ => true) w
    | _ => false
  | .augF _ _ _ _, _, _, _ => false
  | .exp e, N, sc, x => match x with
    | .Expr v _ => chkE I e N sc (fun _ => true) v && plC v
    | _ => false
  | .ret e, N, sc, x => match x with
    | .Return (some v) _ => chkE I e N sc (fun _ => true) v
    | _ => false
  | .retN, N, sc, x => match x with
    | .Return none _ => true
    | _ => false
  | .iff c a b, N, sc, x => match x with
    | .If t l m _ => chkC I c N sc (fun _ => true) t && chkSs a N sc l && chkSs b N sc m
    | _ => false
  | .whl c b, N, sc, x => match x with
    | .While t l [] _ => chkC I c N sc (fun _ => true) t && chkSs b N sc l
    | _ => false
  | .for_ g it b, N, sc, x => match x with
    | .For tg iter l [] _ => chkI I it N sc (fun _ => true) iter tg && plE iter && chkT I g N sc (fun _ => true) tg && chkSs b N sc l
    | _ => false
  | .pass, N, sc, x => match x with
    | .Pass _ => true
    | _ => false
  | .brk, N, sc, x => match x with
    | .Break _ => true
    | _ => false
  | .cnt, N, sc, x => match x with
    | .Continue _ => true
    | _ => false
  | .nvr, _, _, _ => true
def chkSs : Ss → List Str → Scope → List Stmt → Bool
  | .nil, N, sc, l => match l with
    | [] => true
    | _ => false
  | .cons s r, N, sc, l => match l with
    | x :: l => chkS s N sc x && chkSs r N sc l
    | [] => false
  | .iso r, N, sc, l => chkSs r N sc l
end
end
end Ev
end
section
set_option Elab.async false
set_option linter.all false
/-! Ev24: a checked text keeps its evaluation's promise: expressions. -/
namespace Ev
open PySem
open L2 (upd upd_same upd_ne ne_of ne_of_none Cx VK OpR SqL SqT Key kV Inv valV putK RelV HOk ObjOk IxR SlR TruR PSet PGet CallR MtR EP PE PT PA PW TE TT TA PO thn CX0 pass0 Room FnOk Gl Binds Cls Meth Mk PG PGs TG TGs PI TI Turn FpOk Loc Vis PTs BlkOk PS PSs Ends TS)

structure Lk where
  fA : Nat → Addr
  fD : Nat → FuncData
  base : Heap
structure SIok (W : Wd) (P : Prg) (I : SI) (L : Lk) : Prop where
  fn : ∀ f i, I.fi f = some i → PySem.W.keepIn W.K (.ref (L.fA f)) = true ∧ Binds W.K (L.fD f) i.ps []
  gl : ∀ f i, I.fi f = some i → i.top = true → W.mg i.nm = some (.ref (L.fA f))
  cl : ∀ c k, P.cls c = some k → Cls W.K (W.cA c) ∧ ∀ g ∈ k.flds, L2.NoAttr W.K (W.cA c) g
  mkk : ∀ c x, I.cn c = some x → ∃ k i, P.cls c = some k ∧ I.fi k.init = some i ∧ W.mg x = some (.ref (W.cA c)) ∧ Mk W.K (W.cA c) (L.fA k.init)
  me : ∀ c m f, I.ms c m = some f → Cls W.K (W.cA c) ∧ Meth W.K (W.cA c) m (L.fA f)
  fr : ∀ x, I.free x = true → W.mg x = none
  co : ∀ x d, I.con x = some d → ∃ v u, W.mg x = some u ∧ RelV v u ∧ ∀ H S ρ, RV W H S ρ d v
structure CxOk (W : Wd) (P : Prg) (I : SI) (L : Lk) (c1 c2 : Fs) (d : Nat) (N : List Str) (sc : Scope) (fb : Str → Bool) (X : Cx) : Prop where
  xw : XW W X
  eN : X.N = N
  esc : X.env.scope = sc
  efb : ∀ x, fb x = true → X.fn x = true
  base : X.base = L.base
  nd : N.Nodup
  kind : sc.kind = .function
  room : Room (d + 1) X.A
  gd : I.rep = true → X.A.guards = some []
  ok : SIok W P I L
  f1 : ∀ f i, I.fi f = some i → FnOk W.P W.w W.K W.mg L.base CX0 (d + 1) (L.fA f) (L.fD f) i.ps (spC W i.ps.length (c1 f))
  f2 : ∀ f i, I.fi f = some i → FnOk W.P W.w W.K W.mg L.base CX0 d (L.fA f) (L.fD f) i.ps (spC W i.ps.length (c2 f))
  a1 : ∀ f i, I.fi f = some i → Ar i.ps.length (c1 f)
  a2 : ∀ f i, I.fi f = some i → Ar i.ps.length (c2 f)
section
variable {W : Wd} {P : Prg} {I : SI} {L : Lk} {c1 c2 : Fs} {d : Nat} {N : List Str} {sc : Scope} {fb : Str → Bool} {X : Cx}
theorem CxOk.F1 (c : CxOk W P I L c1 c2 d N sc fb X) {f i} (h : I.fi f = some i) : FnOk X.prog X.w X.K X.mg X.base CX0 (d + 1) (L.fA f) (L.fD f) i.ps (spC W i.ps.length (c1 f)) := by
  rw [c.xw.P, c.xw.w, c.xw.K, c.xw.mg, c.base]; exact c.f1 f i h
theorem CxOk.F2 (c : CxOk W P I L c1 c2 d N sc fb X) {f i} (h : I.fi f = some i) : FnOk X.prog X.w X.K X.mg X.base CX0 d (L.fA f) (L.fD f) i.ps (spC W i.ps.length (c2 f)) := by
  rw [c.xw.P, c.xw.w, c.xw.K, c.xw.mg, c.base]; exact c.f2 f i h
theorem CxOk.blk (c : CxOk W P I L c1 c2 d N sc fb X) {scope : Scope} {own : List (Str × Nat)} (ok : BlkOk N sc scope own) (s : Shared) (H : HH) (C : Addr) (cl : List (Str × Addr)) (fp : List Addr) :
    CxOk W P I L c1 c2 d N (L2.relS scope sc) (fun x => scope.names.lookup x == some .cell) (X.blk s H scope (compEnvC scope cl C X.env) fp) := by
  refine ⟨⟨c.xw.P, c.xw.w, c.xw.K, c.xw.mg, c.xw.calm, c.xw.un⟩, c.eN, ?_, fun x h => h, c.base, c.nd, ?_, c.room, c.gd, c.ok, c.f1, c.f2, c.a1, c.a2⟩
  · show L2.relS scope X.env.scope = _
    rw [c.esc]
  · exact ok.kind
theorem CxOk.gl (c : CxOk W P I L c1 c2 d N sc fb X) {x : Str} (h : glB sc x = true) : Gl X x ∧ (x == ("__debug__" : Str)) = false := by
  unfold glB at h
  rw [Bool.and_eq_true] at h
  obtain ⟨h1, h2⟩ := h
  refine ⟨?_, ?_⟩
  · show X.env.scope.names.lookup x = _
    rw [c.esc]
    split at h1
    · assumption
    · cases h1
  · unfold okN at h2
    simp only [Bool.and_eq_true, Bool.not_eq_true'] at h2
    exact h2.1
theorem okN_of {x : Str} (h : okN x = true) : (x == ("__debug__" : Str)) = false ∧ (x == ("__classdict__" : Str)) = false := by
  unfold okN at h
  simp only [Bool.and_eq_true, Bool.not_eq_true'] at h
  exact h
theorem CxOk.vis (c : CxOk W P I L c1 c2 d N sc fb X) {x : Str} (h : visB sc x = true) : Vis X.env.scope x ∧ (x == ("__debug__" : Str)) = false ∧ (x == ("__classdict__" : Str)) = false := by
  unfold visB at h
  rw [Bool.and_eq_true] at h
  obtain ⟨h1, h2⟩ := h
  refine ⟨?_, okN_of h2⟩
  rw [c.esc]
  split at h1
  · exact .inl (by assumption)
  · exact .inr (.inl (by assumption))
  · exact .inr (.inr (by assumption))
  · cases h1
theorem CxOk.loc (c : CxOk W P I L c1 c2 d N sc fb X) {x : Str} (h : locB sc x = true) : Loc X.env.scope x := by
  unfold locB at h
  rw [c.esc]
  split at h
  · exact .inl (by assumption)
  · exact .inr (by assumption)
  · cases h
theorem CxOk.sto (c : CxOk W P I L c1 c2 d N sc fb X) {x : Str} (h : stoB sc fb x = true) : X.fn x = true ∨ X.env.scope.names.lookup x = some .local := by
  unfold stoB at h
  rcases Bool.or_eq_true_iff.mp h with q | q
  · exact .inl (c.efb x q)
  · refine .inr ?_
    rw [c.esc]
    split at q
    · assumption
    · cases q
theorem CxOk.at_ (c : CxOk W P I L c1 c2 d N sc fb X) {i : Nat} {x : Str} (h : atB N i x = true) : X.N[i]? = some x := by
  unfold atB at h
  rw [c.eN]
  split at h
  · rename_i y e
    rw [e, beq_iff_eq.mp h]
  · cases h
theorem CxOk.fr (c : CxOk W P I L c1 c2 d N sc fb X) {x : Str} (h : I.free x = true) : X.mg x = none := by rw [c.xw.mg]; exact c.ok.fr x h
theorem meth_ht {o : Expr} {m : Str} {apos pos : Pos} {es : List Expr} {env : PySem.Env} (po : plE o = true) (pl : plL es = true) (few : es.length < 30) (hline : (apos.endLine == pos.line) = true) :
    eval (.Call (.Attribute o m apos) es [] pos) env = (do
      let ov ← eval o env
      standAt apos.atName
      let (f, first) ← holding [ov] (getMethod ov m (do return (← importBound o env).getD true))
      callWith pos f first (backTo pos (starEach es env)) (backToKw pos (keywordEach [] env))) := by
  rw [arm_eval_Call, ab_pl po]
  have hform : methodCallForm (es.length + ([] : List Keyword).length) (backTo pos (starEach es env)) (backToKw pos (keywordEach [] env)) = true := by
    unfold methodCallForm
    rw [pl_all pl]
    simp only [Bool.true_and, Bool.and_eq_true, decide_eq_true_eq]
    exact ⟨rfl, by show es.length + 0 + 0 < 30; omega⟩
  have hpos : methodCallPos true o env apos pos = pure pos := by unfold methodCallPos; simp [hline]
  unfold methodCall
  rw [hform, hpos]
  rfl
end
end Ev
end
section
set_option Elab.async false
set_option linter.all false
/-! Ev25: expressions. -/
namespace Ev
open PySem
open L2 (upd upd_same upd_ne ne_of ne_of_none Cx VK OpR SqL SqT Key kV Inv valV putK RelV HOk ObjOk IxR SlR TruR PSet PGet CallR MtR EP PE PT PA PW TE TT TA PO thn CX0 pass0 Room FnOk Gl Binds Cls Meth Mk PG PGs TG TGs PI TI Turn FpOk Loc Vis PTs BlkOk PS PSs Ends TS)

section
variable {W : Wd} {P : Prg} {I : SI} {L : Lk} {c1 c2 : Fs} {d : Nat}
theorem cmOf_eq (o : Cm) : cmOf o = cmOf o := rfl
theorem chkEs_pl : ∀ {es : Es} {N : List Str} {sc : Scope} {fb : Str → Bool} {l : List Expr}, chkEs I es N sc fb l = true → plL l = true
  | .nil, N, sc, fb, l, h => by
    cases l with
    | nil => rfl
    | cons _ _ => unfold chkEs at h; cases h
  | .cons e r, N, sc, fb, l, h => by
    unfold chkEs at h
    cases l with
    | nil => cases h
    | cons x l =>
      simp only [Bool.and_eq_true] at h
      simp only [plL, Bool.and_eq_true]
      exact ⟨h.1.2, chkEs_pl h.2⟩
theorem chkEs_nil {es : Es} {N : List Str} {sc : Scope} {fb : Str → Bool} {l : List Expr} (h : chkEs I es N sc fb l = true) : l = [] → evEs P c1 c2 es = F0 := by
  intro e
  subst e
  cases es with
  | nil => funext env h; rfl
  | cons e r => unfold chkEs at h; cases h
theorem evEs_len : ∀ {es : Es} {env : Env} {h : Mm} {vs : List D} {h1 : Mm} {N : List Str} {sc : Scope} {fb : Str → Bool} {l : List Expr}, chkEs I es N sc fb l = true → evEs P c1 c2 es env h = some (vs, h1) → vs.length = l.length
  | .nil, env, h, vs, h1, N, sc, fb, l, hc, e => by
    cases l with
    | nil => cases e; rfl
    | cons _ _ => unfold chkEs at hc; cases hc
  | .cons x r, env, h, vs, h1, N, sc, fb, l, hc, e => by
    unfold chkEs at hc
    cases l with
    | nil => cases hc
    | cons y l =>
      simp only [Bool.and_eq_true] at hc
      unfold evEs at e
      split at e
      · split at e
        · cases e
          rename_i q
          simp [evEs_len hc.2 q]
        · cases e
      · cases e
theorem asgs_len : ∀ {ts : Ts} {ds : List D} {env : Env} {h : Mm} {r} {N : List Str} {sc : Scope} {fb : Str → Bool} {l : List Expr}, chkTs I ts N sc fb l = true → asgs P c1 c2 ts ds env h = some r → ds.length = l.length
  | .nil, ds, env, h, r, N, sc, fb, l, hc, e => by
    cases l with
    | nil =>
      cases ds with
      | nil => rfl
      | cons _ _ => unfold asgs at e; cases e
    | cons _ _ => unfold chkTs at hc; cases hc
  | .cons t r', ds, env, h, r, N, sc, fb, l, hc, e => by
    unfold chkTs at hc
    cases l with
    | nil => cases hc
    | cons y l =>
      simp only [Bool.and_eq_true] at hc
      cases ds with
      | nil => unfold asgs at e; cases e
      | cons d ds =>
        unfold asgs at e
        try dsimp only at e
        split at e
        · simp [asgs_len hc.2 e]
        · cases e
theorem chkTs_pl : ∀ {es : Ts} {N : List Str} {sc : Scope} {fb : Str → Bool} {l : List Expr}, chkTs I es N sc fb l = true → plL l = true
  | .nil, N, sc, fb, l, h => by
    cases l with
    | nil => rfl
    | cons _ _ => unfold chkTs at h; cases h
  | .cons e r, N, sc, fb, l, h => by
    unfold chkTs at h
    cases l with
    | nil => cases h
    | cons x l =>
      simp only [Bool.and_eq_true] at h
      simp only [plL, Bool.and_eq_true]
      exact ⟨h.1.2, chkTs_pl h.2⟩
theorem ownP_snd (N : List Str) (own : List Nat) : (ownP N own).map (·.2) = own := by
  unfold ownP
  rw [List.map_map]
  exact (List.map_congr_left (fun _ _ => rfl)).trans (List.map_id own)
mutual
theorem sndE : ∀ (e : E) {N : List Str} {sc : Scope} {fb : Str → Bool} {X : Cx} {x : Expr}, CxOk W P I L c1 c2 d N sc fb X → chkE I e N sc fb x = true → PE X x (tE W (evE P c1 c2 e))
  | .var i, N, sc, fb, X, x, c, h => by
    unfold chkE at h
    split at h
    · rw [Bool.and_eq_true] at h
      obtain ⟨v1, v2, v3⟩ := c.vis h.2
      exact snd_var (c.at_ h.1) v1 v2 v3
    · cases h
  | .non, N, sc, fb, X, x, c, h => by
    unfold chkE at h
    split at h
    · exact snd_con L2.pe_non fun _ _ _ => .non
    · cases h
  | .bl b, N, sc, fb, X, x, c, h => by
    unfold chkE at h
    split at h
    · rw [beq_iff_eq] at h; subst h
      exact snd_con L2.pe_bl fun _ _ _ => .bl _
    · cases h
  | .int b, N, sc, fb, X, x, c, h => by
    unfold chkE at h
    split at h
    · rw [decide_eq_true_eq] at h; subst h
      exact snd_con L2.pe_int fun _ _ _ => .int _
    · cases h
  | .str b, N, sc, fb, X, x, c, h => by
    unfold chkE at h
    split at h
    · rw [beq_iff_eq] at h; subst h
      exact snd_con L2.pe_str fun _ _ _ => .str _
    · cases h
  | .glo y d', N, sc, fb, X, x, c, h => by
    unfold chkE at h
    split at h
    · simp only [Bool.and_eq_true] at h
      obtain ⟨⟨h1, h2⟩, h3⟩ := h
      split at h3
      · rename_i e ce
        cases same_eq h3
        obtain ⟨v, u, m, r, rv⟩ := c.ok.co _ _ ce
        obtain ⟨g1, g2⟩ := c.gl h2
        exact snd_con (L2.pe_glob g1 (by rw [c.xw.mg]; exact m) r g2) rv
      · cases h3
    · cases h
  | .bin o z a b, N, sc, fb, X, x, c, h => by
    unfold chkE at h
    split at h
    · simp only [Bool.and_eq_true, decide_eq_true_eq] at h
      obtain ⟨⟨rfl, h2⟩, h3⟩ := h
      exact snd_bin c.xw (sndE a c h2) (sndE b c h3)
    · cases h
  | .neg a, N, sc, fb, X, x, c, h => by
    unfold chkE at h
    split at h
    · exact snd_neg (sndE a c h)
    · cases h
  | .cmp o a b, N, sc, fb, X, x, c, h => by
    unfold chkE at h
    split at h
    · simp only [Bool.and_eq_true, decide_eq_true_eq] at h
      obtain ⟨⟨⟨rfl, h2⟩, h3⟩, h4⟩ := h
      exact snd_cmp c.xw (sndE a c h2) (sndE b c h3) (mk_pl h4)
    · cases h
  | .chn o o' a b e, N, sc, fb, X, x, c, h => by
    unfold chkE at h
    split at h
    · simp only [Bool.and_eq_true, decide_eq_true_eq] at h
      obtain ⟨⟨⟨⟨⟨rfl, rfl⟩, h2⟩, h3⟩, h4⟩, h5⟩ := h
      exact snd_chn c.xw (sndE a c h2) (sndE b c h3) (sndE e c h4) (mk_pl h5)
    · cases h
  | .and es, N, sc, fb, X, x, c, h => by
    unfold chkE at h
    split at h
    · simp only [Bool.and_eq_true] at h
      exact sndAnd es c h.1 h.2
    · cases h
  | .or es, N, sc, fb, X, x, c, h => by
    unfold chkE at h
    split at h
    · simp only [Bool.and_eq_true] at h
      exact sndOr es c h.1 h.2
    · cases h
  | .not _, N, sc, fb, X, x, c, h => by unfold chkE at h; cases h
  | .ite t a b, N, sc, fb, X, x, c, h => by
    unfold chkE at h
    split at h
    · simp only [Bool.and_eq_true] at h
      exact snd_ite (sndC t c h.1.1) (sndE a c h.1.2) (sndE b c h.2)
    · cases h
  | .tup es, N, sc, fb, X, x, c, h => by
    unfold chkE at h
    split at h
    · exact snd_tup (sndEs es c h)
    · cases h
  | .lst z es, N, sc, fb, X, x, c, h => by
    unfold chkE at h
    split at h
    · exact snd_lst (sndEs es c h)
    · cases h
  | .dic z t ks, N, sc, fb, X, x, c, h => by
    unfold chkE at h
    split at h
    · rename_i l m p
      rw [Bool.and_eq_true] at h
      obtain ⟨q1, q2, q3, q4⟩ := sndK ks c h.1
      exact snd_dic c.xw (q1 p) q2 q3 (Nat.le_of_ble_eq_true h.2) q4
    · cases h
  | .fld o f, N, sc, fb, X, x, c, h => by
    unfold chkE at h
    split at h
    · simp only [Bool.and_eq_true, beq_iff_eq] at h
      obtain ⟨⟨rfl, h2⟩, h3⟩ := h
      exact snd_fld c.xw (sndE o c h2) (ab_pl h3) c.ok.cl
    · cases h
  | .idx o i, N, sc, fb, X, x, c, h => by
    unfold chkE at h
    split at h
    · simp only [Bool.and_eq_true] at h
      exact snd_idx c.xw (sndE o c h.1.1) (sndE i c h.1.2) (ix_pl h.2)
    · cases h
  | .sl z o lo hi, N, sc, fb, X, x, c, h => by
    unfold chkE at h
    split at h
    · simp only [Bool.and_eq_true] at h
      exact snd_sl c.xw (sndE o c h.1.1) (sndP lo c h.1.2) (sndP hi c h.2)
    · cases h
  | .call m f es, N, sc, fb, X, x, c, h => by
    unfold chkE at h
    split at h
    · simp only [Bool.and_eq_true] at h
      obtain ⟨⟨h1, h2⟩, h3⟩ := h
      split at h1
      · rename_i i fi
        simp only [Bool.and_eq_true, beq_iff_eq] at h1
        obtain ⟨rfl, h5⟩ := h1
        obtain ⟨g1, g2⟩ := c.gl h2
        obtain ⟨k1, k2⟩ := c.ok.fn _ _ fi
        exact snd_call (c.F1 fi) (c.a1 _ _ fi) c.room g1 (by rw [c.xw.mg]; exact c.ok.gl _ _ fi h5) (by rw [c.xw.K]; exact k1) (by rw [c.xw.K]; exact k2) g2 (chkEs_pl h3) (chkEs_nil h3) (sndEs es c h3)
      · cases h1
    · cases h
  | .meth m k f nm o es, N, sc, fb, X, x, c, h => by
    unfold chkE at h
    split at h
    · simp only [Bool.and_eq_true, beq_iff_eq] at h
      obtain ⟨⟨⟨⟨⟨⟨⟨rfl, h1⟩, h2⟩, h3⟩, h4⟩, h5⟩, h6⟩, h7⟩ := h
      split at h1
      · rename_i f' fm
        have e1 := Nat.eq_of_beq_eq_true h1
        subst e1
        obtain ⟨i, fi⟩ := Option.isSome_iff_exists.mp h2
        obtain ⟨m1, m2⟩ := c.ok.me _ _ _ fm
        obtain ⟨k1, k2⟩ := c.ok.fn _ _ fi
        exact snd_meth (sndE o c h3) c.xw m1 m2 (c.F1 fi) (c.a1 _ _ fi) c.room (by rw [c.xw.K]; exact k2) (chkEs_pl h5) (chkEs_nil h5) (sndEs es c h5) (meth_ht h4 (chkEs_pl h5) (by have := Nat.le_of_ble_eq_true h6; omega) (by rw [beq_iff_eq]; exact h7))
      · cases h1
    · cases h
  | .make m k es, N, sc, fb, X, x, c, h => by
    unfold chkE at h
    split at h
    · simp only [Bool.and_eq_true] at h
      obtain ⟨⟨h1, h2⟩, h3⟩ := h
      split at h1
      · rename_i z cz
        rw [beq_iff_eq] at h1
        subst h1
        obtain ⟨g1, g2⟩ := c.gl h2
        obtain ⟨cl, i, hc, fi, hm, mk⟩ := c.ok.mkk _ _ cz
        obtain ⟨k1, k2⟩ := c.ok.fn _ _ fi
        exact snd_make hc c.xw mk (c.F2 fi) (c.a2 _ _ fi) c.room (by rw [c.xw.K]; exact k2) g1 (by rw [c.xw.mg]; exact hm) g2 (chkEs_pl h3) (chkEs_nil h3) (sndEs es c h3)
      · cases h1
    · cases h
  | .blt b z es, N, sc, fb, X, x, c, h => by
    unfold chkE at h
    split at h
    · simp only [Bool.and_eq_true, beq_iff_eq] at h
      obtain ⟨⟨⟨⟨h1, rfl⟩, h2⟩, h3⟩, h4⟩ := h
      exact snd_blt c.xw (fun e => by subst e; exact c.gd h1) (c.gl h3).1 (c.fr h2) (chkEs_pl h4) (sndEs es c h4)
    · cases h
  | .bm b o es, N, sc, fb, X, x, c, h => by
    unfold chkE at h
    split at h
    · simp only [Bool.and_eq_true, beq_iff_eq] at h
      obtain ⟨⟨⟨⟨⟨⟨rfl, h2⟩, h3⟩, h4⟩, h5⟩, h6⟩, h7⟩ := h
      exact snd_bm c.xw h2 (sndE o c h3) h4 (chkEs_pl h5) (by have := Nat.le_of_ble_eq_true h6; omega) (by rw [beq_iff_eq]; exact h7) (sndEs es c h5)
    · cases h
  | .isi e t, N, sc, fb, X, x, c, h => by
    unfold chkE at h
    split at h
    · simp only [Bool.and_eq_true, beq_iff_eq] at h
      obtain ⟨⟨⟨⟨⟨⟨⟨rfl, rfl⟩, h3⟩, h4⟩, h5⟩, h6⟩, h7⟩, h8⟩ := h
      exact snd_isi c.xw (c.gl h5).1 (c.fr h3) (c.gl h6).1 (c.fr h4) h8 (sndE e c h7)
    · cases h
  | .comp z own e g it cs, N, sc, fb, X, x, c, h => by
    unfold chkE at h
    split at h
    · rename_i elt tg iter ifs scope pos
      simp only [Bool.and_eq_true] at h
      obtain ⟨⟨⟨⟨⟨⟨h1, h2⟩, h3⟩, h4⟩, h5⟩, h6⟩, h7⟩ := h
      have ok := L2.blkOk_by h1
      have ok' : BlkOk X.N X.env.scope scope (ownP N own) := by rw [c.eN, c.esc]; exact ok
      refine (L2.pe_lc c.xw.calm (by rw [c.eN]; exact c.nd) (sndI it c h2) ok' (fun s H C cl fp => sndT g (c.blk ok s H C cl fp) h4) (fun s H C cl fp => sndQ cs (c.blk ok s H C cl fp) h5) (fun s H C cl fp => sndE e (c.blk ok s H C cl fp) h6) (fs_pl h3)).sub fun σ H Q hw => ?_
      rw [ownP_snd]
      refine lc_read (z := z) (fun i hi => ?_) hw
      have := List.all_eq_true.mp h7 i hi
      simpa using this
    · cases h
theorem sndC : ∀ (e : C) {N : List Str} {sc : Scope} {fb : Str → Bool} {X : Cx} {x : Expr}, CxOk W P I L c1 c2 d N sc fb X → chkC I e N sc fb x = true → PT X x (tC W (evT P c1 c2 e))
  | .and cs, N, sc, fb, X, x, c, h => by
    unfold chkC at h
    split at h
    · simp only [Bool.and_eq_true] at h
      exact (sndAll cs c h.1 h.2).pt
    · cases h
  | .or cs, N, sc, fb, X, x, c, h => by
    unfold chkC at h
    split at h
    · simp only [Bool.and_eq_true] at h
      exact (sndAny cs c h.1 h.2).pt
    · cases h
  | .not t, N, sc, fb, X, x, c, h => by
    unfold chkC at h
    split at h
    · exact snd_not (sndC t c h)
    · cases h
  | .of e, N, sc, fb, X, x, c, h => by
    unfold chkC at h
    rw [Bool.and_eq_true] at h
    obtain ⟨h1, h2⟩ := h
    by_cases hp : plT x = true
    · exact snd_tru c.xw (sndE e c h1) (tr_pl hp)
    · have h3 : isCmp e = true := by simpa [hp] using h2
      cases e with
      | cmp o a b =>
        unfold chkE at h1
        split at h1
        · simp only [Bool.and_eq_true, decide_eq_true_eq] at h1
          obtain ⟨⟨⟨rfl, q2⟩, q3⟩, q4⟩ := h1
          exact snd_cmpT c.xw (sndE a c q2) (sndE b c q3) (mk_pl q4)
        · cases h1
      | chn o o' a b e =>
        unfold chkE at h1
        split at h1
        · simp only [Bool.and_eq_true, decide_eq_true_eq] at h1
          obtain ⟨⟨⟨⟨⟨rfl, rfl⟩, q2⟩, q3⟩, q4⟩, q5⟩ := h1
          exact snd_chnT c.xw (sndE a c q2) (sndE b c q3) (sndE e c q4) (mk_pl q5)
        · cases h1
      | _ => cases h3
theorem sndAll : ∀ (e : Cs) {N : List Str} {sc : Scope} {fb : Str → Bool} {X : Cx} {l : List Expr} {p : Pos}, CxOk W P I L c1 c2 d N sc fb X → chkCs I e N sc fb l = true → (!l.isEmpty) = true → PW X (.BoolOp .And l p) (tC W (evAll P c1 c2 e))
  | .nil, N, sc, fb, X, l, p, c, h, h0 => by
    unfold chkCs at h
    split at h
    · cases h0
    · cases h
  | .cons t r, N, sc, fb, X, l, p, c, h, h0 => by
    unfold chkCs at h
    split at h
    · rename_i y l
      rw [Bool.and_eq_true] at h
      cases l with
      | nil =>
        cases r with
        | nil => exact snd_and1 (sndC t c h.1)
        | cons _ _ => have := h.2; unfold chkCs at this; cases this
      | cons w l => exact snd_andC (sndC t c h.1) (sndAll r c h.2 rfl)
    · cases h
theorem sndAny : ∀ (e : Cs) {N : List Str} {sc : Scope} {fb : Str → Bool} {X : Cx} {l : List Expr} {p : Pos}, CxOk W P I L c1 c2 d N sc fb X → chkCs I e N sc fb l = true → (!l.isEmpty) = true → PW X (.BoolOp .Or l p) (tC W (evAny P c1 c2 e))
  | .nil, N, sc, fb, X, l, p, c, h, h0 => by
    unfold chkCs at h
    split at h
    · cases h0
    · cases h
  | .cons t r, N, sc, fb, X, l, p, c, h, h0 => by
    unfold chkCs at h
    split at h
    · rename_i y l
      rw [Bool.and_eq_true] at h
      cases l with
      | nil =>
        cases r with
        | nil => exact snd_or1 (sndC t c h.1)
        | cons _ _ => have := h.2; unfold chkCs at this; cases this
      | cons w l => exact snd_orC (sndC t c h.1) (sndAny r c h.2 rfl)
    · cases h
theorem sndQ : ∀ (e : Cs) {N : List Str} {sc : Scope} {fb : Str → Bool} {X : Cx} {l : List Expr}, CxOk W P I L c1 c2 d N sc fb X → chkQ I e N sc fb l = true → PTs X l (tC W (evAll P c1 c2 e))
  | .nil, N, sc, fb, X, l, c, h => by
    unfold chkQ at h
    split at h
    · refine ⟨fun pins s σ H Q In hw => L2.pts_nil.run pins s σ H Q In ?_⟩
      obtain ⟨env, S, ρ, h, b, h', re, R, hf, wq⟩ := hw
      cases hf
      exact wq _ _ _ .refl R
    · cases h
  | .cons t r, N, sc, fb, X, l, c, h => by
    unfold chkQ at h
    split at h
    · rw [Bool.and_eq_true] at h
      obtain ⟨h1, h2⟩ := h
      cases r with
      | cons _ _ => cases h2
      | nil =>
        refine ⟨fun pins s σ H Q In hw => (L2.pts_one (sndC t c h1)).run pins s σ H Q In ?_⟩
        obtain ⟨env, S, ρ, h, b, h', re, R, hf, wq⟩ := hw
        unfold evAll at hf
        split at hf
        · rename_i h1 e1
          unfold evAll at hf
          cases hf
          exact ⟨env, S, ρ, h, _, _, re, R, e1, wq⟩
        · rename_i h1 e1
          cases hf
          exact ⟨env, S, ρ, h, _, _, re, R, e1, wq⟩
        · cases hf
    · cases h
theorem sndAnd : ∀ (e : Es) {N : List Str} {sc : Scope} {fb : Str → Bool} {X : Cx} {l : List Expr} {p : Pos}, CxOk W P I L c1 c2 d N sc fb X → chkEs I e N sc fb l = true → (!l.isEmpty) = true → PE X (.BoolOp .And l p) (tE W (evAnd P c1 c2 e))
  | .nil, N, sc, fb, X, l, p, c, h, h0 => by
    unfold chkEs at h
    split at h
    · cases h0
    · cases h
  | .cons t r, N, sc, fb, X, l, p, c, h, h0 => by
    unfold chkEs at h
    split at h
    · rename_i y l
      simp only [Bool.and_eq_true] at h
      cases l with
      | nil =>
        cases r with
        | nil => exact snd_one (sndE t c h.1.1)
        | cons _ _ => have := h.2; unfold chkEs at this; cases this
      | cons w l =>
        cases r with
        | nil => have := h.2; unfold chkEs at this; cases this
        | cons r1 r2 => exact snd_and c.xw (sndE t c h.1.1) (sndAnd (.cons r1 r2) c h.2 rfl)
    · cases h
theorem sndOr : ∀ (e : Es) {N : List Str} {sc : Scope} {fb : Str → Bool} {X : Cx} {l : List Expr} {p : Pos}, CxOk W P I L c1 c2 d N sc fb X → chkEs I e N sc fb l = true → (!l.isEmpty) = true → PE X (.BoolOp .Or l p) (tE W (evOr P c1 c2 e))
  | .nil, N, sc, fb, X, l, p, c, h, h0 => by
    unfold chkEs at h
    split at h
    · cases h0
    · cases h
  | .cons t r, N, sc, fb, X, l, p, c, h, h0 => by
    unfold chkEs at h
    split at h
    · rename_i y l
      simp only [Bool.and_eq_true] at h
      cases l with
      | nil =>
        cases r with
        | nil => exact snd_one (sndE t c h.1.1)
        | cons _ _ => have := h.2; unfold chkEs at this; cases this
      | cons w l =>
        cases r with
        | nil => have := h.2; unfold chkEs at this; cases this
        | cons r1 r2 => exact snd_or c.xw (sndE t c h.1.1) (sndOr (.cons r1 r2) c h.2 rfl)
    · cases h
theorem sndEs : ∀ (e : Es) {N : List Str} {sc : Scope} {fb : Str → Bool} {X : Cx} {l : List Expr}, CxOk W P I L c1 c2 d N sc fb X → chkEs I e N sc fb l = true → PA X l (tEs W (evEs P c1 c2 e))
  | .nil, N, sc, fb, X, l, c, h => by
    unfold chkEs at h
    split at h
    · exact snd_nil
    · cases h
  | .cons t r, N, sc, fb, X, l, c, h => by
    unfold chkEs at h
    split at h
    · simp only [Bool.and_eq_true] at h
      exact snd_cons (sndE t c h.1.1) (sndEs r c h.2) (star_pl h.1.2)
    · cases h
theorem sndP : ∀ (e : Es) {N : List Str} {sc : Scope} {fb : Str → Bool} {X : Cx} {l : Option Expr}, CxOk W P I L c1 c2 d N sc fb X → chkP I e N sc fb l = true → PO X l (tP W (evP P c1 c2 e))
  | .nil, N, sc, fb, X, l, c, h => by
    unfold chkP at h
    split at h
    · exact snd_p0
    · cases h
  | .cons t r, N, sc, fb, X, l, c, h => by
    unfold chkP at h
    split at h
    · exact snd_p1 (sndE t c h)
    · cases h
theorem sndK : ∀ (e : Ks) {N : List Str} {sc : Scope} {fb : Str → Bool} {X : Cx} {l : List (Option Expr)} {m : List Expr}, CxOk W P I L c1 c2 d N sc fb X → chkK I e N sc fb l m = true →
    (∀ p, PPsW W X p l m (evKV P c1 c2 e)) ∧ l.all (·.isSome) = true ∧ l.length = m.length ∧ (l = [] → evKV P c1 c2 e = fun _ h => some ([], h))
  | .nil, N, sc, fb, X, l, m, c, h => by
    unfold chkK at h
    split at h
    · exact ⟨fun p => ppw_nil, rfl, rfl, fun _ => rfl⟩
    · cases h
  | .cons k v r, N, sc, fb, X, l, m, c, h => by
    unfold chkK at h
    split at h
    · simp only [Bool.and_eq_true] at h
      obtain ⟨q1, q2, q3, _⟩ := sndK r c h.2
      exact ⟨fun p => ppw_cons (sndE k c h.1.1) (sndE v c h.1.2) (q1 p), by simp [q2], by simp [q3], fun e => by cases e⟩
    · cases h
theorem sndT : ∀ (e : T) {N : List Str} {sc : Scope} {fb : Str → Bool} {X : Cx} {x : Expr}, CxOk W P I L c1 c2 d N sc fb X → chkT I e N sc fb x = true → PG X x (tT W (vT e) (asg P c1 c2 e))
  | .var i, N, sc, fb, X, x, c, h => by
    unfold chkT at h
    split at h
    · simp only [Bool.and_eq_true] at h
      exact snd_gvar (by rw [c.eN]; exact c.nd) (c.at_ h.1.1) (c.loc h.1.2) (c.sto h.2)
    · cases h
  | .tup ts, N, sc, fb, X, x, c, h => by
    unfold chkT at h
    split at h
    · exact snd_gtup c.xw (sndTs ts c h) (chkTs_pl h) (fun ds env h' r e => asgs_len h e)
    · cases h
  | .sub o i, N, sc, fb, X, x, c, h => by
    unfold chkT at h
    split at h
    · simp only [Bool.and_eq_true] at h
      exact snd_gsub c.xw (sndE o c h.1.1) (sndE i c h.1.2) h.2
    · cases h
  | .fld _ _, N, sc, fb, X, x, c, h => by unfold chkT at h; cases h
theorem sndTs : ∀ (e : Ts) {N : List Str} {sc : Scope} {fb : Str → Bool} {X : Cx} {l : List Expr}, CxOk W P I L c1 c2 d N sc fb X → chkTs I e N sc fb l = true → PGs X l (tTs W (vTs e) (asgs P c1 c2 e))
  | .nil, N, sc, fb, X, l, c, h => by
    unfold chkTs at h
    split at h
    · refine ⟨fun pins s σ H vs us Q In r hw => (snd_gnil (W := W)).run pins s σ H vs us Q In r ?_⟩
      obtain ⟨env, S, ρ, h, ds, env', h', re, R, rv, hg, wq⟩ := hw
      refine ⟨env, S, ρ, h, ds, env', h', re, R, rv, ?_, wq⟩
      cases ds with
      | nil => unfold asgs at hg; exact hg
      | cons _ _ => unfold asgs at hg; cases hg
    · cases h
  | .cons t r, N, sc, fb, X, l, c, h => by
    unfold chkTs at h
    split at h
    · simp only [Bool.and_eq_true] at h
      refine ⟨fun pins s σ H vs us Q In q hw => (snd_gcons (sndT t c h.1.1) (sndTs r c h.2) h.1.2).run pins s σ H vs us Q In q ?_⟩
      obtain ⟨env, S, ρ, h, ds, env', h', re, R, rv, hg, wq⟩ := hw
      refine ⟨env, S, ρ, h, ds, env', h', re, R, rv, ?_, wq⟩
      cases ds with
      | nil => unfold asgs at hg; cases hg
      | cons _ _ => unfold asgs at hg; exact hg
    · cases h
theorem sndI : ∀ (e : Ev.It) {N : List Str} {sc : Scope} {fb : Str → Bool} {X : Cx} {x tg : Expr}, CxOk W P I L c1 c2 d N sc fb X → chkI I e N sc fb x tg = true → PI X tg x (tI W (evI P c1 c2 e))
  | .of e, N, sc, fb, X, x, tg, c, h => by
    unfold chkI at h
    exact snd_iof c.xw (sndE e c h)
  | .rng es, N, sc, fb, X, x, tg, c, h => by
    unfold chkI at h
    split at h
    · simp only [Bool.and_eq_true, beq_iff_eq] at h
      obtain ⟨⟨⟨rfl, h2⟩, h3⟩, h4⟩ := h
      exact snd_irng (c.gl h3).1 (c.fr h2) (sndEs es c h4) (chkEs_pl h4) fun env h' vs h1 e => evEs_len h4 e
    · cases h
  | .enm e, N, sc, fb, X, x, tg, c, h => by
    unfold chkI at h
    split at h
    · simp only [Bool.and_eq_true, beq_iff_eq] at h
      obtain ⟨⟨⟨⟨rfl, h2⟩, h3⟩, h4⟩, h5⟩ := h
      exact snd_ienm c.xw (c.gl h3).1 (c.fr h2) (sndE e c h4) h5
    · cases h
  | .zip _ _, N, sc, fb, X, x, tg, c, h => by unfold chkI at h; cases h
end
end
end Ev
end
section
set_option Elab.async false
set_option linter.all false
/-! Ev26: statements, defs. -/
namespace Ev
open PySem
open L2 (upd upd_same upd_ne ne_of ne_of_none Cx VK OpR SqL SqT Key kV Inv valV putK RelV HOk ObjOk IxR SlR TruR PSet PGet CallR MtR EP PE PT PA PW TE TT TA PO thn CX0 pass0 Room FnOk Gl Binds Cls Meth Mk PG PGs TG TGs PI TI Turn FpOk Loc Vis PTs BlkOk PS PSs Ends TS)

theorem par_sw {x y : Str} {px py pt pt2 : Pos} {kt k2 : Nat} {a b : Expr} {env : PySem.Env} (hk : env.scope.kind = .function) (h : parB env.scope x y px py a b = true) (pa : plE a = true) (pb : plE b = true) :
    swappedStores [.Tuple [.Name x px, .Name y py] kt pt] (.Tuple [a, b] k2 pt2) env = pure (some [x, y]) := by
  unfold parB at h
  simp only [Bool.and_eq_true, Bool.not_eq_true'] at h
  obtain ⟨⟨⟨⟨⟨h1, h2⟩, h3⟩, h4⟩, h5⟩, h6⟩ := h
  have kx : env.kindOf x = some .local := by
    show env.scope.names.lookup x = _
    split at h1
    · assumption
    · cases h1
  have ky : env.kindOf y = some .local := by
    show env.scope.names.lookup y = _
    split at h2
    · assumption
    · cases h2
  have bk : env.blockKind = .function := by unfold Env.blockKind; rw [hk]; rfl
  have hf : ∀ e : Expr, plE e = true → (match e with | .Starred _ _ => true | _ => false) = false := fun e he => by cases e <;> first | rfl | cases he
  have hA := hf a pa
  have hB := hf b pb
  have hl2 : py.line = px.line := (beq_iff_eq.mp (show (px.line == py.line) = true from h3)).symm
  have hxy : (y == x) = false := by
    rw [beq_eq_false_iff_ne] at h4 ⊢
    exact Ne.symm h4
  have hd : ([x, y] : List Str).eraseDups = [x, y] := by
    rw [List.eraseDups_cons]
    simp [hxy, List.eraseDups_cons]
  unfold swappedStores
  simp [kx, bk, h5, h6, Expr.pos, hA, hB, List.filterMap, ky, hl2, hd]
  rintro (q | q)
  · cases a <;> first | (cases q; done) | (cases pa; done)
  · cases b <;> first | (cases q; done) | (cases pb; done)
theorem ss_cel {tg v : Expr} {env : PySem.Env} (h : celB env.scope tg = true) : swappedStores [tg] v env = pure none := by
  unfold celB at h
  split at h
  · rename_i x px y py k pt
    cases v with
    | Tuple vs k2 p2 =>
      have hn : ¬ (env.kindOf x = some .local ∧ env.kindOf y = some .local) := by
        rintro ⟨h1, h2⟩
        have h1 : env.scope.names.lookup x = some .local := h1
        have h2 : env.scope.names.lookup y = some .local := h2
        rw [h1, h2] at h
        cases h
      unfold swappedStores
      by_cases hx : env.kindOf x = some .local
      · have hy : ¬ env.kindOf y = some .local := fun z => hn ⟨hx, z⟩
        simp [hx, hy, List.filterMap, Expr.pos]
      · by_cases hy : env.kindOf y = some .local <;> by_cases hl : py.line = px.line <;> (simp [hx, hy, hl, List.filterMap, Expr.pos]; try (intros; rfl))
    | _ => rfl
  · cases h
section
variable {W : Wd} {P : Prg} {I : SI} {L : Lk} {c1 c2 : Fs} {d : Nat} {N : List Str} {sc : Scope} {X : Cx}
mutual
theorem sndS : ∀ (e : Ev.S) {x : Stmt}, PassesOwn (model X.prog X.w) X.A X.env X.xe → CxOk W P I L c1 c2 d N sc (fun _ => true) X → chkS I e N sc x = true → PS X x (tS W (evS P c1 c2 e))
  | .asg g e, x, hp, c, h => by
    unfold chkS at h
    split at h
    · rename_i tg v p
      split at h
      · rename_i o f u g' q
        simp only [Bool.and_eq_true, beq_iff_eq] at h
        obtain ⟨⟨rfl, h2⟩, h3⟩ := h
        exact snd_fldS c.xw (sndE o c h2) (sndE e c h3) c.ok.cl
      · rename_i i y py
        split at h
        · rename_i elt gs scope pv
          simp only [Bool.and_eq_true, Bool.not_eq_true'] at h
          obtain ⟨⟨⟨⟨h1, h2⟩, h3⟩, h4⟩, h5⟩ := h
          cases e with
          | comp z own e g it cs =>
            unfold chkE at h5
            split at h5
            · rename_i elt tg iter ifs scope' pos' hx
              cases hx
              simp only [Bool.and_eq_true] at h5
              obtain ⟨⟨⟨⟨⟨⟨q1, q2⟩, q3⟩, q4⟩, q5⟩, q6⟩, q7⟩ := h5
              have ok := L2.blkOk_by q1
              have ok' : BlkOk X.N X.env.scope scope (ownP N own) := by rw [c.eN, c.esc]; exact ok
              have hyl : X.env.scope.names.lookup y = some .local := by
                rw [c.esc]
                split at h3
                · assumption
                · cases h3
              have hks : ∀ i ∈ vT g, i ∈ (ownP N own).map (·.2) := fun i hi => by
                rw [ownP_snd]
                have := List.all_eq_true.mp q7 i hi
                simpa using this
              have r := snd_setLc (z := z) (spos := p) c.xw (by rw [c.eN]; exact c.nd) (c.at_ h2) hyl (by rw [c.esc]; exact c.kind) h1 h4 (sndI it c q2) ok' (fun s H C cl fp => sndT g (c.blk ok s H C cl fp) q4) (fun s H C cl fp => sndQ cs (c.blk ok s H C cl fp) q5) (fun s H C cl fp => sndE e (c.blk ok s H C cl fp) q6) q3 hks
              rw [ownP_snd] at r
              exact r
            · cases h5
          | _ => unfold chkE at h5; cases h5
        · simp only [Bool.and_eq_true] at h
          obtain ⟨⟨h1, h2⟩, h3⟩ := h
          exact snd_asg (sndE e c h2) (sndT _ c h3) (sole_pl h1) (ss_pl (by rfl)) (by rfl)
      · simp only [Bool.and_eq_true] at h
        obtain ⟨⟨⟨⟨h1, h2⟩, h3⟩, h4⟩, h5⟩ := h
        have hss : swappedStores [tg] v X.env = pure none := by
          rcases Bool.or_eq_true_iff.mp h2 with q | q
          · exact ss_pl q
          · exact ss_cel (by rw [c.esc]; exact q)
        refine snd_asg (sndE e c h4) (sndT g c h5) ?_ hss h3
        unfold swB at h1
        rcases Bool.or_eq_true_iff.mp h1 with q | q
        · exact sole_pl q
        · cases tg <;> first | (cases v <;> rfl) | cases q
    · cases h
  | .par i j a b, x, hp, c, h => by
    unfold chkS at h
    split at h
    · simp only [Bool.and_eq_true, Bool.not_eq_true'] at h
      obtain ⟨⟨⟨⟨⟨⟨⟨h1, h2⟩, h3⟩, h4⟩, h5⟩, h6⟩, h7⟩, h8⟩ := h
      have h4' := h4
      unfold parB at h4'
      simp only [Bool.and_eq_true, Bool.not_eq_true'] at h4'
      obtain ⟨⟨⟨⟨⟨k1, k2⟩, _⟩, _⟩, _⟩, _⟩ := h4'
      refine snd_par c.xw (by rw [c.eN]; exact c.nd) (c.at_ h1) (c.at_ h2) (Nat.ne_of_beq_eq_false h3) ?_ ?_ (sndE a c h5) (sndE b c h6) h7 h8 (par_sw (by rw [c.esc]; exact c.kind) (by rw [c.esc]; exact h4) h7 h8)
      · rw [c.esc]
        split at k1
        · assumption
        · cases k1
      · rw [c.esc]
        split at k2
        · assumption
        · cases k2
    · cases h
  | .aug i o e, x, hp, c, h => by
    unfold chkS at h
    split at h
    · simp only [Bool.and_eq_true, decide_eq_true_eq] at h
      obtain ⟨⟨⟨rfl, h2⟩, h3⟩, h4⟩ := h
      exact snd_aug (by rw [c.eN]; exact c.nd) (c.at_ h2) (c.loc h3) (.inl (c.efb _ rfl)) (sndE e c h4)
    · cases h
  | .augS o i p e, x, hp, c, h => by
    unfold chkS at h
    split at h
    · simp only [Bool.and_eq_true, decide_eq_true_eq] at h
      obtain ⟨⟨⟨⟨rfl, h2⟩, h3⟩, h4⟩, h5⟩ := h
      exact snd_augS c.xw (sndE o c h2) (sndE i c h3) (sndE e c h5) h4
    · cases h
  | .augF _ _ _ _, x, hp, c, h => by unfold chkS at h; cases h
  | .exp e, x, hp, c, h => by
    unfold chkS at h
    split at h
    · rw [Bool.and_eq_true] at h
      exact snd_exp (sndE e c h.1) h.2
    · cases h
  | .ret e, x, hp, c, h => by
    unfold chkS at h
    split at h
    · exact snd_ret (sndE e c h)
    · cases h
  | .retN, x, hp, c, h => by
    unfold chkS at h
    split at h
    · exact snd_retN
    · cases h
  | .iff t a b, x, hp, c, h => by
    unfold chkS at h
    split at h
    · simp only [Bool.and_eq_true] at h
      exact snd_iff (sndC t c h.1.1) (sndSs a hp c h.1.2) (sndSs b hp c h.2)
    · cases h
  | .whl t b, x, hp, c, h => by
    unfold chkS at h
    split at h
    · rw [Bool.and_eq_true] at h
      exact snd_whl hp (sndC t c h.1) (sndSs b hp c h.2)
    · cases h
  | .for_ g it b, x, hp, c, h => by
    unfold chkS at h
    split at h
    · simp only [Bool.and_eq_true] at h
      obtain ⟨⟨⟨h1, h2⟩, h3⟩, h4⟩ := h
      exact snd_for c.xw hp (sndI it c h1) (sndT g c h3) (sndSs b hp c h4) h2
    · cases h
  | .pass, x, hp, c, h => by
    unfold chkS at h
    split at h
    · exact snd_pass
    · cases h
  | .brk, x, hp, c, h => by
    unfold chkS at h
    split at h
    · exact snd_brk
    · cases h
  | .cnt, x, hp, c, h => by
    unfold chkS at h
    split at h
    · exact snd_cnt
    · cases h
  | .nvr, x, hp, c, h => snd_nvr
theorem sndSs : ∀ (e : Ss) {l : List Stmt}, PassesOwn (model X.prog X.w) X.A X.env X.xe → CxOk W P I L c1 c2 d N sc (fun _ => true) X → chkSs I e N sc l = true → PSs X l (tS W (evSs P c1 c2 e))
  | .nil, l, hp, c, h => by
    unfold chkSs at h
    split at h
    · exact snd_snil
    · cases h
  | .cons s r, l, hp, c, h => by
    unfold chkSs at h
    split at h
    · rw [Bool.and_eq_true] at h
      exact snd_scons (sndS s hp c h.1) (sndSs r hp c h.2)
    · cases h
  | .iso r, l, hp, c, h => by
    unfold chkSs at h
    exact snd_iso (sndSs r hp c h)
end
end
end Ev
end
section
set_option Elab.async false
set_option linter.all false
/-! Ev27: the defs of a program keep their evaluation's promise. -/
namespace Ev
open PySem
open L2 (upd upd_same upd_ne ne_of ne_of_none Cx VK Inv RelV HOk PE PT PA PW TE TT TA PO thn CX0 pass0 Room FnOk Gl Binds Cls Meth Mk Loc Vis PS PSs Ends TS FunD FnScope)

structure FnT where
  x : Str
  qual : Str
  params : Arguments
  body : List Stmt
  scope : Scope
  N : List Str
structure FOk (W : Wd) (P : Prg) (I : SI) (L : Lk) (T : Nat → FnT) : Prop where
  fd : ∀ f i, I.fi f = some i → FunD W.K (T f).x (T f).qual (T f).params (T f).body (T f).scope [] [] (L.fA f) (L.fD f)
  sc : ∀ f i, I.fi f = some i → FnScope (T f).N i.ps (T f).scope
  bd : ∀ f i k, I.fi f = some i → P.fns f = some k → chkSs I k.body (T f).N (T f).scope (T f).body = true ∧ k.np = i.ps.length ∧ k.ns = (T f).N.length
section
variable {W : Wd} {P : Prg} {I : SI} {L : Lk} {T : Nat → FnT}
theorem call_ar (F : FOk W P I L T) {f i} (h : I.fi f = some i) : ∀ d, Ar i.ps.length (call P d f)
  | 0 => fun vs h r e => by cases e
  | d + 1 => fun vs h' r e => by
    have e : step P (calls P d).1 (calls P d).2 f vs h' = some r := e
    unfold step at e
    split at e
    · rename_i k hk
      split at e
      · rename_i hl
        rw [hl, (F.bd f i k h hk).2.1]
      · cases e
    · cases e
theorem noneL_len : ∀ n, (noneL n).length = n
  | 0 => rfl
  | n + 1 => by simp [noneL, noneL_len n]
theorem noneL_get : ∀ (n i : Nat), getE (noneL n) i = none
  | 0, i => by simp [noneL, getE]
  | n + 1, 0 => by simp [noneL, getE]
  | n + 1, i + 1 => by simp [noneL, getE, noneL_get n i]
theorem start_re {H : HH} {S : Addr → Prop} {ρ : Rho} : ∀ {ds : List D} {vs : List L2.V} {n m : Nat}, RVs W H S ρ ds vs → n = m → RE W H S ρ (ds.map some ++ noneL n) (vs.map some ++ List.replicate m none) := by
  intro ds vs n m r e
  subst e
  refine ⟨by simp [noneL_len, r.len], ?_⟩
  have : ∀ (ds : List D) (vs : List L2.V) (i : Nat) (d : D), RVs W H S ρ ds vs → getE (ds.map some ++ noneL n) i = some d → ∃ v, (vs.map some ++ List.replicate n none)[i]? = some (some v) ∧ RV W H S ρ d v := by
    intro ds
    induction ds with
    | nil => intro vs i d r e; simp [noneL_get] at e
    | cons x xs ih =>
      intro vs i d r e
      cases r with
      | cons a t =>
        cases i with
        | zero => simp [getE] at e; subst e; exact ⟨_, rfl, a⟩
        | succ i =>
          obtain ⟨v, h1, h2⟩ := ih _ i d t e
          exact ⟨v, h1, h2⟩
  exact fun i d e => this ds vs i d r e
theorem fok_none {f : Nat} {ps : List Str} {fd : FuncData} {k : Nat} {a : Addr} : FnOk W.P W.w W.K W.mg L.base CX0 k a fd ps (spC W ps.length fun _ _ => none) :=
  ⟨fun vs H Q E h => h.1, fun A outer s H args us vs Q E hr he hb hv hs => by
    obtain ⟨_, S, ρ, h, ds, d, h', _, _, e, _⟩ := hs
    cases e⟩
theorem funs_ok (hrep : I.rep = false) (ok : SIok W P I L) (F : FOk W P I L T) : ∀ d f i, I.fi f = some i → FnOk W.P W.w W.K W.mg L.base CX0 (d + 1) (L.fA f) (L.fD f) i.ps (spC W i.ps.length (call P d f))
  | 0, f, i, h => fok_none (f := f)
  | d + 1, f, i, h => by
    refine (F.fd f i h).ok (F.sc f i h) (fun vs H Q E q => q.1) fun cdv A outer s H vs Q E hr hsp => ?_
    obtain ⟨hn, S, ρ, hp, ds, dd, hp', rv, R, e, wq⟩ := hsp
    have e : step P (call P d) (calls P d).2 f ds hp = some (dd, hp') := e
    unfold step at e
    split at e
    rotate_left
    · cases e
    rename_i k hk
    obtain ⟨hc, hnp, hns⟩ := F.bd f i k h hk
    split at e
    rotate_left
    · cases e
    rename_i hl
    have sc := F.sc f i h
    have c : CxOk W P I L (call P d) (calls P d).2 d (T f).N (T f).scope (fun _ => true) (L2.cxOf CX0 W.P W.w W.K W.mg L.base (T f).N (T f).qual (T f).scope (L.fA f) cdv A outer s H E).nox := by
      refine ⟨⟨rfl, rfl, rfl, rfl, rfl, ?_⟩, rfl, rfl, fun x _ => rfl, rfl, sc.nd, sc.kind, hr, (fun e => by rw [hrep] at e; cases e), ok, fun g j hj => funs_ok hrep ok F d g j hj, fun g j hj => ?_, fun g j hj => call_ar F hj d, fun g j hj => ?_⟩
      · have := hr.un
        exact Nat.lt_of_le_of_lt (Nat.add_le_add_right (Nat.le_add_right _ _) _) this
      · cases d with
        | zero => exact fok_none (f := g)
        | succ d' => exact funs_ok hrep ok F d' g j hj
      · cases d with
        | zero => exact fun vs h r e => by cases e
        | succ d' => exact call_ar F hj d'
    refine ⟨_, L2.PSs.nox (sndSs k.body PassesOwn.never c hc), ?_⟩
    have hlen : k.ns - k.np = (T f).N.length - vs.length := by rw [hns, hnp, hn]
    split at e
    · rename_i env1 h1 e1
      cases e
      exact ⟨_, S, ρ, hp, _, start_re rv hlen, R, e1, fun S1 ρ1 H1 g1 R1 σ1 re1 => wq S1 ρ1 H1 _ g1 R1 .non⟩
    · rename_i r env1 h1 e1
      cases e
      exact ⟨_, S, ρ, hp, _, start_re rv hlen, R, e1, fun S1 ρ1 H1 g1 R1 v rv => wq S1 ρ1 H1 v g1 R1 rv⟩
    · cases e
end
end Ev
end
section
set_option Elab.async false
set_option linter.all false
set_option maxRecDepth 100000
/-! Ev28: the law's def, which shows things; the law's end. -/
namespace Ev
open PySem PySem.Spec PyProof.Rows
open L2 (upd upd_same upd_ne Cx VK Inv RelV HOk ObjOk PE PT PA CX0 Room FnOk Binds PS PSs Ends TS FunD FnScope Env0 CE CR XK Vals cxOf inv_start start SqL SqT HO Only hidT hidT_get hidT_size of_hidT Mod ObjOk vals_ints)

/-- a def's promise where nothing is being shown -/
structure FnG (P : Program) (w : World) (K : PySem.W.Frag) (mg : Str → Option Value) (base : Heap) (k : Nat) (f : Addr) (fd : FuncData) (ps : List Str) (sp : L2.Sp) : Prop where
  len : ∀ vs H Q E, sp vs H Q E → vs.length = ps.length
  run : ∀ (A : Around) (outer : List PySem.Env) (s : Shared) (H : HH) (args : Args) (us : List Value) (vs : List L2.V) (Q : VK) (E : XK), Room k A → A.guards = some [] → Env0 P w K mg base A outer s H → BindsTo s fd args (ps.zip us) → Vals vs us → sp vs H Q E →
    codeAny (model P w) A (.call (.ref f) args) (CR CX0 outer P w H s Q E) s
theorem fnG_of {P : Program} {w : World} {K : PySem.W.Frag} {mg : Str → Option Value} {base : Heap} {k : Nat} {f : Addr} {x qual : Str} {params : Arguments} {body : List Stmt} {scope : Scope} {fd : FuncData} {N ps : List Str} {sp : L2.Sp}
    (D : FunD K x qual params body scope [] [] f fd) (S : FnScope N ps scope) (len : ∀ vs H Q E, sp vs H Q E → vs.length = ps.length)
    (hbody : ∀ (cdv : Value) (A : Around) (outer : List PySem.Env) (s : Shared) (H : HH) (vs : List L2.V) (Q : VK) (E : XK), Room k (A.deeper (envOfC qual scope s.heap.objs.size f cdv)) → A.guards = some [] → sp vs H Q E →
      ∃ t, PSs (cxOf CX0 P w K mg base N qual scope f cdv A outer s H E) body t ∧ t { nx := fun _ H' => Q .non H', rt := Q } (start N vs) H) :
    FnG P w K mg base (k + 1) f fd ps sp := by
  obtain ⟨oc, od, dV, kV, doc, pm, an, cdv, ct, osl, rfl, lk, hcd, _, _⟩ := D.ex
  refine ⟨len, fun A outer s H args us vs Q E hr hg e0 hb r hsp => ?_⟩
  have hl := len _ _ _ _ hsp
  have kin : K.In s.heap := e0.mod.kin.keeps fun b o e => (e0.bs b o e).1
  have lim : s.heap.NoLimit := e0.mod.nolimit.keeps fun b o e => (e0.bs b o e).1
  have kinds : ∀ y ∈ ps.zip us, scope.names.lookup y.1 = some .local ∨ (scope.names.lookup y.1 = some .cell ∧ ((cellsFrom (s.heap.objs.size + 1) scope.names []).lookup y.1).isSome = true) := by
    rintro ⟨n, v⟩ hy
    have q := S.par n (List.of_mem_zip hy).1
    exact q.imp id fun z => ⟨z, PySem.W.cellsFrom_some _ _ _ (.inl z)⟩
  refine codeAny_call_function hr.depth (kin _ _ lk) rfl S.co S.gen rfl (PySem.W.codeRec_of kin hcd) (hb _ _ _ _ (wpAny_newFunctionEnv_cells S.kind kinds fun env he s1 ic => ?_))
  subst he
  refine ⟨lim.keeps ic.toInCall.keep, codeAny_func ?_⟩
  obtain ⟨t, ht, hq⟩ := hbody cdv A outer s H vs Q E (hr.deeper _) hg hsp
  have I : Inv (cxOf CX0 P w K mg base N qual scope f cdv A outer s H E) [] (start N vs) H s1 := inv_start S hr.hd e0 hl r ic
  refine wpAny_mono (ht.run [] s1 (start N vs) H _ I hq) (fun fl s' hs => ?_) fun e s' hs => hs
  have done : ∀ {σ' : L2.St} {H' : HH} {v : L2.V} {u : Value}, Inv (cxOf CX0 P w K mg base N qual scope f cdv A outer s H E) [] σ' H' s' → RelV v u → Q v H' → CE outer P w H s Q u s' :=
    fun {σ' H' v u} J rv q => ⟨v, H', J.os, J.bare, J.base, J.hok, rv, q⟩
  cases fl with
  | ret u => exact let ⟨_, _, _, J, rv, q⟩ := hs; done J rv q
  | next => exact let ⟨_, _, J, q⟩ := hs; done (v := L2.V.non) (u := Value.none) J rfl q
  | brk => exact (let ⟨_, _, _, q⟩ := hs; q : False).elim
  | cont => exact (let ⟨_, _, _, q⟩ := hs; q : False).elim
section
variable {W : Wd} {P : Prg} {I : SI} {L : Lk} {T : Nat → FnT}
/-- the law's def -/
theorem law_fok (hrep : I.rep = false) (ok : SIok W P I L) (F : FOk W P I L T) {t : FnT} {a : Addr} {fd : FuncData} {ps : List Str} {b : Ss} (D : FunD W.K t.x t.qual t.params t.body t.scope [] [] a fd)
    (sc : FnScope t.N ps t.scope) (hc : chkSs { I with rep := true } b t.N t.scope t.body = true) (d : Nat) :
    FnG W.P W.w W.K W.mg L.base (d + 2) a fd ps (spC W ps.length fun vs h => match evSs P (call P d) (calls P d).2 b (vs.map some ++ noneL (t.N.length - ps.length)) h with
      | some (.nx, _, h') => some (.non, h')
      | some (.rt r, _, h') => some (r, h')
      | _ => none) := by
  refine fnG_of D sc (fun vs H Q E q => q.1) fun cdv A outer s H vs Q E hr hg hsp => ?_
  obtain ⟨hn, S, ρ, hp, ds, dd, hp', rv, R, e, wq⟩ := hsp
  have c : CxOk W P { I with rep := true } L (call P d) (calls P d).2 d t.N t.scope (fun _ => true) (L2.cxOf CX0 W.P W.w W.K W.mg L.base t.N t.qual t.scope a cdv A outer s H E).nox := by
    refine ⟨⟨rfl, rfl, rfl, rfl, rfl, ?_⟩, rfl, rfl, fun x _ => rfl, rfl, sc.nd, sc.kind, hr, fun _ => hg, ⟨ok.fn, ok.gl, ok.cl, ok.mkk, ok.me, ok.fr, ok.co⟩, fun g j hj => funs_ok hrep ok F d g j hj, fun g j hj => ?_, fun g j hj => call_ar F hj d, fun g j hj => ?_⟩
    · have := hr.un
      exact Nat.lt_of_le_of_lt (Nat.add_le_add_right (Nat.le_add_right _ _) _) this
    · cases d with
      | zero => exact fok_none (f := g)
      | succ d' => exact funs_ok hrep ok F d' g j hj
    · cases d with
      | zero => exact fun vs h r e => by cases e
      | succ d' => exact call_ar F hj d'
  refine ⟨_, L2.PSs.nox (sndSs b PassesOwn.never c hc), ?_⟩
  have hlen : t.N.length - ps.length = t.N.length - vs.length := by rw [hn]
  try dsimp only at e
  split at e
  · rename_i env1 h1 e1
    cases e
    exact ⟨_, S, ρ, hp, _, start_re rv hlen, R, e1, fun S1 ρ1 H1 g1 R1 σ1 re1 => wq S1 ρ1 H1 _ g1 R1 .non⟩
  · rename_i r env1 h1 e1
    cases e
    exact ⟨_, S, ρ, hp, _, start_re rv hlen, R, e1, fun S1 ρ1 H1 g1 R1 v rv => wq S1 ρ1 H1 v g1 R1 rv⟩
  · cases e
end
end Ev
end
section
set_option Elab.async false
set_option linter.all false
set_option maxRecDepth 100000
set_option maxHeartbeats 2000000
/-! Ev29: the law's end. -/
namespace Ev
open PySem PySem.Spec PyProof.Rows
open L2 (upd upd_same upd_ne Cx VK Inv RelV HOk ObjOk PE PT PA CX0 Room FnOk Binds PS PSs Ends TS FunD FnScope Env0 CE CR XK Vals cxOf inv_start start SqL SqT HO Only hidT hidT_get hidT_size of_hidT Mod vals_ints)

/-- the script as data -/
def scr (ns : List Int) : D := .frl (ns.map .int)
theorem rvs_ints {W : Wd} {H : HH} {S : Addr → Prop} {ρ : Rho} : ∀ ns : List Int, RVs W H S ρ (ns.map D.int) (ns.map L2.V.int)
  | [] => .nil
  | n :: r => .cons (.int n) (rvs_ints r)
/-- the script stands for its data -/
theorem scr_sp {W : Wd} {H : HH} {a : Addr} {ns : List Int} {g : List D → Mm → Option (D × Mm)} {h' : Mm} {E : XK} (hO : Only H) (hS : SqL W.K H a (ns.map L2.V.int)) (hg : g [scr ns] .nil = some (.bl true, h')) : spC W 1 g [.ref a] H (fun v _ => v = .bl true) E := by
  refine ⟨rfl, fun b => ∃ u, H b = some u, rho0, .nil, [scr ns], .bl true, h', .cons (.frl ?_ (rvs_ints ns)) .nil, ⟨fun n o e => (by cases e), fun n m a o u e => (by cases e), fun n a e => (by cases e), fun b s => s⟩, hg, fun S' ρ' H' v _ _ r => by cases r; rfl⟩
  rcases hS with (e | ⟨o, e⟩) | k
  · rcases hO a with z | ⟨o, xs, z⟩
    · rw [e] at z; cases z
    · rw [e] at z; cases z
  · exact .inl ⟨⟨_, e⟩, o, e⟩
  · exact .inr k
theorem call_G {P : Program} {w : World} {K : PySem.W.Frag} {mg mb : Str → Option Value} {k : Nat} {fa a : Addr} {fd : FuncData} {x : Str} {sp : L2.Sp} {s₁ : Shared} {vs : List Value} {ns : List Int}
    (KX : K.In s₁.heap) (hns : s₁.heap.Ns mainGlobals mg) (hb : s₁.heap.Ns builtinsNs mb) (hbb : ∀ x : Str, x ≠ "__name__" → mb x = bootBuiltins x) (hlim : s₁.heap.NoLimit) (hg : s₁.gens = #[])
    (ha : s₁.heap.get? a = some { cls := .type "list", data := .seq vs.toArray }) (hi : IntsAre vs ns) (hl : ns.length ≤ sizeLine) (hr : Room k callerA)
    (F : ∀ base : Heap, K.In base → base.Ns mainGlobals mg → FnG P w K mg base k fa fd [x] sp) (hbind : ∀ (s : Shared) (u : Value), BindsTo s fd ⟨[u], []⟩ [(x, u)])
    (hsp : ∀ H : HH, Only H → SqL K H a (ns.map L2.V.int) → sp [.ref a] H (fun v _ => v = .bl true) L2.E0) :
    codeAny (model P w) callerA (.call (.ref fa) ⟨[.ref a], []⟩) (fun r s' => r = .ok (.ret (.bool true)) ∧ OldK s₁.heap s'.heap ∧ s'.os = s₁.os ∧ AllBare s'.gens) s₁ := by
  have rv := vals_ints hi
  -- the tracked heap: the script alone, if it is not the module's own
  have key : ∀ H : HH, (∀ b u, H b = some u → b = a ∧ K.lookup a = none ∧ ∃ o xs, u = .frz o (.lst xs)) → SqL K H a (ns.map L2.V.int) → HOk P w H s₁.heap →
      codeAny (model P w) callerA (.call (.ref fa) ⟨[.ref a], []⟩) (fun r s' => r = .ok (.ret (.bool true)) ∧ OldK s₁.heap s'.heap ∧ s'.os = s₁.os ∧ AllBare s'.gens) s₁ := by
    intro H hA hS hok
    have only : Only H := fun b => by
      cases q : H b with
      | none => exact .inl rfl
      | some u => obtain ⟨_, _, o, xs, e⟩ := hA b u q; exact .inr ⟨o, xs, by rw [e]⟩
    have free : ∀ b, b ≠ a → H b = none := fun b hne => by
      cases q : H b with
      | none => rfl
      | some u => exact absurd (hA b u q).1 hne
    have nsOf : ∀ {b : Addr} {m : Str → Option Value}, s₁.heap.Ns b m → (hidT s₁.heap H).Ns b m := by
      rintro b m ⟨o, es, ep, e, d, r⟩
      refine ⟨o, es, ep, hidT_get e (free b fun z => ?_), d, r⟩
      rw [z, ha] at e
      cases e
      cases d
    have kb : K.In (hidT s₁.heap H) := fun b o e => hidT_get (KX b o e) (by
      cases q : H b with
      | none => rfl
      | some u =>
        obtain ⟨z, n, _⟩ := hA b u q
        rw [z, n] at e; cases e)
    have md : Mod K mg (hidT s₁.heap H) := ⟨kb, nsOf hns, ⟨mb, nsOf hb, hbb⟩, hlim.imp fun mc h => ⟨nsOf h.1, h.2⟩⟩
    have e0 : Env0 P w K mg (hidT s₁.heap H) callerA [] s₁ H := ⟨rfl, md, fun b o e => of_hidT e, Nat.le_of_eq (hidT_size _ _), trivial, fun b hb => (by cases hb), hok, .of_eq hg⟩
    refine codeAny_mono ((F _ kb (nsOf hns)).run callerA [] s₁ H ⟨[.ref a], []⟩ [.ref a] [.ref a] _ _ hr rfl e0 (hbind s₁ (.ref a)) (.cons rfl .nil) (hsp H only hS)) fun r s' h => ?_
    match r, h with
    | .ok (.ret u), h =>
      obtain ⟨v, H', os, bare, un, hok', r', q⟩ := h
      cases (show v = .bl true from q)
      cases (show u = Value.bool true from r')
      refine ⟨rfl, OldK.of_keep fun b o e => ?_, os, bare⟩
      cases q : H b with
      | none => exact un.keep b o e q (fun z => by cases z) (fun z => by cases z)
      | some u =>
        obtain ⟨_, _, ob, xs, rfl⟩ := hA b u q
        obtain ⟨e1, _⟩ := hok b _ q
        obtain ⟨e2, _⟩ := hok' b _ (un.frzs b ob _ q)
        rw [e] at e1; cases e1
        exact e2
    | .error e, h => exact (show False from h).elim
    | .ok .next, h => exact (show False from h).elim
    | .ok .brk, h => exact (show False from h).elim
    | .ok .cont, h => exact (show False from h).elim
  cases hk : K.lookup a with
  | some o =>
    have e := KX a o hk
    rw [ha] at e
    cases e
    refine key (fun _ => none) (fun b u z => by cases z) (.inr ⟨_, vs.toArray, _, hk, rfl, rfl, rfl, by rw [List.size_toArray, hi.length]; exact hl, by simpa using rv⟩) fun b u z => by cases (show (none : Option HO) = some u from z)
  | none =>
    let ob : Obj := { cls := .type "list", data := .seq vs.toArray }
    have there : ∀ b u, (if b = a then some (HO.frz ob (.lst (ns.map L2.V.int))) else none) = some u → b = a ∧ u = .frz ob (.lst (ns.map L2.V.int)) := fun b u z => by
      by_cases e : b = a
      · rw [if_pos e] at z; exact ⟨e, (Option.some.inj z).symm⟩
      · rw [if_neg e] at z; cases z
    refine key (fun b => if b = a then some (.frz ob (.lst (ns.map L2.V.int))) else none) (fun b u z => ?_) (.inl (.inr ⟨ob, if_pos rfl⟩)) fun b u z => ?_
    · obtain ⟨h1, h2⟩ := there b u z
      exact ⟨h1, hk, ob, _, h2⟩
    · obtain ⟨rfl, rfl⟩ := there b u z
      exact ⟨ha, by rw [List.length_map]; exact hl, vs, _, rv, ha⟩
theorem walk_G {l : PySem.W.OpenLaw} {n k : Nat} {q : Program} {loose : List Str} {XP : (Str → Option Value) → Heap → Prop} {YP : World → Heap → Prop} {d : DefRec} {x : Str}
    (hn : l.most = some n) (hn2 : n ≤ sizeLine) (hdf : d.params.defaults = []) (hr : Room k callerA)
    (F : ∀ (w : World) (mg : Str → Option Value) (fa : Addr) (h : Heap), YP w h → h.Ns mainGlobals mg → mg d.name = some (.ref fa) →
      ∃ (K : PySem.W.Frag) (fd : FuncData) (sp : L2.Sp), K.In h ∧ (∀ (s : Shared) (u : Value), BindsTo s fd ⟨[u], []⟩ [(x, u)]) ∧
        (∀ (H : HH) (a : Addr) (ns : List Int), ns.length ≤ n → Only H → SqL K H a (ns.map L2.V.int) → sp [.ref a] H (fun v _ => v = .bl true) L2.E0) ∧
        ∀ base : Heap, K.In base → base.Ns mainGlobals mg → FnG l.prog w K mg base k fa fd [x] sp) :
    PySem.W.WalkO q loose XP YP l.row.toRowW d [] (fun f vs => PySem.call f vs) := by
  refine Att.attach_call hn hdf fun w s₀ s₁ mg mb fa o pm cd doc a vs ns G Y ho hd hcd hmg hobj hints hlen hg => ?_
  obtain ⟨K, fd, sp, KX, hb, hsp, hF⟩ := F w mg fa _ Y G.T.g hmg
  exact call_G KX G.T.g G.T.b G.T.builtins G.T.nolimit hg hobj hints (Nat.le_trans hlen hn2) hr hF hb fun H hO hS => hsp H a ns hlen hO hS
end Ev
end
section
set_option Elab.async false
set_option linter.all false
set_option maxRecDepth 100000
/-! Ev30: what the top leaves: facts by names, dicts of texts. -/
namespace Ev
open PySem PySem.Spec PyProof.Rows

def obsEs : List DictEntry → Option (List (Str × Str × Int))
  | [] => some []
  | e :: r => match e.key, e.val, obsEs r with
    | .str a _, .str b _, some s => some ((a, b, e.hash) :: s)
    | _, _, _ => none
def obsK (K : PySem.W.Frag) (x : Str) : Option (List (Str × Str × Int)) := match He.ga K x == sysModules with
  | true => none
  | false => match K.lookup (He.ga K x) with
    | some ⟨.type c, none, .dict es _, ⟨[]⟩⟩ => (match c == "dict" with
      | true => obsEs es.toList
      | false => none)
    | _ => none
abbrev Dks : Type := List (Str × List (Str × Str))
def valK (ds : Dks) (w : World) : List (Option (List (Str × Str × Int))) := ds.map fun d => some (d.2.map fun p => (p.1, p.2, PyData.keyHash w.params p.1))
def obsX (n : Nat) (fa : List He.Fa) (fn : List He.DefD) (ds : Dks) (g : Addr → Option Obj) : He.AlD × List (Option (List (Str × Str × Int))) :=
  (He.obsDG n fa fn g, ds.map fun d => obsK (He.frG g (He.asD g n)) d.1)
def hookX (n : Nat) (fa : List He.Fa) (fn : List He.DefD) (ds : Dks) : PySem.W.Hook where
  α := He.AlD × List (Option (List (Str × Str × Int)))
  obs := fun s => obsX n fa fn ds s.heap.get?
  val := fun w => (He.valD fn, valK ds w)
  says := fun w h => ∃ K : PySem.W.Frag, K.In h ∧ He.SaysD fa fn K ∧ (ds.map fun d => obsK K d.1) = valK ds w
  of := fun w s e => ⟨He.frG s.heap.get? (He.asD s.heap.get? n), He.frG_in, congrArg (fun z : He.AlD × List (Option (List (Str × Str × Int))) => z.1) e, congrArg (fun z : He.AlD × List (Option (List (Str × Str × Int))) => z.2) e⟩
  keeps := fun _ _ _ ⟨K, hK, c⟩ k => ⟨K, PySem.W.Frag.In.keeps hK k, c⟩
theorem obsX_eq {n : Nat} {fa : List He.Fa} {fn : List He.DefD} {ds : Dks} {g : Addr → Option Obj} {s : Shared} (h : ∀ a, g a = s.heap.get? a) : obsX n fa fn ds g = (hookX n fa fn ds).obs s := by
  have e : g = s.heap.get? := funext h
  rw [e] <;> rfl
theorem es_ok {P : Params} : ∀ {l : List DictEntry} {kvs : List (Str × Str)}, obsEs l = some (kvs.map fun p => (p.1, p.2, PyData.keyHash P p.1)) → PySem.W.KeysLit P l ∧ l.any (·.refKey) = false ∧
    ∀ x, (lkF (kvs.map fun p => (p.1, D.str p.2)) x = none ∧ l.find? (·.key.isStr x) = none) ∨ ∃ d v e, lkF (kvs.map fun p => (p.1, D.str p.2)) x = some d ∧ l.find? (·.key.isStr x) = some e ∧ L2.RelV v e.val ∧ Sca d v
  | [], kvs, h => by
    cases kvs with
    | nil => exact ⟨trivial, rfl, fun x => .inl ⟨rfl, rfl⟩⟩
    | cons p r => cases h
  | e :: r, kvs, h => by
    unfold obsEs at h
    split at h
    · rename_i a t b u s ek ev es
      cases kvs with
      | nil => cases h
      | cons p kvs =>
        have h := Option.some.inj h
        rw [List.map_cons] at h
        injection h with h1 h2
        injection h1 with h3 h4
        injection h4 with h5 h6
        subst h3 h5
        obtain ⟨q1, q2, q3⟩ := es_ok (P := P) (kvs := kvs) (by rw [es, h2])
        have ks : ∀ x, e.key.isStr x = (p.1 == x) := fun x => by rw [ek]; rfl
        refine ⟨⟨⟨p.1, t, ek, h6⟩, q1⟩, ?_, fun x => ?_⟩
        · rw [List.any_cons, q2, Bool.or_false]
          unfold DictEntry.refKey
          rw [ek]
        · by_cases hx : p.1 = x
          · refine .inr ⟨.str p.2, .str p.2, e, by simp [lkF, hx], ?_, by rw [ev]; exact ⟨u, rfl⟩, .str _⟩
            rw [List.find?_cons, ks, show (p.1 == x) = true from beq_iff_eq.mpr hx]
          · have hb : (p.1 == x) = false := beq_eq_false_iff_ne.mpr hx
            rcases q3 x with ⟨z1, z2⟩ | ⟨d, v, e', z1, z2, z3, z4⟩
            · exact .inl ⟨by simp [lkF, hx, z1], by rw [List.find?_cons, ks, hb]; exact z2⟩
            · exact .inr ⟨d, v, e', by simp [lkF, hx, z1], by rw [List.find?_cons, ks, hb]; exact z2, z3, z4⟩
    · cases h
theorem kds_ok {W : Wd} {x : Str} {kvs : List (Str × Str)} (h : obsK W.K x = some (kvs.map fun p => (p.1, p.2, PyData.keyHash W.w.params p.1))) : KDs W (He.ga W.K x) (kvs.map fun p => (p.1, D.str p.2)) := by
  unfold obsK at h
  split at h
  · cases h
  · rename_i hs
    split at h
    · rename_i c es n hl
      split at h
      · rename_i hc
        have hc : c = "dict" := beq_iff_eq.mp hc
        subst hc
        obtain ⟨q1, q2, q3⟩ := es_ok h
        refine ⟨hs, es, n, hl, q1, fun y => ?_⟩
        have ns : PySem.W.nsIn W.K (He.ga W.K x) y = (match es.toList.find? (·.key.isStr y) with
          | some e => some (some e.val)
          | none => if es.toList.any (·.refKey) then none else some none) := by
          unfold PySem.W.nsIn
          rw [hl] <;> rfl
        rcases q3 y with ⟨z1, z2⟩ | ⟨d, v, e', z1, z2, z3, z4⟩
        · exact .inl ⟨z1, by rw [ns, z2, q2]; rfl⟩
        · exact .inr ⟨d, v, e'.val, z1, by rw [ns, z2], z3, z4⟩
      · cases h
    · cases h
end Ev
end
section
set_option Elab.async false
set_option linter.all false
set_option maxRecDepth 100000
/-! Ev31: a program as a table; its world. -/
namespace Ev
open PySem PySem.Spec PyProof.Rows
open L2 (upd upd_same upd_ne Cx VK Inv RelV HOk ObjOk PE PT PA CX0 Room FnOk Binds PS PSs Ends TS FunD FnScope Env0 CE CR XK Vals cxOf start SqL SqT HO Only defArgs defBody defScope Cls NoAttr Meth Mk)

structure Df where
  at_ : Str × Option Str
  name : Str
  qual : Str
  st : Stmt
  ps : List Str
  N : List Str
  ir : Ss
structure Kl where
  nm : Str
  init : Nat
  flds : List Str
  ms : List (Str × Nat)
structure Tab where
  frees : List Str
  txs : List (Str × Str)
  dks : Dks
  cls : List (Nat × Kl)
  defs : List (Nat × Df)
  W : Nat
  lw : Str
def lkN : List (Str × Nat) → Str → Option Nat
  | [], _ => none
  | (a, b) :: r, k => if a = k then some b else lkN r k
def lkA {α : Type} : List (Nat × α) → Nat → Option α
  | [], _ => none
  | (a, b) :: r, k => bif Nat.beq a k then some b else lkA r k
theorem lkA_mem {α : Type} : ∀ {l : List (Nat × α)} {k : Nat} {a : α}, lkA l k = some a → (k, a) ∈ l
  | (j, b) :: r, k, a, h => by
    cases e : Nat.beq j k with
    | true =>
      simp only [lkA, e, cond_true, Option.some.injEq] at h
      rw [h, Nat.eq_of_beq_eq_true e]; exact List.mem_cons_self ..
    | false =>
      simp only [lkA, e, cond_false] at h
      exact List.mem_cons_of_mem _ (lkA_mem h)
def Df.top (d : Df) : Bool := d.at_.2.isNone
def Df.he (d : Df) : He.DefD := ⟨d.at_, d.name, d.qual, defArgs d.st, defBody d.st, defScope d.st, [], []⟩
def Tab.P (t : Tab) : Prg := ⟨fun f => match lkA t.defs f with
  | some d => some ⟨d.ps.length, d.N.length, d.ir⟩
  | none => none, fun c => match lkA t.cls c with
  | some k => some ⟨k.init, k.flds⟩
  | none => none, t.W⟩
def Tab.cons (t : Tab) : List (Str × D) := t.txs.map (fun p => (p.1, D.str p.2)) ++ t.dks.map fun p => (p.1, D.kd (p.2.map fun q => (q.1, D.str q.2)))
def Tab.I (t : Tab) : SI where
  fi := fun f => match lkA t.defs f with
    | some d => some ⟨d.at_.1, d.ps, d.top⟩
    | none => none
  cn := fun c => match lkA t.cls c with
    | some k => some k.nm
    | none => none
  ms := fun c m => match lkA t.cls c with
    | some k => lkN k.ms m
    | none => none
  free := fun x => t.frees.contains x
  con := fun x => lkF t.cons x
  rep := false
def Tab.fa (t : Tab) : List He.Fa := t.frees.map .free ++ (t.txs.map (fun p => .str p.1 p.2) ++ (t.dks.map (fun p => .glo p.1) ++ ((t.defs.filter fun d => d.2.top).map (fun d => .glo d.2.at_.1) ++
  ((t.cls.flatMap fun k => .glo k.2.nm :: .cls k.2.nm :: .mkr k.2.nm :: (k.2.flds.map (.noat k.2.nm) ++ k.2.ms.map fun m => .meth k.2.nm m.1)) ++ [.glo t.lw]))))
/-- the places that a class names are its methods -/
def Tab.pl (t : Tab) (f : Nat) : Str × Option Str := match lkA t.defs f with
  | some d => d.at_
  | none => ("", none)
def Tab.clsB (t : Tab) : Bool := t.cls.all fun k => decide (t.pl k.2.init = (k.2.nm, some ("__init__" : Str))) && (lkA t.defs k.2.init).isSome && k.2.ms.all fun m => decide (t.pl m.2 = (k.2.nm, some m.1))
structure DfOk (t : Tab) (d : Df) : Prop where
  sc : FnScope d.N d.ps (defScope d.st)
  bd : ∀ (kV doc pm : Value) (an : Option Addr) (cdv ct : Value) (us : List Value), us.length = d.ps.length → bindArgs (PySem.W.fnOf d.name d.qual (defArgs d.st) (defBody d.st) (defScope d.st) .none kV doc pm an cdv ct) ⟨us, []⟩ = pure (d.ps.zip us)
  ck : chkSs t.I d.ir d.N (defScope d.st) (defBody d.st) = true
def Tab.Wd (t : Tab) (P : Program) (w : World) (K : PySem.W.Frag) (mg : Str → Option Value) : Wd := ⟨P, w, K, mg, fun c => match lkA t.cls c with
  | some k => He.ga K k.nm
  | none => 0⟩
def Tab.Lk (t : Tab) (K : PySem.W.Frag) (fD : Nat → FuncData) (base : Heap) : Lk := ⟨fun f => He.fAd K (t.pl f), fD, base⟩
def Tab.T (t : Tab) (f : Nat) : FnT := match lkA t.defs f with
  | some d => ⟨d.name, d.qual, defArgs d.st, defBody d.st, defScope d.st, d.N⟩
  | none => ⟨"", "", defArgs (.Pass ⟨0, 0, 0, 0⟩), [], defScope (.Pass ⟨0, 0, 0, 0⟩), []⟩
theorem lkF_mem {α : Type} : ∀ {l : List (Str × D)} {x : Str} {d : D}, lkF l x = some d → (x, d) ∈ l
  | (a, b) :: r, x, d, h => by
    by_cases e : a = x
    · simp [lkF, e] at h; subst h; rw [e]; exact List.mem_cons_self ..
    · simp [lkF, e] at h; exact List.mem_cons_of_mem _ (lkF_mem (α := α) h)
theorem lkN_mem : ∀ {l : List (Str × Nat)} {x : Str} {d : Nat}, lkN l x = some d → (x, d) ∈ l
  | (a, b) :: r, x, d, h => by
    by_cases e : a = x
    · simp [lkN, e] at h; subst h; rw [e]; exact List.mem_cons_self ..
    · simp [lkN, e] at h; exact List.mem_cons_of_mem _ (lkN_mem h)
section
variable {t : Tab} {P : Program} {w : World} {K : PySem.W.Frag} {mg : Str → Option Value} {h : Heap} {more : List He.DefD}
theorem says_fact {fa : List He.Fa} {fn : List He.DefD} (c : He.SaysD fa fn K) {f : He.Fa} (m : f ∈ fa) : f.ok K = true := by
  obtain ⟨i, hi, e⟩ := List.getElem_of_mem m
  exact c.fact i (by rw [List.getElem?_eq_getElem hi, e])
theorem says_defs (c : He.SaysD t.fa (t.defs.map (fun d => d.2.he) ++ more) K) : ∃ fD : Nat → FuncData, ∀ f d, lkA t.defs f = some d → FunD K d.name d.qual (defArgs d.st) (defBody d.st) (defScope d.st) [] [] (He.fAd K d.at_) (fD f) := by
  have key : ∀ f : Nat, ∃ fd : Option FuncData, ∀ d, lkA t.defs f = some d → ∃ g, fd = some g ∧ FunD K d.name d.qual (defArgs d.st) (defBody d.st) (defScope d.st) [] [] (He.fAd K d.at_) g := fun f => by
    cases e : lkA t.defs f with
    | none => exact ⟨none, fun d z => by cases z⟩
    | some d =>
      obtain ⟨i, hi, ei⟩ := List.getElem_of_mem (lkA_mem e)
      obtain ⟨g, hg⟩ := c.def_ i (d := d.he) (by
        rw [List.getElem?_append_left (by simpa using hi), List.getElem?_map, List.getElem?_eq_getElem hi, ei]; rfl)
      exact ⟨some g, fun d' z => by cases z; exact ⟨g, rfl, hg⟩⟩
  obtain ⟨fo, hfo⟩ := Classical.axiomOfChoice key
  by_cases ne : Nonempty FuncData
  · obtain ⟨x0⟩ := ne
    refine ⟨fun f => (fo f).getD x0, fun f d e => ?_⟩
    obtain ⟨g, h1, h2⟩ := hfo f d e
    simp only [h1, Option.getD_some]; exact h2
  · exact absurd ⟨PySem.W.fnOf "" "" (defArgs (.Pass ⟨0, 0, 0, 0⟩)) [] (defScope (.Pass ⟨0, 0, 0, 0⟩)) .none .none .none .none none .none .none⟩ ne
theorem tab_ok (KX : K.In h) (G : h.Ns mainGlobals mg) (c : He.SaysD t.fa (t.defs.map (fun d => d.2.he) ++ more) K) (ck : (t.dks.map fun d => obsK K d.1) = valK t.dks w) (hc : t.clsB = true) (hd : ∀ d ∈ t.defs, DfOk t d.2)
    {fD : Nat → FuncData} (hf : ∀ f d, lkA t.defs f = some d → FunD K d.name d.qual (defArgs d.st) (defBody d.st) (defScope d.st) [] [] (He.fAd K d.at_) (fD f)) (base : Heap) :
    SIok (t.Wd P w K mg) t.P t.I (t.Lk K fD base) ∧ FOk (t.Wd P w K mg) t.P t.I (t.Lk K fD base) t.T := by
  have fi : ∀ f i, t.I.fi f = some i → ∃ d, lkA t.defs f = some d ∧ i = ⟨d.at_.1, d.ps, d.top⟩ := fun f i e => by
    have e : (match lkA t.defs f with | some d => some (FS.mk d.at_.1 d.ps d.top) | none => none) = some i := e
    split at e
    · rename_i d hd; cases e; exact ⟨d, hd, rfl⟩
    · cases e
  have at_ : ∀ f d, lkA t.defs f = some d → (t.Lk K fD base).fA f = He.fAd K d.at_ := fun f d e => by
    show He.fAd K (t.pl f) = _
    unfold Tab.pl; rw [e]
  have cl : ∀ k ∈ t.cls, ∀ f ∈ (He.Fa.glo k.2.nm :: .cls k.2.nm :: .mkr k.2.nm :: (k.2.flds.map (.noat k.2.nm) ++ k.2.ms.map fun m => .meth k.2.nm m.1)), f.ok K = true := fun k hk f hf =>
    says_fact c (by
      unfold Tab.fa
      simp only [List.mem_append]
      exact .inr (.inr (.inr (.inr (.inl (List.mem_flatMap.mpr ⟨k, hk, hf⟩))))))
  have cAt : ∀ c k, lkA t.cls c = some k → (t.Wd P w K mg).cA c = He.ga K k.nm := fun c k e => by
    show (match lkA t.cls c with | some k => He.ga K k.nm | none => 0) = _
    rw [e]
  have clsP : ∀ c k, t.P.cls c = some k → ∃ q, lkA t.cls c = some q ∧ k = ⟨q.init, q.flds⟩ := fun c k e => by
    have e : (match lkA t.cls c with | some k => some (Cl.mk k.init k.flds) | none => none) = some k := e
    split at e
    · rename_i q hq; cases e; exact ⟨q, hq, rfl⟩
    · cases e
  have clsC : ∀ q ∈ t.cls, Cls K (He.ga K q.2.nm) := fun q hq => He.cls_ok (cl _ hq _ (List.mem_cons_of_mem _ (List.mem_cons_self ..)))
  have hB := List.all_eq_true.mp hc
  refine ⟨⟨fun f i e => ?_, fun f i e ht => ?_, fun c k e => ?_, fun c x e => ?_, fun c m f e => ?_, fun x e => ?_, fun x d e => ?_⟩, ⟨fun f i e => ?_, fun f i e => ?_, fun f i k e ek => ?_⟩⟩
  · obtain ⟨d, e1, rfl⟩ := fi f i e
    have F := hf f d e1
    rw [at_ f d e1]
    exact ⟨F.kp, F.bindsN (hd _ (lkA_mem e1)).bd⟩
  · obtain ⟨d, e1, rfl⟩ := fi f i e
    rw [at_ f d e1]
    have ht : d.at_.2.isNone = true := ht
    have m : He.Fa.glo d.at_.1 ∈ t.fa := by
      unfold Tab.fa
      simp only [List.mem_append]
      exact .inr (.inr (.inr (.inl (List.mem_map.mpr ⟨_, List.mem_filter.mpr ⟨lkA_mem e1, ht⟩, rfl⟩))))
    have r := He.glo_ok KX G (says_fact c m)
    have : He.fAd K d.at_ = He.ga K d.at_.1 := by
      unfold He.fAd
      cases q : d.at_.2 with
      | none => rfl
      | some _ => rw [q] at ht; cases ht
    rw [this]; exact r
  · obtain ⟨q, e1, rfl⟩ := clsP c k e
    have hq := lkA_mem e1
    rw [cAt c q e1]
    exact ⟨clsC _ hq, fun g hg => He.noat_ok (cl _ hq _ (List.mem_cons_of_mem _ (List.mem_cons_of_mem _ (List.mem_cons_of_mem _ (List.mem_append_left _ (List.mem_map.mpr ⟨g, hg, rfl⟩))))))⟩
  · have e : (match lkA t.cls c with | some k => some k.nm | none => none) = some x := e
    split at e
    · rename_i q e1
      cases e
      have hq := lkA_mem e1
      have b := hB _ hq
      simp only [Bool.and_eq_true, decide_eq_true_eq] at b
      obtain ⟨⟨b1, b2⟩, b3⟩ := b
      obtain ⟨d, ed⟩ : ∃ d, lkA t.defs q.init = some d := Option.isSome_iff_exists.mp b2
      refine ⟨⟨q.init, q.flds⟩, ⟨d.at_.1, d.ps, d.top⟩, ?_, ?_, ?_, ?_⟩
      · show (match lkA t.cls c with | some k => some (Cl.mk k.init k.flds) | none => none) = _
        rw [e1]
      · show (match lkA t.defs q.init with | some d => some (FS.mk d.at_.1 d.ps d.top) | none => none) = _
        rw [ed]
      · rw [cAt c q e1]
        exact He.glo_ok KX G (cl _ hq _ (List.mem_cons_self ..))
      · rw [cAt c q e1]
        show Mk K _ (He.fAd K (t.pl q.init))
        rw [b1]
        exact He.mkr_ok (cl _ hq _ (List.mem_cons_of_mem _ (List.mem_cons_of_mem _ (List.mem_cons_self ..))))
    · cases e
  · have e : (match lkA t.cls c with | some k => lkN k.ms m | none => none) = some f := e
    split at e
    · rename_i q e1
      have hq := lkA_mem e1
      have b := hB _ hq
      simp only [Bool.and_eq_true, decide_eq_true_eq] at b
      have b3 := List.all_eq_true.mp b.2 (m, f) (lkN_mem e)
      have b3 := of_decide_eq_true b3
      rw [cAt c q e1]
      refine ⟨clsC _ hq, ?_⟩
      show Meth K _ m (He.fAd K (t.pl f))
      rw [b3]
      exact He.meth_ok (cl _ hq _ (List.mem_cons_of_mem _ (List.mem_cons_of_mem _ (List.mem_cons_of_mem _ (List.mem_append_right _ (List.mem_map.mpr ⟨(m, f), lkN_mem e, rfl⟩))))))
    · cases e
  · have e : t.frees.contains x = true := e
    exact He.free_ok KX G (says_fact c (by
      unfold Tab.fa
      simp only [List.mem_append]
      exact .inl (List.mem_map.mpr ⟨x, by simpa using e, rfl⟩)))
  · have m := lkF_mem (α := Unit) (show lkF t.cons x = some d from e)
    rcases List.mem_append.mp m with m | m
    · obtain ⟨p, hp, e⟩ := List.mem_map.mp m
      cases e
      obtain ⟨u, hu⟩ := He.str_ok KX G (says_fact c (by
        unfold Tab.fa
        simp only [List.mem_append]
        exact .inr (.inl (List.mem_map.mpr ⟨p, hp, rfl⟩))))
      exact ⟨.str p.2, .str p.2 u, hu, ⟨u, rfl⟩, fun _ _ _ => .str _⟩
    · obtain ⟨p, hp, e⟩ := List.mem_map.mp m
      cases e
      have g := He.glo_ok KX G (says_fact c (by
        unfold Tab.fa
        simp only [List.mem_append]
        exact .inr (.inr (.inl (List.mem_map.mpr ⟨p, hp, rfl⟩)))))
      refine ⟨.ref (He.ga K p.1), .ref (He.ga K p.1), g, rfl, fun _ _ _ => .kd ?_⟩
      refine kds_ok (W := t.Wd P w K mg) ?_
      obtain ⟨i, hi, ei⟩ := List.getElem_of_mem hp
      have z := congrArg (fun l => l[i]?) ck
      simp only [valK, List.getElem?_map, List.getElem?_eq_getElem hi, Option.map_some, ei] at z
      exact Option.some.inj z
  · obtain ⟨d, e1, rfl⟩ := fi f i e
    have F := hf f d e1
    rw [at_ f d e1]
    unfold Tab.T
    rw [e1]
    exact F
  · obtain ⟨d, e1, rfl⟩ := fi f i e
    unfold Tab.T
    rw [e1]
    exact (hd _ (lkA_mem e1)).sc
  · obtain ⟨d, e1, rfl⟩ := fi f i e
    have ek : (match lkA t.defs f with | some d => some (Fn.mk d.ps.length d.N.length d.ir) | none => none) = some k := ek
    rw [e1] at ek
    cases ek
    unfold Tab.T
    rw [e1]
    exact ⟨(hd _ (lkA_mem e1)).ck, rfl, rfl⟩
end
end Ev
end
section
set_option Elab.async false
set_option linter.all false
set_option maxRecDepth 100000
/-! Ev32: a law over its table. -/
namespace Ev
open PySem PySem.Spec PyProof.Rows
open L2 (Cx VK Inv RelV CX0 Room FunD FnScope HO Only defArgs defBody defScope SqL)

/-- the law by evaluation -/
def Tab.law (t : Tab) (b : Ss) (n d : Nat) : List D → Mm → Option (D × Mm) := fun vs h => match evSs t.P (call t.P d) (calls t.P d).2 b (vs.map some ++ noneL n) h with
  | some (.nx, _, h') => some (.non, h')
  | some (.rt r, _, h') => some (r, h')
  | _ => none
theorem law_walk {l : PySem.W.OpenLaw} {n dp nn : Nat} {q : Program} {loose : List Str} {XP : (Str → Option Value) → Heap → Prop} {d : DefRec} {x : Str} (t : Tab) (dl : Df) (hn : l.most = some n) (hn2 : n ≤ sizeLine) (hdf : d.params.defaults = []) (hr : Room (dp + 2) callerA)
    (hc : t.clsB = true) (hd : ∀ d ∈ t.defs, DfOk t d.2) (hps : dl.ps = [x]) (hat : dl.at_ = (t.lw, none)) (hnm : d.name = t.lw) (sc : FnScope dl.N dl.ps (defScope dl.st)) (ck : chkSs { t.I with rep := true } dl.ir dl.N (defScope dl.st) (defBody dl.st) = true)
    (bd : ∀ (kV doc pm : Value) (an : Option Addr) (cdv ct : Value) (us : List Value), us.length = dl.ps.length → bindArgs (PySem.W.fnOf dl.name dl.qual (defArgs dl.st) (defBody dl.st) (defScope dl.st) .none kV doc pm an cdv ct) ⟨us, []⟩ = pure (dl.ps.zip us))
    (hev : ∀ ns : List Int, ns.length ≤ n → ∃ h', t.law dl.ir (dl.N.length - 1) dp [scr ns] .nil = some (.bl true, h')) :
    PySem.W.WalkO q loose XP (hookX nn t.fa (t.defs.map (fun d => d.2.he) ++ [dl.he]) t.dks).says l.row.toRowW d [] (fun f vs => PySem.call f vs) := by
  refine walk_G (x := x) hn hn2 hdf hr fun w mg fa h Y G hmg => ?_
  obtain ⟨K, KX, c, ckd⟩ := Y
  obtain ⟨fD, hf⟩ := says_defs (more := [dl.he]) c
  obtain ⟨fd, F⟩ := c.def_ t.defs.length (d := dl.he) (by rw [List.getElem?_append_right (by simp)]; simp)
  have F : FunD K dl.name dl.qual (defArgs dl.st) (defBody dl.st) (defScope dl.st) [] [] (He.fAd K dl.at_) fd := F
  have gl : mg t.lw = some (.ref (He.ga K t.lw)) := He.glo_ok KX G (says_fact c (by
    unfold Tab.fa
    simp only [List.mem_append]
    exact .inr (.inr (.inr (.inr (.inr (List.mem_singleton.mpr rfl)))))))
  rw [hnm, gl] at hmg
  have ef : He.ga K t.lw = fa := by cases hmg; rfl
  have ea : He.fAd K dl.at_ = fa := by rw [hat]; exact ef
  rw [ea] at F
  have one : dl.ps.length = 1 := by rw [hps]; rfl
  refine ⟨K, fd, spC (t.Wd l.prog w K mg) 1 (t.law dl.ir (dl.N.length - 1) dp), KX, fun s u => ?_, fun H a ns hl hO hS => ?_, fun base hb hns => ?_⟩
  · have := FunD.bindsA (ps := dl.ps) F bd s [u] (by rw [one]; rfl)
    rw [hps] at this
    exact this
  · obtain ⟨h', e⟩ := hev ns hl
    exact scr_sp hO hS e
  · obtain ⟨ok, fok⟩ := tab_ok (P := l.prog) KX G c ckd hc hd hf base
    have r := law_fok (t := ⟨dl.name, dl.qual, defArgs dl.st, defBody dl.st, defScope dl.st, dl.N⟩) (ps := dl.ps) (b := dl.ir) rfl ok fok F sc ck dp
    rw [one] at r
    rw [← hps]
    exact r
end Ev
end
section
set_option Elab.async false
set_option linter.all false
set_option maxRecDepth 100000
/-! SyB: bodies of shared defs (printed by gen_bodies.py). -/
namespace Sy
open PySem (Str)
open Ev
open Ev (E Es Ks C Cs T Ts S Ss)
abbrev r_ROLES : List (Str × Str) := [("del", "delete"), ("global", "global"), ("nonlocal", "nonlocal")]
abbrev d_ROLES : D := .kd (r_ROLES.map fun p => (p.1, D.str p.2))
/-- Scan.__init__ -/
def B1 : Ss := (.cons (.asg (.fld (.var 0) "blocks") (.lst false .nil))
    (.cons (.asg (.fld (.var 0) "kinds") (.dic false true .nil))
    (.cons (.asg (.fld (.var 0) "inner") (.dic false true .nil))
    (.cons (.asg (.fld (.var 0) "mentions") (.lst false .nil))
    (.cons (.asg (.fld (.var 0) "seats") (.lst false .nil))
    (.cons (.asg (.fld (.var 0) "targets") (.dic false true .nil))
    (.cons (.asg (.fld (.var 0) "walruses") (.lst false .nil))
    (.cons (.asg (.fld (.var 0) "holes") (.lst false .nil))
    (.cons (.exp (.meth .sh 1 2 "begin" (.var 0) (.cons (.tup .nil) (.cons (.glo "MODULE" (.str "module")) .nil))))
    (.cons (.exp (.meth .sh 1 6 "read_rows" (.var 0) (.cons (.var 1) (.cons (.tup .nil) .nil))))
    .nil))))))))))
/-- Scan.begin -/
def B2 : Ss := (.cons (.exp (.bm .append (.fld (.var 0) "blocks") (.cons (.tup (.cons (.var 1) (.cons (.var 2) .nil))) .nil)))
    (.cons (.asg (.sub (.fld (.var 0) "kinds") (.var 1)) (.var 2))
    (.cons (.asg (.sub (.fld (.var 0) "inner") (.var 1)) (.int 0))
    (.cons (.ret (.var 1))
    .nil))))
/-- Scan.begin_in -/
def B3 : Ss := (.cons (.asg (.var 3) (.idx (.fld (.var 0) "inner") (.var 1)))
    (.cons (.augS (.fld (.var 0) "inner") (.var 1) .add (.int 1))
    (.cons (.ret (.meth .sh 1 2 "begin" (.var 0) (.cons (.bin .add true (.var 1) (.tup (.cons (.var 3) .nil))) (.cons (.var 2) .nil))))
    .nil)))
/-- Scan.seat_of -/
def B4 : Ss := (.cons (.whl (.of (.cmp .eq (.idx (.fld (.var 0) "kinds") (.var 1)) (.glo "LIST" (.str "list")))) (.cons (.asg (.var 1) (.sl true (.var 1) .nil (.cons (.neg (.int 1)) .nil)))
    .nil))
    (.cons (.ret (.var 1))
    .nil))
/-- Scan.mention -/
def B5 : Ss := (.cons (.exp (.bm .append (.fld (.var 0) "mentions") (.cons (.tup (.cons (.var 1) (.cons (.var 2) (.cons (.var 3) .nil)))) .nil)))
    (.cons (.exp (.bm .append (.fld (.var 0) "seats") (.cons (.var 1) .nil)))
    .nil))
/-- Scan.read_rows -/
def B6 : Ss := (.cons (.for_ (.var 3) (.of (.var 1)) (.cons (.exp (.meth .sh 1 7 "read_row" (.var 0) (.cons (.var 3) (.cons (.var 2) .nil))))
    .nil))
    .nil)
/-- Scan.read_row -/
def B7 : Ss := (.cons (.asg (.var 3) (.idx (.var 1) (.int 0)))
    (.cons (.iff (.of (.cmp .eq (.var 3) (.str "hole"))) (.cons (.exp (.bm .append (.fld (.var 0) "holes") (.cons (.var 2) .nil)))
    .nil) (.cons (.iff (.of (.cmp .inn (.var 3) (.tup (.cons (.str "do") (.cons (.str "return") .nil))))) (.cons (.exp (.meth .sh 1 9 "read_expr" (.var 0) (.cons (.idx (.var 1) (.int 1)) (.cons (.var 2) (.cons (.bl false) .nil)))))
    .nil) (.cons (.exp (.meth .sh 1 5 "mention" (.var 0) (.cons (.var 2) (.cons (.idx (.var 1) (.int 1)) (.cons (.bm .get2 (.glo "ROLES" d_ROLES) (.cons (.var 3) (.cons (.glo "WRITE" (.str "write")) .nil))) .nil)))))
    (.cons (.iff (.of (.cmp .eq (.var 3) (.str "set"))) (.cons (.exp (.meth .sh 1 9 "read_expr" (.var 0) (.cons (.idx (.var 1) (.int 2)) (.cons (.var 2) (.cons (.bl false) .nil)))))
    .nil) (.cons (.iff (.of (.cmp .eq (.var 3) (.str "def"))) (.cons (.asg (.var 4) (.meth .sh 1 3 "begin_in" (.var 0) (.cons (.var 2) (.cons (.glo "FUNCTION" (.str "function")) .nil))))
    (.cons (.exp (.meth .sh 1 8 "read_parameters" (.var 0) (.cons (.idx (.var 1) (.int 2)) (.cons (.var 4) .nil))))
    (.cons (.exp (.meth .sh 1 6 "read_rows" (.var 0) (.cons (.idx (.var 1) (.int 3)) (.cons (.var 4) .nil))))
    .nil))) (.cons (.iff (.of (.cmp .eq (.var 3) (.str "class"))) (.cons (.exp (.meth .sh 1 6 "read_rows" (.var 0) (.cons (.idx (.var 1) (.int 2)) (.cons (.meth .sh 1 3 "begin_in" (.var 0) (.cons (.var 2) (.cons (.glo "CLASS" (.str "class")) .nil))) .nil))))
    .nil) .nil)
    .nil))
    .nil))
    .nil)))
    .nil))
    .nil))
/-- Scan.read_parameters -/
def B8 : Ss := (.cons (.for_ (.var 3) (.of (.var 1)) (.cons (.exp (.meth .sh 1 5 "mention" (.var 0) (.cons (.var 2) (.cons (.var 3) (.cons (.glo "PARAMETER" (.str "parameter")) .nil)))))
    .nil))
    .nil)
/-- Scan.read_expr -/
def B9 : Ss := (.cons (.iff (.not (.of (.isi (.var 1) .tuple))) (.cons .retN
    .nil) .nil)
    (.cons (.asg (.var 4) (.idx (.var 1) (.int 0)))
    (.cons (.iff (.of (.cmp .eq (.var 4) (.str "name"))) (.cons (.exp (.meth .sh 1 5 "mention" (.var 0) (.cons (.var 2) (.cons (.idx (.var 1) (.int 1)) (.cons (.glo "READ" (.str "read")) .nil)))))
    .nil) (.cons (.iff (.of (.cmp .eq (.var 4) (.str "call"))) (.cons (.for_ (.var 5) (.of (.bin .add true (.tup (.cons (.idx (.var 1) (.int 1)) .nil)) (.idx (.var 1) (.int 2)))) (.cons (.exp (.meth .sh 1 9 "read_expr" (.var 0) (.cons (.var 5) (.cons (.var 2) (.cons (.var 3) .nil)))))
    .nil))
    .nil) (.cons (.iff (.of (.cmp .eq (.var 4) (.str "lambda"))) (.cons (.asg (.var 6) (.meth .sh 1 3 "begin_in" (.var 0) (.cons (.var 2) (.cons (.glo "LAMBDA" (.str "lambda")) .nil))))
    (.cons (.exp (.meth .sh 1 8 "read_parameters" (.var 0) (.cons (.idx (.var 1) (.int 1)) (.cons (.var 6) .nil))))
    (.cons (.exp (.meth .sh 1 9 "read_expr" (.var 0) (.cons (.idx (.var 1) (.int 2)) (.cons (.var 6) (.cons (.var 3) .nil)))))
    .nil))) (.cons (.iff (.of (.cmp .eq (.var 4) (.str "walrus"))) (.cons (.exp (.bm .append (.fld (.var 0) "walruses") (.cons (.tup (.cons (.blt .len true (.cons (.fld (.var 0) "mentions") .nil)) (.cons (.var 3) .nil))) .nil)))
    (.cons (.exp (.meth .sh 1 5 "mention" (.var 0) (.cons (.var 2) (.cons (.idx (.var 1) (.int 1)) (.cons (.glo "WRITE" (.str "write")) .nil)))))
    (.cons (.asg (.sub (.fld (.var 0) "seats") (.neg (.int 1))) (.meth .sh 1 4 "seat_of" (.var 0) (.cons (.var 2) .nil)))
    (.cons (.exp (.meth .sh 1 9 "read_expr" (.var 0) (.cons (.idx (.var 1) (.int 2)) (.cons (.var 2) (.cons (.var 3) .nil)))))
    .nil)))) (.cons (.exp (.meth .sh 1 10 "read_list" (.var 0) (.cons (.idx (.var 1) (.int 1)) (.cons (.idx (.var 1) (.int 2)) (.cons (.var 2) (.cons (.var 3) .nil))))))
    .nil))
    .nil))
    .nil))
    .nil))
    .nil)))
/-- Scan.read_list -/
def B10 : Ss := (.cons (.asg (.var 5) (.meth .sh 1 3 "begin_in" (.var 0) (.cons (.var 3) (.cons (.glo "LIST" (.str "list")) .nil))))
    (.cons (.asg (.sub (.fld (.var 0) "targets") (.var 5)) (.comp true [7, 8] (.var 7) (.tup (.cons (.var 7) (.cons (.var 8) .nil))) (.of (.var 2)) .nil))
    (.cons (.exp (.meth .sh 1 9 "read_expr" (.var 0) (.cons (.var 1) (.cons (.var 5) (.cons (.var 4) .nil)))))
    (.cons (.asg (.var 6) (.var 3))
    (.cons (.for_ (.tup (.cons (.var 7) (.cons (.var 8) .nil))) (.of (.var 2)) (.cons (.exp (.meth .sh 1 5 "mention" (.var 0) (.cons (.var 5) (.cons (.var 7) (.cons (.glo "WRITE" (.str "write")) .nil)))))
    (.cons (.exp (.meth .sh 1 9 "read_expr" (.var 0) (.cons (.var 8) (.cons (.var 6) (.cons (.bl true) .nil)))))
    (.cons (.asg (.var 6) (.var 5))
    .nil))))
    .nil)))))
/-- mentions -/
def B12 : Ss := (.cons (.ret (.fld (.make .sh 1 (.cons (.var 0) .nil)) "mentions"))
    .nil)
/-- _law_bag -/
def B200 : Ss := (.cons (.asg (.var 2) (.tup (.cons (.int 2147483647) (.cons (.int 2147483629) (.cons (.int 2147483587) (.cons (.int 2147483579) (.cons (.int 2147483563) (.cons (.int 2147483549) (.cons (.int 2147483543) .nil)))))))))
    (.cons (.asg (.var 3) (.ite (.of (.cmp .lt (.var 1) (.blt .len true (.cons (.var 0) .nil)))) (.idx (.var 0) (.var 1)) (.int 0)))
    (.cons (.asg (.var 4) (.ite (.of (.cmp .ge (.blt .abs true (.cons (.var 3) .nil)) (.bin .pow true (.int 10) (.int 18)))) (.blt .abs true (.cons (.var 3) .nil)) (.int 0)))
    (.cons (.asg (.var 5) (.bin .mod true (.bin .pow true (.bin .add true (.bin .add true (.bin .mod true (.var 3) (.int 2305843009213693951)) (.bin .mul true (.int 40961) (.var 1))) (.int 19)) (.int 3)) (.idx (.var 2) (.bin .mod true (.var 1) (.int 7)))))
    (.cons (.ret (.lst false (.cons (.var 4) (.cons (.bin .add true (.bin .mod true (.bin .mul true (.var 5) (.bin .add true (.bin .add true (.bin .fdiv true (.var 5) (.int 5)) (.bin .mul true (.int 3) (.var 1))) (.int 11))) (.idx (.var 2) (.bin .mod true (.bin .add true (.var 1) (.int 2)) (.int 7)))) (.int 1)) .nil))))
    .nil)))))
/-- _law_take -/
def B201 : Ss := (.cons (.iff (.of (.cmp .gt (.idx (.var 0) (.int 0)) (.int 0))) (.cons (.asg (.var 2) (.bin .mod true (.idx (.var 0) (.int 0)) (.var 1)))
    (.cons (.asg (.sub (.var 0) (.int 0)) (.bin .fdiv true (.idx (.var 0) (.int 0)) (.var 1)))
    (.cons (.ret (.var 2))
    .nil))) .nil)
    (.cons (.asg (.sub (.var 0) (.int 1)) (.bin .mod true (.bin .mul true (.idx (.var 0) (.int 1)) (.int 48271)) (.int 2147483647)))
    (.cons (.ret (.bin .mod true (.bin .fdiv true (.bin .mod true (.bin .mul true (.idx (.var 0) (.int 1)) (.int 69621)) (.int 2147483629)) (.bin .pow true (.int 16) (.int 2))) (.var 1)))
    .nil)))
/-- _law_scan -/
def B202 : Ss := (.cons (.asg (.var 1) (.dic false false (.cons (.str "kinds") (.dic false true (.cons (.tup .nil) (.str "module") .nil)) (.cons (.str "mentions") (.lst false .nil) (.cons (.str "targets") (.dic false true .nil) (.cons (.str "counts") (.dic false true (.cons (.tup .nil) (.int 0) .nil)) (.cons (.str "order") (.lst false (.cons (.tup .nil) .nil)) .nil)))))))
    (.cons (.exp (.call .sh 204 (.cons (.var 0) (.cons (.tup .nil) (.cons (.var 1) .nil)))))
    (.cons (.ret (.var 1))
    .nil)))
/-- _law_block -/
def B203 : Ss := (.cons (.asg (.var 3) (.bin .add true (.var 1) (.tup (.cons (.idx (.idx (.var 0) (.str "counts")) (.var 1)) .nil))))
    (.cons (.asg (.sub (.idx (.var 0) (.str "counts")) (.var 1)) (.bin .add true (.idx (.idx (.var 0) (.str "counts")) (.var 1)) (.int 1)))
    (.cons (.asg (.sub (.idx (.var 0) (.str "counts")) (.var 3)) (.int 0))
    (.cons (.asg (.sub (.idx (.var 0) (.str "kinds")) (.var 3)) (.var 2))
    (.cons (.exp (.bm .append (.idx (.var 0) (.str "order")) (.cons (.var 3) .nil)))
    (.cons (.ret (.var 3))
    .nil))))))
/-- _law_scan_rows -/
def B204 : Ss := (.cons (.asg (.var 3) (.dic true false (.cons (.str "del") (.str "delete") (.cons (.str "global") (.str "global") (.cons (.str "nonlocal") (.str "nonlocal") .nil)))))
    (.cons (.for_ (.var 4) (.of (.var 0)) (.cons (.iff (.of (.cmp .nin (.idx (.var 4) (.int 0)) (.tup (.cons (.str "do") (.cons (.str "return") (.cons (.str "hole") .nil)))))) (.cons (.exp (.bm .append (.idx (.var 2) (.str "mentions")) (.cons (.tup (.cons (.var 1) (.cons (.idx (.var 4) (.int 1)) (.cons (.bm .get2 (.var 3) (.cons (.idx (.var 4) (.int 0)) (.cons (.str "write") .nil))) (.cons (.var 1) (.cons .non .nil)))))) .nil)))
    .nil) .nil)
    (.cons (.iff (.of (.cmp .inn (.idx (.var 4) (.int 0)) (.tup (.cons (.str "set") (.cons (.str "do") (.cons (.str "return") .nil)))))) (.cons (.exp (.call .sh 205 (.cons (.idx (.var 4) (.neg (.int 1))) (.cons (.var 1) (.cons (.var 2) (.cons (.bl false) .nil))))))
    .nil) (.cons (.iff (.of (.cmp .eq (.idx (.var 4) (.int 0)) (.str "def"))) (.cons (.asg (.var 5) (.call .sh 203 (.cons (.var 2) (.cons (.var 1) (.cons (.str "function") .nil)))))
    (.cons (.exp (.bm .extend (.idx (.var 2) (.str "mentions")) (.cons (.comp true [6] (.tup (.cons (.var 5) (.cons (.var 6) (.cons (.str "parameter") (.cons (.var 5) (.cons .non .nil)))))) (.var 6) (.of (.idx (.var 4) (.int 2))) .nil) .nil)))
    (.cons (.exp (.call .sh 204 (.cons (.idx (.var 4) (.int 3)) (.cons (.var 5) (.cons (.var 2) .nil)))))
    .nil))) (.cons (.iff (.of (.cmp .eq (.idx (.var 4) (.int 0)) (.str "class"))) (.cons (.exp (.call .sh 204 (.cons (.idx (.var 4) (.int 2)) (.cons (.call .sh 203 (.cons (.var 2) (.cons (.var 1) (.cons (.str "class") .nil)))) (.cons (.var 2) .nil)))))
    .nil) .nil)
    .nil))
    .nil))
    .nil)))
    .nil))
/-- _law_scan_expr -/
def B205 : Ss := (.cons (.iff (.of (.isi (.var 0) .int)) (.cons .retN
    .nil) .nil)
    (.cons (.iff (.of (.cmp .eq (.idx (.var 0) (.int 0)) (.str "name"))) (.cons (.exp (.bm .append (.idx (.var 2) (.str "mentions")) (.cons (.tup (.cons (.var 1) (.cons (.idx (.var 0) (.int 1)) (.cons (.str "read") (.cons (.var 1) (.cons .non .nil)))))) .nil)))
    .nil) (.cons (.iff (.of (.cmp .eq (.idx (.var 0) (.int 0)) (.str "call"))) (.cons (.for_ (.var 4) (.of (.bin .add true (.tup (.cons (.idx (.var 0) (.int 1)) .nil)) (.idx (.var 0) (.int 2)))) (.cons (.exp (.call .sh 205 (.cons (.var 4) (.cons (.var 1) (.cons (.var 2) (.cons (.var 3) .nil))))))
    .nil))
    .nil) (.cons (.iff (.of (.cmp .eq (.idx (.var 0) (.int 0)) (.str "lambda"))) (.cons (.asg (.var 5) (.call .sh 203 (.cons (.var 2) (.cons (.var 1) (.cons (.str "lambda") .nil)))))
    (.cons (.exp (.bm .extend (.idx (.var 2) (.str "mentions")) (.cons (.comp true [9] (.tup (.cons (.var 5) (.cons (.var 9) (.cons (.str "parameter") (.cons (.var 5) (.cons .non .nil)))))) (.var 9) (.of (.idx (.var 0) (.int 1))) .nil) .nil)))
    (.cons (.exp (.call .sh 205 (.cons (.idx (.var 0) (.int 2)) (.cons (.var 5) (.cons (.var 2) (.cons (.var 3) .nil))))))
    .nil))) (.cons (.iff (.of (.cmp .eq (.idx (.var 0) (.int 0)) (.str "walrus"))) (.cons (.asg (.var 6) (.var 1))
    (.cons (.whl (.of (.cmp .eq (.idx (.idx (.var 2) (.str "kinds")) (.var 6)) (.str "list"))) (.cons (.asg (.var 6) (.sl true (.var 6) .nil (.cons (.neg (.int 1)) .nil)))
    .nil))
    (.cons (.exp (.bm .append (.idx (.var 2) (.str "mentions")) (.cons (.tup (.cons (.var 1) (.cons (.idx (.var 0) (.int 1)) (.cons (.str "write") (.cons (.var 6) (.cons (.var 3) .nil)))))) .nil)))
    (.cons (.exp (.call .sh 205 (.cons (.idx (.var 0) (.int 2)) (.cons (.var 1) (.cons (.var 2) (.cons (.var 3) .nil))))))
    .nil)))) (.cons (.asg (.var 5) (.call .sh 203 (.cons (.var 2) (.cons (.var 1) (.cons (.str "list") .nil)))))
    (.cons (.asg (.sub (.idx (.var 2) (.str "targets")) (.var 5)) (.comp true [8] (.idx (.var 8) (.int 0)) (.var 8) (.of (.idx (.var 0) (.int 2))) .nil))
    (.cons (.exp (.call .sh 205 (.cons (.idx (.var 0) (.int 1)) (.cons (.var 5) (.cons (.var 2) (.cons (.var 3) .nil))))))
    (.cons (.for_ (.tup (.cons (.var 7) (.cons (.var 8) .nil))) (.enm (.idx (.var 0) (.int 2))) (.cons (.exp (.bm .append (.idx (.var 2) (.str "mentions")) (.cons (.tup (.cons (.var 5) (.cons (.idx (.var 8) (.int 0)) (.cons (.str "write") (.cons (.var 5) (.cons .non .nil)))))) .nil)))
    (.cons (.exp (.call .sh 205 (.cons (.idx (.var 8) (.int 1)) (.cons (.ite (.of (.cmp .gt (.var 7) (.int 0))) (.var 5) (.var 1)) (.cons (.var 2) (.cons (.bl true) .nil))))))
    .nil)))
    .nil)))))
    .nil))
    .nil))
    .nil))
    .nil))
/-- _law_rows_in -/
def B206 : Ss := (.cons (.asg (.var 1) (.comp true [2] (.call .iso 206 (.cons (.idx (.var 2) (.neg (.int 1))) .nil)) (.var 2) (.of (.var 0)) (.cons (.of (.cmp .inn (.idx (.var 2) (.int 0)) (.tup (.cons (.str "def") (.cons (.str "class") .nil))))) .nil)))
    (.cons (.ret (.bin .add true (.blt .len true (.cons (.var 0) .nil)) (.blt .sumL true (.cons (.var 1) .nil))))
    .nil))
/-- _law_small -/
def B207 : Ss := (.cons (.whl (.of (.cmp .ne (.var 0) (.tup .nil))) (.cons (.asg (.var 1) (.call .iso 202 (.cons (.var 0) .nil)))
    (.cons (.iff (.and (.cons (.of (.cmp .le (.blt .len true (.cons (.idx (.var 1) (.str "mentions")) .nil)) (.int 70))) (.cons (.of (.cmp .le (.blt .len true (.cons (.idx (.var 1) (.str "order")) .nil)) (.int 20))) (.cons (.of (.cmp .le (.call .iso 206 (.cons (.var 0) .nil)) (.int 80))) .nil)))) (.cons (.ret (.var 0))
    .nil) .nil)
    (.cons (.asg (.var 0) (.sl true (.var 0) .nil (.cons (.neg (.int 1)) .nil)))
    .nil))))
    (.cons (.ret (.var 0))
    .nil))
/-- _law_name -/
def B208 : Ss := (.cons (.ret (.idx (.str "abcd") (.call .sh 201 (.cons (.var 0) (.cons (.int 4) .nil)))))
    .nil)
/-- _law_wild_expr -/
def B209 : Ss := (.cons (.asg (.var 2) (.ite (.of (.cmp .gt (.var 1) (.int 0))) (.call .sh 201 (.cons (.var 0) (.cons (.int 8) .nil))) (.call .sh 201 (.cons (.var 0) (.cons (.int 4) .nil)))))
    (.cons (.iff (.of (.cmp .eq (.var 2) (.int 0))) (.cons (.ret (.call .sh 201 (.cons (.var 0) (.cons (.int 9) .nil))))
    .nil) .nil)
    (.cons (.iff (.of (.cmp .lt (.var 2) (.int 4))) (.cons (.ret (.tup (.cons (.str "name") (.cons (.call .sh 208 (.cons (.var 0) .nil)) .nil))))
    .nil) .nil)
    (.cons (.iff (.of (.cmp .eq (.var 2) (.int 4))) (.cons (.ret (.tup (.cons (.str "call") (.cons (.call .sh 209 (.cons (.var 0) (.cons (.bin .sub true (.var 1) (.int 1)) .nil))) (.cons (.blt .tupleOf true (.cons (.bin .mul true (.lst true (.cons (.call .sh 209 (.cons (.var 0) (.cons (.int 0) .nil))) .nil)) (.call .sh 201 (.cons (.var 0) (.cons (.int 3) .nil)))) .nil)) .nil)))))
    .nil) .nil)
    (.cons (.iff (.of (.cmp .eq (.var 2) (.int 5))) (.cons (.asg (.var 5) (.blt .tupleOf true (.cons (.comp true [4] (.call .sh 208 (.cons (.var 0) .nil)) (.var 4) (.rng (.cons (.call .sh 201 (.cons (.var 0) (.cons (.int 3) .nil))) .nil)) .nil) .nil)))
    (.cons (.ret (.tup (.cons (.str "lambda") (.cons (.var 5) (.cons (.call .sh 209 (.cons (.var 0) (.cons (.bin .sub true (.var 1) (.int 1)) .nil))) .nil)))))
    .nil)) .nil)
    (.cons (.iff (.of (.cmp .eq (.var 2) (.int 6))) (.cons (.ret (.tup (.cons (.str "walrus") (.cons (.call .sh 208 (.cons (.var 0) .nil)) (.cons (.call .sh 209 (.cons (.var 0) (.cons (.bin .sub true (.var 1) (.int 1)) .nil))) .nil)))))
    .nil) .nil)
    (.cons (.asg (.var 3) (.lst false .nil))
    (.cons (.for_ (.var 4) (.rng (.cons (.bin .add true (.int 1) (.call .sh 201 (.cons (.var 0) (.cons (.int 2) .nil)))) .nil)) (.cons (.exp (.bm .append (.var 3) (.cons (.tup (.cons (.call .sh 208 (.cons (.var 0) .nil)) (.cons (.call .sh 209 (.cons (.var 0) (.cons (.bin .sub true (.var 1) (.int 1)) .nil))) .nil))) .nil)))
    .nil))
    (.cons (.ret (.tup (.cons (.str "list") (.cons (.call .sh 209 (.cons (.var 0) (.cons (.bin .sub true (.var 1) (.int 1)) .nil))) (.cons (.blt .tupleOf true (.cons (.var 3) .nil)) .nil)))))
    .nil)))))))))
/-- _law_wild_row -/
def B210 : Ss := (.cons (.asg (.var 3) (.call .sh 201 (.cons (.var 0) (.cons (.int 12) .nil))))
    (.cons (.asg (.var 4) (.call .sh 208 (.cons (.var 0) .nil)))
    (.cons (.iff (.of (.cmp .lt (.var 3) (.int 2))) (.cons (.ret (.tup (.cons (.str "set") (.cons (.var 4) (.cons (.call .sh 209 (.cons (.var 0) (.cons (.int 2) .nil))) .nil)))))
    .nil) .nil)
    (.cons (.iff (.of (.cmp .lt (.var 3) (.int 6))) (.cons (.ret (.idx (.lst true (.cons (.tup (.cons (.str "del") (.cons (.var 4) .nil))) (.cons (.tup (.cons (.str "global") (.cons (.var 4) .nil))) (.cons (.tup (.cons (.str "nonlocal") (.cons (.var 4) .nil))) (.cons (.tup (.cons (.str "hole") .nil)) .nil))))) (.bin .sub true (.var 3) (.int 2))))
    .nil) .nil)
    (.cons (.iff (.and (.cons (.of (.cmp .lt (.var 3) (.int 9))) (.cons (.of (.cmp .gt (.var 1) (.int 0))) .nil))) (.cons (.asg (.var 5) (.blt .tupleOf true (.cons (.comp true [6] (.call .sh 208 (.cons (.var 0) .nil)) (.var 6) (.rng (.cons (.call .sh 201 (.cons (.var 0) (.cons (.int 3) .nil))) .nil)) .nil) .nil)))
    (.cons (.ret (.tup (.cons (.str "def") (.cons (.var 4) (.cons (.var 5) (.cons (.call .sh 211 (.cons (.var 0) (.cons (.bin .sub true (.var 1) (.int 1)) (.cons (.bl true) .nil)))) .nil))))))
    .nil)) .nil)
    (.cons (.iff (.and (.cons (.of (.cmp .eq (.var 3) (.int 9))) (.cons (.of (.cmp .gt (.var 1) (.int 0))) .nil))) (.cons (.ret (.tup (.cons (.str "class") (.cons (.var 4) (.cons (.call .sh 211 (.cons (.var 0) (.cons (.bin .sub true (.var 1) (.int 1)) (.cons (.bl false) .nil)))) .nil)))))
    .nil) .nil)
    (.cons (.ret (.tup (.cons (.ite (.and (.cons (.of (.var 2)) (.cons (.of (.cmp .eq (.var 3) (.int 10))) .nil))) (.str "return") (.str "do")) (.cons (.call .sh 209 (.cons (.var 0) (.cons (.int 2) .nil))) .nil))))
    .nil)))))))
/-- _law_wild_rows -/
def B211 : Ss := (.cons (.ret (.blt .tupleOf true (.cons (.comp true [3] (.call .sh 210 (.cons (.var 0) (.cons (.var 1) (.cons (.var 2) .nil)))) (.var 3) (.rng (.cons (.call .sh 201 (.cons (.var 0) (.cons (.int 4) .nil))) .nil)) .nil) .nil)))
    .nil)
/-- _law_wild -/
def B212 : Ss := (.cons (.ret (.call .iso 207 (.cons (.bin .add true (.call .sh 211 (.cons (.var 0) (.cons (.var 1) (.cons (.bl false) .nil)))) (.call .sh 211 (.cons (.var 0) (.cons (.var 1) (.cons (.bl false) .nil))))) .nil)))
    .nil)
/-- blocks -/
def B11 : Ss := (.cons (.ret (.fld (.make .sh 1 (.cons (.var 0) .nil)) "blocks"))
    .nil)
end Sy
end
section
set_option Elab.async false
set_option linter.all false
set_option maxRecDepth 100000
set_option maxHeartbeats 1000000
/-! Sy0: calls by their bodies; paths; dicts by paths. -/
namespace Sy
open PySem (Str)
open Ev

theorem call_s (P : Prg) (d f : Nat) (vs : List D) (h : Mm) : call P (d + 1) f vs h = step P (call P d) (calls P d).2 f vs h := rfl
theorem calls2 (P : Prg) (d : Nat) : (calls P (d + 1)).2 = call P d := rfl
theorem call_f {P : Prg} {d f : Nat} {k : Fn} (hf : P.fns f = some k) (vs : List D) (h : Mm) : call P (d + 1) f vs h = if vs.length = k.np then (match evSs P (call P d) (calls P d).2 k.body (vs.map some ++ noneL (k.ns - k.np)) h with
      | some (.nx, _, h') => some (.non, h')
      | some (.rt r, _, h') => some (r, h')
      | _ => none) else none := by
  rw [call_s]
  simp only [step, hf]
  try rfl
theorem t1k : Nat.ble 1 1000 = true := rfl
theorem tb0 : Nat.ble 0 most = true := rfl
theorem tb1 : Nat.ble 1 most = true := rfl
theorem tb2 : Nat.ble 2 most = true := rfl
theorem tb3 : Nat.ble 3 most = true := rfl
theorem tb4 : Nat.ble 4 most = true := rfl
theorem tb5 : Nat.ble 5 most = true := rfl
theorem tb6 : Nat.ble 6 most = true := rfl
theorem tb7 : Nat.ble 7 most = true := rfl
theorem ble_m {n : Nat} (h : n ≤ 1000000) : Nat.ble n most = true := Nat.ble_eq_true_of_le (Nat.le_trans h (Nat.le_of_ble_eq_true rfl))

theorem str_inj (a b : String) : (Str.ofString a = Str.ofString b) = (a = b) := by
  apply propext
  refine ⟨fun h => ?_, fun h => by rw [h]⟩
  rw [Str.ofString_eq_toList, Str.ofString_eq_toList] at h
  have h1 : (a.toList.map Char.toNat).toArray = (b.toList.map Char.toNat).toArray := congrArg Str.cps h
  have h2 : a.toList.map Char.toNat = b.toList.map Char.toNat := by simpa using congrArg Array.toList h1
  have h3 : ∀ l m : List Char, l.map Char.toNat = m.map Char.toNat → l = m := by
    intro l
    induction l with
    | nil => intro m e; cases m with
      | nil => rfl
      | cons c m => cases e
    | cons c l ih => intro m e; cases m with
      | nil => cases e
      | cons d m =>
        simp only [List.map_cons, List.cons.injEq] at e
        rw [Char.toNat_inj.mp e.1, ih m e.2]
  exact String.toList_inj.mp (h3 _ _ h2)
/-! paths -/
abbrev Path := List Nat
def cnt : List (Path × Nat) → Path → Nat
  | [], _ => 0
  | (p, n) :: r, q => if p = q then n else cnt r q
def inc : List (Path × Nat) → Path → List (Path × Nat)
  | [], _ => []
  | (p, n) :: r, q => if p = q then (p, n + 1) :: r else (p, n) :: inc r q
/-- a path as data -/
def pD (p : Path) : D := .tup (p.map fun i : Nat => .int (i : Int))
theorem pL_eq : ∀ p q : Path, eqL (p.map fun i : Nat => D.int (i : Int)) (q.map fun i : Nat => D.int (i : Int)) = decide (p = q)
  | [], [] => rfl
  | [], _ :: _ => by simp [eqL]
  | _ :: _, [] => by simp [eqL]
  | a :: p, b :: q => by
    simp only [List.map_cons, eqL, eqD, pL_eq p q]
    by_cases h : a = b
    · subst h; simp
    · have : ¬ ((a : Int) = b) := by omega
      simp [h, this]
theorem pD_eq (p q : Path) : eqD (pD p) (pD q) = decide (p = q) := by
  unfold pD
  simp only [eqD, pL_eq]
/-! dicts by paths -/
def lkP {α : Type} : List (Path × α) → Path → Option α
  | [], _ => none
  | (p, a) :: r, q => if p = q then some a else lkP r q
def setP {α : Type} : List (Path × α) → Path → α → List (Path × α)
  | [], _, _ => []
  | (p, b) :: r, q, a => (p, if p = q then a else b) :: setP r q a
def kv {α : Type} (enc : α → D) (l : List (Path × α)) : List (D × D) := l.map fun x => (pD x.1, enc x.2)
theorem lk_kv {α : Type} (enc : α → D) (p : Path) : ∀ l : List (Path × α), lkD (kv enc l) (pD p) = (lkP l p).map enc
  | [] => rfl
  | (q, a) :: r => by
    simp only [kv, List.map_cons, lkD, pD_eq, lkP]
    by_cases h : q = p
    · simp [h]
    · simp only [h, decide_false, cond_false, if_false]
      exact lk_kv enc p r
theorem rep_kv {α : Type} (enc : α → D) (p : Path) (a : α) : ∀ l : List (Path × α), repD (kv enc l) (pD p) (enc a) = kv enc (setP l p a)
  | [] => rfl
  | (q, b) :: r => by
    have ih := rep_kv enc p a r
    simp only [kv] at ih
    simp only [kv, List.map_cons, repD, pD_eq, setP, ih]
    by_cases h : q = p
    · simp [h]
    · simp [h]
theorem put_old {α : Type} (enc : α → D) {p : Path} {a b : α} {l : List (Path × α)} (h : lkP l p = some b) : putD (kv enc l) (pD p) (enc a) = kv enc (setP l p a) := by
  unfold putD
  rw [lk_kv, h]
  exact rep_kv enc p a l
theorem put_new {α : Type} (enc : α → D) {p : Path} {a : α} {l : List (Path × α)} (h : lkP l p = none) : putD (kv enc l) (pD p) (enc a) = kv enc (l ++ [(p, a)]) := by
  unfold putD
  rw [lk_kv, h]
  simp [kv]
theorem kvl {α : Type} (enc : α → D) (l : List (Path × α)) : (kv enc l).length = l.length := by simp [kv]
theorem kva {α : Type} (enc : α → D) (l m : List (Path × α)) : kv enc l ++ kv enc m = kv enc (l ++ m) := by simp [kv]
theorem pD_app (p : Path) (i : Nat) : pD (p ++ [i]) = .tup ((p.map fun i : Nat => D.int (i : Int)) ++ [.int (i : Int)]) := by simp [pD]
theorem keyL_p : ∀ p : Path, keyL (p.map fun i : Nat => D.int (i : Int)) = true
  | [] => rfl
  | _ :: p => by simp [keyL, keyD, keyL_p p]
theorem kdep_p : ∀ p : Path, kdepL (p.map fun i : Nat => D.int (i : Int)) = 0
  | [] => rfl
  | _ :: p => by simp [kdepL, kdep, kdep_p p]
theorem key_p (p : Path) : keyOk true (pD p) = true := by
  simp [pD, keyOk, keyL_p, kdep_p]
theorem inc_set (p : Path) : ∀ l : List (Path × Nat), (l.map Prod.fst).Nodup → p ∈ l.map Prod.fst → setP l p (cnt l p + 1) = inc l p
  | [], _, h => by simp at h
  | (q, n) :: r, nd, h => by
    simp only [List.map_cons, List.nodup_cons] at nd
    by_cases e : q = p
    · subst e
      have : ∀ (l : List (Path × Nat)) (x : Nat), q ∉ l.map Prod.fst → setP l q x = l := by
        intro l x hl
        induction l with
        | nil => rfl
        | cons a t ih =>
          simp only [List.map_cons, List.mem_cons, not_or] at hl
          have : ¬ a.1 = q := fun e => hl.1 e.symm
          simp [setP, this, ih hl.2]
      simp [setP, cnt, inc, this r _ nd.1]
    · have h' : p ∈ r.map Prod.fst := by
        simp only [List.map_cons, List.mem_cons] at h
        rcases h with h | h
        · exact absurd h.symm e
        · exact h
      simp [setP, cnt, inc, e, inc_set p r nd.2 h']
theorem inc_keys (p : Path) : ∀ l : List (Path × Nat), (inc l p).map Prod.fst = l.map Prod.fst
  | [] => rfl
  | (q, n) :: r => by
    by_cases h : q = p
    · simp [inc, h]
    · simp [inc, h, inc_keys p r]
theorem inc_len (p : Path) (l : List (Path × Nat)) : (inc l p).length = l.length := by
  have := congrArg List.length (inc_keys p l); simpa using this
theorem cnt_app (q r : Path) : ∀ l : List (Path × Nat), cnt (l ++ [(q, 0)]) r = cnt l r
  | [] => by simp [cnt]
  | (a, n) :: t => by
    by_cases h : a = r
    · simp [cnt, h]
    · simp [cnt, h, cnt_app q r t]
theorem cnt_inc (p : Path) : ∀ l : List (Path × Nat), p ∈ l.map Prod.fst → cnt (inc l p) p = cnt l p + 1
  | [], h => by simp at h
  | (a, n) :: t, h => by
    by_cases e : a = p
    · simp [inc, cnt, e]
    · have h' : p ∈ t.map Prod.fst := by
        simp only [List.map_cons, List.mem_cons] at h
        rcases h with h | h
        · exact absurd h.symm e
        · exact h
      simp [inc, cnt, e, cnt_inc p t h']
theorem cnt_inc_le (p r : Path) : ∀ l : List (Path × Nat), cnt l r ≤ cnt (inc l p) r
  | [] => Nat.le_refl _
  | (a, n) :: t => by
    have ih := cnt_inc_le p r t
    by_cases e : a = p
    · by_cases e' : a = r
      · simp [inc, cnt, e]
        by_cases f : p = r <;> simp [f]
      · subst e
        simp [inc, cnt, e']
    · by_cases e' : a = r
      · subst e'
        simp [inc, cnt, e]
      · simp [inc, cnt, e, e', ih]
theorem lk_none {α : Type} (p : Path) : ∀ l : List (Path × α), p ∉ l.map Prod.fst → lkP l p = none
  | [], _ => rfl
  | (q, a) :: r, h => by
    simp only [List.map_cons, List.mem_cons, not_or] at h
    have : ¬ q = p := fun e => h.1 e.symm
    simp [lkP, this, lk_none p r h.2]
theorem lk_some {α : Type} (p : Path) : ∀ l : List (Path × α), p ∈ l.map Prod.fst → ∃ a, lkP l p = some a
  | [], h => by simp at h
  | (q, a) :: r, h => by
    by_cases e : q = p
    · exact ⟨a, by simp [lkP, e]⟩
    · have h' : p ∈ r.map Prod.fst := by
        simp only [List.map_cons, List.mem_cons] at h
        rcases h with h | h
        · exact absurd h.symm e
        · exact h
      obtain ⟨b, hb⟩ := lk_some p r h'
      exact ⟨b, by simp [lkP, e, hb]⟩
theorem lk_cnt (p : Path) : ∀ l : List (Path × Nat), p ∈ l.map Prod.fst → lkP l p = some (cnt l p)
  | [], h => by simp at h
  | (q, n) :: r, h => by
    by_cases e : q = p
    · simp [lkP, cnt, e]
    · have h' : p ∈ r.map Prod.fst := by
        simp only [List.map_cons, List.mem_cons] at h
        rcases h with h | h
        · exact absurd h.symm e
        · exact h
      simp [lkP, cnt, e, lk_cnt p r h']
theorem lk_app {α : Type} {q : Path} {b : α} : ∀ {l : List (Path × α)} (r : List (Path × α)), lkP l q = some b → lkP (l ++ r) q = some b
  | [], _, h => by simp [lkP] at h
  | (p, a) :: t, r, h => by
    by_cases e : p = q
    · simp [lkP, e] at h ⊢; exact h
    · simp [lkP, e] at h ⊢; exact lk_app r h
theorem lk_self {α : Type} : ∀ (l : List (Path × α)), (l.map Prod.fst).Nodup → ∀ x ∈ l, lkP l x.1 = some x.2
  | [], _, x, h => by simp at h
  | (p, a) :: t, nd, x, h => by
    simp only [List.map_cons, List.nodup_cons] at nd
    simp only [List.mem_cons] at h
    rcases h with h | h
    · subst h; simp [lkP]
    · have : ¬ p = x.1 := by
        intro e
        apply nd.1
        rw [e]
        exact List.mem_map_of_mem h
      simp [lkP, this, lk_self t nd.2 x h]

theorem stay0 (h : Mm) : stay h none = true := rfl
theorem cmp_some {st : Mm → Bool} {turn : D → Mm → Option (Option D × Mm)} {x y : D} {r ys : List D} {h h1 h2 : Mm} (hs : st h = true) (e : turn x h = some (some y, h1)) (i : cmpL st turn r h1 = some (ys, h2)) : cmpL st turn (x :: r) h = some (y :: ys, h2) := by
  simp only [cmpL, hs, cond_true, e, i]
theorem cmp_none {st : Mm → Bool} {turn : D → Mm → Option (Option D × Mm)} {x : D} {r ys : List D} {h h1 h2 : Mm} (hs : st h = true) (e : turn x h = some (none, h1)) (i : cmpL st turn r h1 = some (ys, h2)) : cmpL st turn (x :: r) h = some (ys, h2) := by
  simp only [cmpL, hs, cond_true, e, i]
theorem for_cons {st : Mm → Bool} {turn : D → Ev.Env → Mm → Option (Fl × Ev.Env × Mm)} {x : D} {r : List D} {env env1 : Ev.Env} {h h1 : Mm} (hs : st h = true) (e : turn x env h = some (.nx, env1, h1)) : forL st turn (x :: r) env h = forL st turn r env1 h1 := by
  rw [forL, hs, cond_true, e]
theorem for_consC {st : Mm → Bool} {turn : D → Ev.Env → Mm → Option (Fl × Ev.Env × Mm)} {x : D} {r : List D} {env env1 : Ev.Env} {h h1 : Mm} (hs : st h = true) (e : turn x env h = some (.ct, env1, h1)) : forL st turn (x :: r) env h = forL st turn r env1 h1 := by
  rw [forL, hs, cond_true, e]
theorem for_nil {st : Mm → Bool} {turn : D → Ev.Env → Mm → Option (Fl × Ev.Env × Mm)} {env : Ev.Env} {h : Mm} (hs : st h = true) : forL st turn [] env h = some (.nx, env, h) := by
  rw [forL, hs, cond_true]
/-! ### the evaluator's equations one by one -/
open Ev (E Es Ks C Cs T Ts S Ss)
section
variable {P : Prg} {c1 c2 : Fs} {env : Ev.Env} {h : Mm}
theorem e_var {i : Nat} : evE P c1 c2 (.var i) env h = (match getE env i with
    | some d => some (d, h)
    | none => none) := rfl
theorem e_non : evE P c1 c2 .non env h = some (.non, h) := rfl
theorem e_bl {b : Bool} : evE P c1 c2 (.bl b) env h = some (.bl b, h) := rfl
theorem e_int {i : Int} : evE P c1 c2 (.int i) env h = some (.int i, h) := rfl
theorem e_str {x : Str} : evE P c1 c2 (.str x) env h = some (.str x, h) := rfl
theorem e_glo {x : Str} {d : D} : evE P c1 c2 (.glo x d) env h = some (d, h) := rfl
theorem e_bin {o : Op} {z : Bool} {a b : E} : evE P c1 c2 (.bin o z a b) env h = (match evE P c1 c2 a env h with
    | some (x, h1) => (match evE P c1 c2 b env h1 with
      | some (y, h2) => binD o z x y h2
      | none => none)
    | none => none) := rfl
theorem e_neg {a : E} : evE P c1 c2 (.neg a) env h = (match evE P c1 c2 a env h with
    | some (.int i, h1) => some (.int (-i), h1)
    | _ => none) := rfl
theorem e_cmp {o : Cm} {a b : E} : evE P c1 c2 (.cmp o a b) env h = (match evE P c1 c2 a env h with
    | some (x, h1) => (match evE P c1 c2 b env h1 with
      | some (y, h2) => (match cmpD o x y h2 with
        | some k => some (.bl k, h2)
        | none => none)
      | none => none)
    | none => none) := rfl
theorem e_and {es : Es} : evE P c1 c2 (.and es) env h = evAnd P c1 c2 es env h := rfl
theorem e_or {es : Es} : evE P c1 c2 (.or es) env h = evOr P c1 c2 es env h := rfl
theorem e_ite {c : C} {a b : E} : evE P c1 c2 (.ite c a b) env h = (match evT P c1 c2 c env h with
    | some (true, h1) => evE P c1 c2 a env h1
    | some (false, h1) => evE P c1 c2 b env h1
    | none => none) := rfl
theorem e_tup {es : Es} : evE P c1 c2 (.tup es) env h = (match evEs P c1 c2 es env h with
    | some (xs, h1) => bif Nat.ble xs.length most then some (.tup xs, h1) else none
    | none => none) := rfl
theorem e_lst {z : Bool} {es : Es} : evE P c1 c2 (.lst z es) env h = (match evEs P c1 c2 es env h with
    | some (xs, h1) => bif Nat.ble xs.length most then some (mkO z (.lst xs) h1) else none
    | none => none) := rfl
theorem e_dic {z t : Bool} {ks : Ks} : evE P c1 c2 (.dic z t ks) env h = (match evKV P c1 c2 ks env h with
    | some (ps, h1) => (match mkD t [] ps with
      | some kvs => some (mkO z (.dic t kvs) h1)
      | none => none)
    | none => none) := rfl
theorem e_idx {o i : E} : evE P c1 c2 (.idx o i) env h = (match evE P c1 c2 o env h with
    | some (x, h1) => (match evE P c1 c2 i env h1 with
      | some (y, h2) => (match idxD x y h2 with
        | some d => some (d, h2)
        | none => none)
      | none => none)
    | none => none) := rfl
theorem e_sl {z : Bool} {o : E} {lo hi : Es} : evE P c1 c2 (.sl z o lo hi) env h = (match evE P c1 c2 o env h with
    | some (x, h1) => (match evP P c1 c2 lo env h1 with
      | some (l, h2) => (match evP P c1 c2 hi env h2 with
        | some (u, h3) => slD z x l u h3
        | none => none)
      | none => none)
    | none => none) := rfl
theorem e_call {m : Md} {f : Nat} {es : Es} : evE P c1 c2 (.call m f es) env h = (match evEs P c1 c2 es env h with
    | some (vs, h1) => runM m (c1 f) vs h1
    | none => none) := rfl
theorem e_blt {b : Bt} {z : Bool} {es : Es} : evE P c1 c2 (.blt b z es) env h = (match evEs P c1 c2 es env h with
    | some (vs, h1) => bltD b z vs h1
    | none => none) := rfl
theorem e_bm {b : Bm} {o : E} {es : Es} : evE P c1 c2 (.bm b o es) env h = (match evE P c1 c2 o env h with
    | some (x, h1) => bif bmTy b x h1 then (match evEs P c1 c2 es env h1 with
      | some (vs, h2) => bmD b x vs h2
      | none => none) else none
    | none => none) := rfl
theorem e_isi {e : E} {t : Ty} : evE P c1 c2 (.isi e t) env h = (match evE P c1 c2 e env h with
    | some (x, h1) => (match isiD t x h1 with
      | some k => some (.bl k, h1)
      | none => none)
    | none => none) := rfl
theorem e_fld {o : E} {f : Str} : evE P c1 c2 (.fld o f) env h = (match evE P c1 c2 o env h with
    | some (x, h1) => (match insOf h1 x with
      | some (c, fs) => (match P.cls c with
        | some k => bif k.flds.contains f then (match lkF fs f with
          | some d => some (d, h1)
          | none => none) else none
        | none => none)
      | none => none)
    | none => none) := rfl
theorem s_asg {g : T} {e : E} : evS P c1 c2 (.asg g e) env h = (match evE P c1 c2 e env h with
    | some (d, h1) => (match asg P c1 c2 g d env h1 with
      | some (env1, h2) => some (.nx, env1, h2)
      | none => none)
    | none => none) := rfl
theorem s_par {i j : Nat} {a b : E} : evS P c1 c2 (.par i j a b) env h = (match evE P c1 c2 a env h with
    | some (x, h1) => (match evE P c1 c2 b env h1 with
      | some (y, h2) => some (.nx, setE (setE env i x) j y, h2)
      | none => none)
    | none => none) := rfl
theorem s_aug {i : Nat} {o : Op} {e : E} : evS P c1 c2 (.aug i o e) env h = (match getE env i with
    | some x => (match evE P c1 c2 e env h with
      | some (y, h1) => (match x, y, binD o false x y h1 with
        | .int _, .int _, some (r, h2) => some (.nx, setE env i r, h2)
        | _, _, _ => none)
      | none => none)
    | none => none) := rfl
theorem s_augS {o i e : E} {p : Op} : evS P c1 c2 (.augS o i p e) env h = (match evE P c1 c2 o env h with
    | some (x, h1) => (match evE P c1 c2 i env h1 with
      | some (y, h2) => (match (bif (dictOf h2 x).isSome then idxD x y h2 else none) with
        | some v => (match evE P c1 c2 e env h2 with
          | some (u, h3) => (match v, u, binD p false v u h3 with
            | .int _, .int _, some (r, h4) => (match setD x y r h4 with
              | some h5 => some (.nx, env, h5)
              | none => none)
            | _, _, _ => none)
          | none => none)
        | none => none)
      | none => none)
    | none => none) := rfl
theorem s_exp {e : E} : evS P c1 c2 (.exp e) env h = (match evE P c1 c2 e env h with
    | some (_, h1) => some (.nx, env, h1)
    | none => none) := rfl
theorem s_ret {e : E} : evS P c1 c2 (.ret e) env h = (match evE P c1 c2 e env h with
    | some (d, h1) => some (.rt d, env, h1)
    | none => none) := rfl
theorem s_retN : evS P c1 c2 .retN env h = some (.rt .non, env, h) := rfl
theorem s_iff {c : C} {a b : Ss} : evS P c1 c2 (.iff c a b) env h = (match evT P c1 c2 c env h with
    | some (true, h1) => evSs P c1 c2 a env h1
    | some (false, h1) => evSs P c1 c2 b env h1
    | none => none) := rfl
theorem s_whl {c : C} {b : Ss} : evS P c1 c2 (.whl c b) env h = whlL (evT P c1 c2 c) (evSs P c1 c2 b) P.W env h := rfl
theorem s_pass : evS P c1 c2 .pass env h = some (.nx, env, h) := rfl
theorem s_brk : evS P c1 c2 .brk env h = some (.bk, env, h) := rfl
theorem s_cnt : evS P c1 c2 .cnt env h = some (.ct, env, h) := rfl
abbrev turnG (g : D → Ev.Env → Mm → Option (Ev.Env × Mm)) (fb : Ev.Env → Mm → Option (Fl × Ev.Env × Mm)) : D → Ev.Env → Mm → Option (Fl × Ev.Env × Mm) := fun x env h => match g x env h with
  | some (env2, h2) => fb env2 h2
  | none => none
theorem s_for {g : T} {it : It} {b : Ss} : evS P c1 c2 (.for_ g it b) env h = (match evI P c1 c2 it env h with
    | some (xs, w, h1) => forL (fun h => stay h w) (turnG (asg P c1 c2 g) (evSs P c1 c2 b)) xs env h1
    | none => none) := rfl
abbrev turnL (g : D → Ev.Env → Mm → Option (Ev.Env × Mm)) (fc : Ev.Env → Mm → Option (Bool × Mm)) (fe : Ev.Env → Mm → Option (D × Mm)) (env : Ev.Env) : D → Mm → Option (Option D × Mm) := fun x h => match g x env h with
  | some (env2, h2) => (match fc env2 h2 with
    | some (true, h3) => (match fe env2 h3 with
      | some (y, h4) => some (some y, h4)
      | none => none)
    | some (false, h3) => some (none, h3)
    | none => none)
  | none => none
theorem e_comp {z : Bool} {own : List Nat} {e : E} {g : T} {it : It} {cs : Cs} : evE P c1 c2 (.comp z own e g it cs) env h = (match evI P c1 c2 it env h with
    | some (xs, w, h1) => (match cmpL (fun h => stay h w) (turnL (asg P c1 c2 g) (evAll P c1 c2 cs) (evE P c1 c2 e) (wipeE env own)) xs h1 with
      | some (ys, h2) => bif Nat.ble xs.length most then some (mkO z (.lst ys) h2) else none
      | none => none)
    | none => none) := rfl
theorem i_of {e : E} : evI P c1 c2 (.of e) env h = (match evE P c1 c2 e env h with
    | some (d, h1) => (match walkOf h1 d with
      | some (xs, w) => some (xs, w, h1)
      | none => none)
    | none => none) := rfl
theorem i_rng {es : Es} : evI P c1 c2 (.rng es) env h = (match evEs P c1 c2 es env h with
    | some (vs, h1) => (match rngD vs with
      | some xs => some (xs, none, h1)
      | none => none)
    | none => none) := rfl
theorem i_enm {e : E} : evI P c1 c2 (.enm e) env h = (match evE P c1 c2 e env h with
    | some (d, h1) => (match walkOf h1 d with
      | some (xs, w) => some (enmL 0 xs, w, h1)
      | none => none)
    | none => none) := rfl
theorem e_make {m : Md} {c : Nat} {es : Es} : evE P c1 c2 (.make m c es) env h = (match evEs P c1 c2 es env h with
    | some (vs, h1) => runM m (fun vs h => match P.cls c with
      | some k => (match c2 k.init (.ref h.nx :: vs) (h.new (.ins c [])).2 with
        | some (.non, h2) => some (.ref h.nx, h2)
        | _ => none)
      | none => none) vs h1
    | none => none) := rfl
end
end Sy
end
section
set_option Elab.async false
set_option linter.all false
set_option maxRecDepth 100000
set_option maxHeartbeats 1000000
/-! Sy1: programs as trees; the scan as a function. -/
namespace Sy
open PySem (Str)
open Ev

mutual
inductive Ex | num (i : Int) | nam (x : Str) | cal (f : Ex) (as : Exs) | lam (ns : List Str) (e : Ex) | wal (x : Str) (e : Ex) | lst (e : Ex) (cs : Cl)
inductive Exs | nil | cons (e : Ex) (r : Exs)
inductive Cl | nil | cons (x : Str) (e : Ex) (r : Cl)
end
mutual
inductive Rw | set (x : Str) (e : Ex) | del (x : Str) | glb (x : Str) | nln (x : Str) | hole | dfn (x : Str) (ns : List Str) (b : Rws) | kls (x : Str) (b : Rws) | ret (e : Ex) | doo (e : Ex)
inductive Rws | nil | cons (r : Rw) (s : Rws)
end
def nms (l : List Str) : List D := l.map .str
mutual
def Ex.d : Ex → D
  | .num i => .int i
  | .nam x => .tup [.str "name", .str x]
  | .cal f as => .tup [.str "call", f.d, .tup as.l]
  | .lam ns e => .tup [.str "lambda", .tup (nms ns), e.d]
  | .wal x e => .tup [.str "walrus", .str x, e.d]
  | .lst e cs => .tup [.str "list", e.d, .tup cs.l]
def Exs.l : Exs → List D
  | .nil => []
  | .cons e r => e.d :: r.l
def Cl.l : Cl → List D
  | .nil => []
  | .cons x e r => .tup [.str x, e.d] :: r.l
end
mutual
def Rw.d : Rw → D
  | .set x e => .tup [.str "set", .str x, e.d]
  | .del x => .tup [.str "del", .str x]
  | .glb x => .tup [.str "global", .str x]
  | .nln x => .tup [.str "nonlocal", .str x]
  | .hole => .tup [.str "hole"]
  | .dfn x ns b => .tup [.str "def", .str x, .tup (nms ns), .tup b.l]
  | .kls x b => .tup [.str "class", .str x, .tup b.l]
  | .ret e => .tup [.str "return", e.d]
  | .doo e => .tup [.str "do", e.d]
def Rws.l : Rws → List D
  | .nil => []
  | .cons r s => r.d :: s.l
end
def Cl.names : Cl → List Str
  | .nil => []
  | .cons x _ r => x :: r.names
/-! sizes: blocks, mentions, targets, holes; depths -/
mutual
def Ex.z : Ex → Nat
  | .num _ => 1
  | .nam _ => 1
  | .cal f as => 1 + f.z + as.z
  | .lam ns e => 1 + ns.length + e.z
  | .wal _ e => 1 + e.z
  | .lst e cs => 2 + e.z + cs.z
def Exs.z : Exs → Nat
  | .nil => 0
  | .cons e r => e.z + r.z
def Cl.z : Cl → Nat
  | .nil => 0
  | .cons _ e r => 1 + e.z + r.z
end
mutual
def Rw.z : Rw → Nat
  | .set _ e => 1 + e.z
  | .dfn _ ns b => 2 + ns.length + b.z
  | .kls _ b => 2 + b.z
  | .ret e => e.z
  | .doo e => e.z
  | _ => 1
def Rws.z : Rws → Nat
  | .nil => 0
  | .cons r s => r.z + s.z
end
mutual
def Ex.dp : Ex → Nat
  | .num _ => 1
  | .nam _ => 1
  | .cal f as => 1 + max f.dp as.dp
  | .lam _ e => 1 + e.dp
  | .wal _ e => 1 + e.dp
  | .lst e cs => 2 + max e.dp cs.dp
def Exs.dp : Exs → Nat
  | .nil => 0
  | .cons e r => max e.dp r.dp
def Cl.dp : Cl → Nat
  | .nil => 0
  | .cons _ e r => max e.dp r.dp
end
mutual
def Rw.dp : Rw → Nat
  | .set _ e => 1 + e.dp
  | .dfn _ _ b => 1 + b.dp
  | .kls _ b => 1 + b.dp
  | .ret e => 1 + e.dp
  | .doo e => 1 + e.dp
  | _ => 1
def Rws.dp : Rws → Nat
  | .nil => 1
  | .cons r s => max (1 + r.dp) s.dp
end
/-! the scan -/
/-- a mention: block, name, role, seat; of a walrus: whether in a source -/
structure Mn where
  p : Path
  n : Str
  r : Str
  s : Path
  w : Option Bool
structure Sc where
  bs : List (Path × Str)
  cn : List (Path × Nat)
  ms : List Mn
  tg : List (Path × List Str)
  hl : List Path
def Sc.new (s : Sc) (p : Path) (k : Str) : Path × Sc := (p ++ [cnt s.cn p], { s with bs := s.bs ++ [(p ++ [cnt s.cn p], k)], cn := inc s.cn p ++ [(p ++ [cnt s.cn p], 0)] })
def Sc.men (s : Sc) (m : Mn) : Sc := { s with ms := s.ms ++ [m] }
def Sc.par (s : Sc) (p : Path) (ns : List Str) : Sc := { s with ms := s.ms ++ ns.map fun x => ⟨p, x, "parameter", p, none⟩ }
def Sc.tgt (s : Sc) (p : Path) (ns : List Str) : Sc := { s with tg := s.tg ++ [(p, ns)] }
def Sc.hole (s : Sc) (p : Path) : Sc := { s with hl := s.hl ++ [p] }
def seatN (bs : List (Path × Str)) : Nat → Path → Path
  | 0, p => p
  | n + 1, p => if lkP bs p = some ("list" : Str) then seatN bs n p.dropLast else p
def Sc.seat (s : Sc) (p : Path) : Path := seatN s.bs p.length p
mutual
def Ex.sc : Ex → Bool → Path → Sc → Sc
  | .num _, _, _, s => s
  | .nam x, _, p, s => s.men ⟨p, x, "read", p, none⟩
  | .cal f as, b, p, s => as.sc b p (f.sc b p s)
  | .lam ns e, b, p, s => e.sc b (s.new p "lambda").1 ((s.new p "lambda").2.par (s.new p "lambda").1 ns)
  | .wal x e, b, p, s => e.sc b p (s.men ⟨p, x, "write", s.seat p, some b⟩)
  | .lst e cs, b, p, s => cs.sc p (s.new p "list").1 (e.sc b (s.new p "list").1 ((s.new p "list").2.tgt (s.new p "list").1 cs.names))
def Exs.sc : Exs → Bool → Path → Sc → Sc
  | .nil, _, _, s => s
  | .cons e r, b, p, s => r.sc b p (e.sc b p s)
def Cl.sc : Cl → Path → Path → Sc → Sc
  | .nil, _, _, s => s
  | .cons x e r, p, q, s => r.sc q q (e.sc true p (s.men ⟨q, x, "write", q, none⟩))
end
mutual
def Rw.sc : Rw → Path → Sc → Sc
  | .set x e, p, s => e.sc false p (s.men ⟨p, x, "write", p, none⟩)
  | .del x, p, s => s.men ⟨p, x, "delete", p, none⟩
  | .glb x, p, s => s.men ⟨p, x, "global", p, none⟩
  | .nln x, p, s => s.men ⟨p, x, "nonlocal", p, none⟩
  | .hole, p, s => s.hole p
  | .dfn x ns b, p, s => b.sc ((s.men ⟨p, x, "write", p, none⟩).new p "function").1 (((s.men ⟨p, x, "write", p, none⟩).new p "function").2.par ((s.men ⟨p, x, "write", p, none⟩).new p "function").1 ns)
  | .kls x b, p, s => b.sc ((s.men ⟨p, x, "write", p, none⟩).new p "class").1 ((s.men ⟨p, x, "write", p, none⟩).new p "class").2
  | .ret e, p, s => e.sc false p s
  | .doo e, p, s => e.sc false p s
def Rws.sc : Rws → Path → Sc → Sc
  | .nil, _, s => s
  | .cons r t, p, s => t.sc p (r.sc p s)
end
def sc0 : Sc := ⟨[([], "module")], [([], 0)], [], [], []⟩
def Rws.scan (l : Rws) : Sc := l.sc [] sc0

theorem Ex.zp : ∀ e : Ex, 1 ≤ e.z
  | .num _ => Nat.le_refl _
  | .nam _ => Nat.le_refl _
  | .cal _ _ => by simp only [Ex.z]; omega
  | .lam _ _ => by simp only [Ex.z]; omega
  | .wal _ _ => by simp only [Ex.z]; omega
  | .lst _ _ => by simp only [Ex.z]; omega
theorem Exs.len : ∀ as : Exs, as.l.length ≤ as.z
  | .nil => Nat.le_refl _
  | .cons e r => by
    have := Exs.len r
    have := Ex.zp e
    simp [Exs.l, Exs.z]; omega
/-! ### what the scan keeps -/
def Sc.keys (s : Sc) : List Path := s.cn.map Prod.fst
def Sc.sz (s : Sc) : Nat := s.bs.length + s.ms.length + s.tg.length + s.hl.length
structure Gd (s : Sc) : Prop where
  kb : s.cn.map Prod.fst = s.bs.map Prod.fst
  idx : ∀ (p : Path) (i : Nat), p ++ [i] ∈ s.keys → i < cnt s.cn p
  nd : (s.bs.map Prod.fst).Nodup
  up : ∀ (p : Path) (i : Nat), p ++ [i] ∈ s.keys → p ∈ s.keys
  rt : lkP s.bs [] = some "module"
  tk : ∀ p ∈ s.tg.map Prod.fst, p ∈ s.keys
theorem Gd.fresh {s : Sc} (g : Gd s) (p : Path) : p ++ [cnt s.cn p] ∉ s.keys :=
  fun h => Nat.lt_irrefl _ (g.idx p _ h)
theorem new_keys (s : Sc) (p : Path) (k : Str) : (s.new p k).2.keys = s.keys ++ [(s.new p k).1] := by simp [Sc.new, Sc.keys, inc_keys]
/-- from s to s' a piece of size z was scanned -/
structure Kp (s s' : Sc) (z : Nat) : Prop where
  g : Gd s'
  k : ∀ q, q ∈ s.keys → q ∈ s'.keys
  z : s'.sz ≤ s.sz + z
theorem Kp.refl {s : Sc} (g : Gd s) : Kp s s 0 := ⟨g, fun _ h => h, Nat.le_refl _⟩
theorem Kp.trans {a b c : Sc} {m n k : Nat} (h : Kp a b m) (i : Kp b c n) (e : m + n ≤ k) : Kp a c k := ⟨i.g, fun q hq => i.k q (h.k q hq), by have := h.z; have := i.z; omega⟩
theorem Kp.le {a b : Sc} {m n : Nat} (h : Kp a b m) (e : m ≤ n) : Kp a b n := ⟨h.g, h.k, Nat.le_trans h.z (by omega)⟩
theorem Gd.new {s : Sc} (g : Gd s) {p : Path} (hp : p ∈ s.keys) (k : Str) : Gd (s.new p k).2 := by
  have hb : p ∈ s.bs.map Prod.fst := g.kb ▸ hp
  refine ⟨?_, ?_, ?_, ?_, ?_, ?_⟩
  · simp only [Sc.new, List.map_append, inc_keys, g.kb]
    simp
  · intro r i h
    rw [new_keys] at h
    simp only [Sc.new, List.mem_append, List.mem_singleton] at h ⊢
    rw [cnt_app]
    rcases h with h | h
    · exact Nat.lt_of_lt_of_le (g.idx r i h) (cnt_inc_le p r _)
    · obtain ⟨h1, h2⟩ := List.append_inj' h rfl
      subst h1
      simp only [List.cons.injEq, and_true] at h2
      subst h2
      rw [cnt_inc _ _ hp]
      exact Nat.lt_succ_self _
  · have hf := g.fresh p
    unfold Sc.keys at hf
    rw [g.kb] at hf
    simp only [Sc.new, List.map_append, List.map_cons, List.map_nil]
    rw [List.nodup_append]
    refine ⟨g.nd, by simp, ?_⟩
    intro a ha b hb' e
    simp only [List.mem_singleton] at hb'
    subst hb'
    subst e
    exact hf ha
  · intro r i h
    rw [new_keys] at h ⊢
    simp only [Sc.new, List.mem_append, List.mem_singleton] at h ⊢
    rcases h with h | h
    · exact Or.inl (g.up r i h)
    · obtain ⟨h1, _⟩ := List.append_inj' h rfl
      subst h1
      exact Or.inl hp
  · exact lk_app _ g.rt
  · intro q hq
    rw [new_keys]
    exact List.mem_append_left _ (g.tk q hq)
theorem Kp.new {s : Sc} (g : Gd s) {p : Path} (hp : p ∈ s.keys) (k : Str) : Kp s (s.new p k).2 1 :=
  ⟨g.new hp k, fun q h => by rw [new_keys]; exact List.mem_append_left _ h, by simp [Sc.new, Sc.sz]; omega⟩
theorem new_in (s : Sc) (p : Path) (k : Str) : (s.new p k).1 ∈ (s.new p k).2.keys := by
  rw [new_keys]; simp
theorem Gd.men {s : Sc} (g : Gd s) (m : Mn) : Gd (s.men m) := ⟨g.kb, g.idx, g.nd, g.up, g.rt, g.tk⟩
theorem Gd.par {s : Sc} (g : Gd s) (p : Path) (ns : List Str) : Gd (s.par p ns) := ⟨g.kb, g.idx, g.nd, g.up, g.rt, g.tk⟩
theorem Gd.hole {s : Sc} (g : Gd s) (p : Path) : Gd (s.hole p) := ⟨g.kb, g.idx, g.nd, g.up, g.rt, g.tk⟩
theorem Gd.tgt {s : Sc} (g : Gd s) {p : Path} (hp : p ∈ s.keys) (ns : List Str) : Gd (s.tgt p ns) := ⟨g.kb, g.idx, g.nd, g.up, g.rt, fun q h => by
  simp only [Sc.tgt, List.map_append, List.mem_append, List.map_cons, List.map_nil, List.mem_singleton] at h
  rcases h with h | h
  · exact g.tk q h
  · subst h; exact hp⟩
theorem Kp.men {s : Sc} (g : Gd s) (m : Mn) : Kp s (s.men m) 1 := ⟨g.men m, fun _ h => h, by simp [Sc.men, Sc.sz]; omega⟩
theorem Kp.par {s : Sc} (g : Gd s) (p : Path) (ns : List Str) : Kp s (s.par p ns) ns.length := ⟨g.par p ns, fun _ h => h, by simp [Sc.par, Sc.sz]; omega⟩
theorem Kp.hole {s : Sc} (g : Gd s) (p : Path) : Kp s (s.hole p) 1 := ⟨g.hole p, fun _ h => h, by simp [Sc.hole, Sc.sz]; omega⟩
theorem Kp.tgt {s : Sc} (g : Gd s) {p : Path} (hp : p ∈ s.keys) (ns : List Str) : Kp s (s.tgt p ns) 1 := ⟨g.tgt hp ns, fun _ h => h, by simp [Sc.tgt, Sc.sz]; omega⟩
theorem sc0_gd : Gd sc0 := by
  refine ⟨rfl, ?_, by simp [sc0], ?_, by simp [sc0, lkP], by simp [sc0]⟩
  · intro p i h
    simp [sc0, Sc.keys] at h
  · intro p i h
    simp [sc0, Sc.keys] at h
mutual
theorem Ex.kp : ∀ (e : Ex) (b : Bool) (p : Path) (s : Sc), Gd s → p ∈ s.keys → Kp s (e.sc b p s) e.z
  | .num _, _, _, s, g, _ => (Kp.refl g).le (Nat.zero_le _)
  | .nam _, _, _, s, g, _ => Kp.men g _
  | .cal f as, b, p, s, g, h => by
    have a := Ex.kp f b p s g h
    exact a.trans (Exs.kp as b p _ a.g (a.k p h)) (by simp only [Ex.z]; omega)
  | .lam ns e, b, p, s, g, h => by
    have a := (Kp.new g h "lambda")
    have c := a.trans (Kp.par a.g (s.new p "lambda").1 ns) (Nat.le_refl _)
    exact c.trans (Ex.kp e b (s.new p "lambda").1 _ c.g (new_in ..)) (by simp [Ex.z])
  | .wal x e, b, p, s, g, h => by
    have a := Kp.men g ⟨p, x, "write", s.seat p, some b⟩
    exact a.trans (Ex.kp e b p _ a.g h) (by simp [Ex.z])
  | .lst e cs, b, p, s, g, h => by
    have a := (Kp.new g h "list")
    have c := a.trans (Kp.tgt a.g (new_in ..) cs.names) (Nat.le_refl _)
    have hq : (s.new p "list").1 ∈ ((s.new p "list").2.tgt (s.new p "list").1 cs.names).keys := new_in ..
    have x := Ex.kp e b (s.new p "list").1 _ c.g hq
    have y := c.trans x (Nat.le_refl _)
    exact y.trans (Cl.kp cs p (s.new p "list").1 _ y.g (y.k p h) (x.k _ hq)) (by simp [Ex.z])
theorem Exs.kp : ∀ (e : Exs) (b : Bool) (p : Path) (s : Sc), Gd s → p ∈ s.keys → Kp s (e.sc b p s) e.z
  | .nil, _, _, s, g, _ => Kp.refl g
  | .cons e r, b, p, s, g, h => by
    have a := Ex.kp e b p s g h
    exact a.trans (Exs.kp r b p _ a.g (a.k p h)) (by simp [Exs.z])
theorem Cl.kp : ∀ (e : Cl) (p q : Path) (s : Sc), Gd s → p ∈ s.keys → q ∈ s.keys → Kp s (e.sc p q s) e.z
  | .nil, _, _, s, g, _, _ => Kp.refl g
  | .cons x e r, p, q, s, g, h, h' => by
    have c := Kp.men g ⟨q, x, "write", q, none⟩
    have a := c.trans (Ex.kp e true p _ c.g h) (Nat.le_refl _)
    exact a.trans (Cl.kp r q q _ a.g (a.k q h') (a.k q h')) (by simp [Cl.z])
end
mutual
theorem Rw.kp : ∀ (e : Rw) (p : Path) (s : Sc), Gd s → p ∈ s.keys → Kp s (e.sc p s) e.z
  | .set x e, p, s, g, h => by
    have a := Kp.men g ⟨p, x, "write", p, none⟩
    exact a.trans (Ex.kp e false p _ a.g h) (by simp [Rw.z])
  | .dfn x ns b, p, s, g, h => by
    have a := Kp.men g ⟨p, x, "write", p, none⟩
    have n := Kp.new a.g h "function"
    have c := a.trans (n.trans (Kp.par n.g ((s.men ⟨p, x, "write", p, none⟩).new p "function").1 ns) (Nat.le_refl _)) (Nat.le_refl _)
    exact c.trans (Rws.kp b ((s.men ⟨p, x, "write", p, none⟩).new p "function").1 _ c.g (new_in ..)) (by simp [Rw.z]; omega)
  | .kls x b, p, s, g, h => by
    have a := Kp.men g ⟨p, x, "write", p, none⟩
    have c := a.trans (Kp.new a.g h "class") (Nat.le_refl _)
    exact c.trans (Rws.kp b ((s.men ⟨p, x, "write", p, none⟩).new p "class").1 _ c.g (new_in ..)) (by simp [Rw.z])
  | .ret e, p, s, g, h => Ex.kp e false p s g h
  | .doo e, p, s, g, h => Ex.kp e false p s g h
  | .del _, _, s, g, _ => Kp.men g _
  | .glb _, _, s, g, _ => Kp.men g _
  | .nln _, _, s, g, _ => Kp.men g _
  | .hole, _, s, g, _ => Kp.hole g _
theorem Rws.kp : ∀ (e : Rws) (p : Path) (s : Sc), Gd s → p ∈ s.keys → Kp s (e.sc p s) e.z
  | .nil, _, s, g, _ => Kp.refl g
  | .cons r t, p, s, g, h => by
    have a := Rw.kp r p s g h
    exact a.trans (Rws.kp t p _ a.g (a.k p h)) (by simp [Rws.z])
end
theorem scan_kp (l : Rws) : Kp sc0 l.scan l.z := Rws.kp l [] sc0 sc0_gd (by simp [sc0, Sc.keys])
theorem scan_gd (l : Rws) : Gd l.scan := (scan_kp l).g
theorem scan_back (l : Rws) : ∀ x ∈ l.scan.bs, lkP l.scan.bs x.1 = some x.2 := lk_self _ (scan_gd l).nd
end Sy
end
section
set_option Elab.async false
set_option linter.all false
set_option maxRecDepth 100000
set_option maxHeartbeats 2000000
/-! Sy2: Scan's methods on its object. -/
namespace Sy
open PySem (Str)
open Ev
open Ev (E Es Ks C Cs T Ts S Ss)

def scF : List Str := ["blocks", "kinds", "inner", "mentions", "seats", "targets", "walruses", "holes"]
structure HasScan (P : Prg) : Prop where
  c : P.cls 1 = some ⟨1, scF⟩
  W : P.W = 200
  f1 : P.fns 1 = some ⟨2, 2, B1⟩
  f2 : P.fns 2 = some ⟨3, 3, B2⟩
  f3 : P.fns 3 = some ⟨3, 4, B3⟩
  f4 : P.fns 4 = some ⟨2, 2, B4⟩
  f5 : P.fns 5 = some ⟨4, 4, B5⟩
  f6 : P.fns 6 = some ⟨3, 4, B6⟩
  f7 : P.fns 7 = some ⟨3, 5, B7⟩
  f8 : P.fns 8 = some ⟨3, 4, B8⟩
  f9 : P.fns 9 = some ⟨4, 7, B9⟩
  f10 : P.fns 10 = some ⟨5, 9, B10⟩
def scL : List (Str × D) := [("blocks", .ref 1), ("kinds", .ref 2), ("inner", .ref 3), ("mentions", .ref 4), ("seats", .ref 5), ("targets", .ref 6), ("walruses", .ref 7), ("holes", .ref 8)]
/-- the Scan object at 0 and its eight containers -/
def hh (b : List D) (k i : List (D × D)) (m se : List D) (t : List (D × D)) (w ho : List D) : Mm :=
  ⟨9, [(8, .lst ho), (7, .lst w), (6, .dic true t), (5, .lst se), (4, .lst m), (3, .dic true i), (2, .dic true k), (1, .lst b), (0, .ins 1 scL)]⟩
section
variable {P : Prg} {c1 c2 : Fs} {r : Ev.Env} {b m se w ho : List D} {k i t : List (D × D)}
theorem g0 : (hh b k i m se t w ho).get 0 = some (.ins 1 scL) := rfl
theorem g1 : (hh b k i m se t w ho).get 1 = some (.lst b) := rfl
theorem g2 : (hh b k i m se t w ho).get 2 = some (.dic true k) := rfl
theorem g3 : (hh b k i m se t w ho).get 3 = some (.dic true i) := rfl
theorem g4 : (hh b k i m se t w ho).get 4 = some (.lst m) := rfl
theorem g5 : (hh b k i m se t w ho).get 5 = some (.lst se) := rfl
theorem g6 : (hh b k i m se t w ho).get 6 = some (.dic true t) := rfl
theorem g7 : (hh b k i m se t w ho).get 7 = some (.lst w) := rfl
theorem g8 : (hh b k i m se t w ho).get 8 = some (.lst ho) := rfl
theorem s1 {x} : (hh b k i m se t w ho).set 1 (.lst x) = hh x k i m se t w ho := rfl
theorem s2 {x} : (hh b k i m se t w ho).set 2 (.dic true x) = hh b x i m se t w ho := rfl
theorem s3 {x} : (hh b k i m se t w ho).set 3 (.dic true x) = hh b k x m se t w ho := rfl
theorem s4 {x} : (hh b k i m se t w ho).set 4 (.lst x) = hh b k i x se t w ho := rfl
theorem s5 {x} : (hh b k i m se t w ho).set 5 (.lst x) = hh b k i m x t w ho := rfl
theorem s6 {x} : (hh b k i m se t w ho).set 6 (.dic true x) = hh b k i m se x w ho := rfl
theorem s7 {x} : (hh b k i m se t w ho).set 7 (.lst x) = hh b k i m se t x ho := rfl
theorem s8 {x} : (hh b k i m se t w ho).set 8 (.lst x) = hh b k i m se t w x := rfl
theorem fld (H : HasScan P) {f : Str} {d : D} (hf : scF.contains f = true) (hl : lkF scL f = some d) : evE P c1 c2 (.fld (.var 0) f) (some (.ref 0) :: r) (hh b k i m se t w ho) = some (d, hh b k i m se t w ho) := by
  simp only [evE, getE, insOf, g0, H.c, hf, hl, cond_true]
theorem fl1 (H : HasScan P) : evE P c1 c2 (.fld (.var 0) "blocks") (some (.ref 0) :: r) (hh b k i m se t w ho) = some (.ref 1, hh b k i m se t w ho) := fld H rfl rfl
theorem fl2 (H : HasScan P) : evE P c1 c2 (.fld (.var 0) "kinds") (some (.ref 0) :: r) (hh b k i m se t w ho) = some (.ref 2, hh b k i m se t w ho) := fld H rfl rfl
theorem fl3 (H : HasScan P) : evE P c1 c2 (.fld (.var 0) "inner") (some (.ref 0) :: r) (hh b k i m se t w ho) = some (.ref 3, hh b k i m se t w ho) := fld H rfl rfl
theorem fl4 (H : HasScan P) : evE P c1 c2 (.fld (.var 0) "mentions") (some (.ref 0) :: r) (hh b k i m se t w ho) = some (.ref 4, hh b k i m se t w ho) := fld H rfl rfl
theorem fl5 (H : HasScan P) : evE P c1 c2 (.fld (.var 0) "seats") (some (.ref 0) :: r) (hh b k i m se t w ho) = some (.ref 5, hh b k i m se t w ho) := fld H rfl rfl
theorem fl6 (H : HasScan P) : evE P c1 c2 (.fld (.var 0) "targets") (some (.ref 0) :: r) (hh b k i m se t w ho) = some (.ref 6, hh b k i m se t w ho) := fld H rfl rfl
theorem fl7 (H : HasScan P) : evE P c1 c2 (.fld (.var 0) "walruses") (some (.ref 0) :: r) (hh b k i m se t w ho) = some (.ref 7, hh b k i m se t w ho) := fld H rfl rfl
theorem fl8 (H : HasScan P) : evE P c1 c2 (.fld (.var 0) "holes") (some (.ref 0) :: r) (hh b k i m se t w ho) = some (.ref 8, hh b k i m se t w ho) := fld H rfl rfl
def mcl (c1 : Fs) (f : Nat) : Option (List D × Mm) → Option (D × Mm)
  | some (vs, h2) => c1 f (.ref 0 :: vs) h2
  | none => none
theorem mth {f : Nat} {nm : Str} {es : Es} (hl : (lkF scL nm).isNone = true) : evE P c1 c2 (.meth .sh 1 f nm (.var 0) es) (some (.ref 0) :: r) (hh b k i m se t w ho) = mcl c1 f (evEs P c1 c2 es (some (.ref 0) :: r) (hh b k i m se t w ho)) := by
  simp only [evE, getE, insOf, g0, hl, Bool.and_true, runM, Nat.beq, cond_true]
  cases evEs P c1 c2 es (some (.ref 0) :: r) (hh b k i m se t w ho) <;> rfl
theorem me2 {es : Es} : evE P c1 c2 (.meth .sh 1 2 "begin" (.var 0) es) (some (.ref 0) :: r) (hh b k i m se t w ho) = mcl c1 2 (evEs P c1 c2 es (some (.ref 0) :: r) (hh b k i m se t w ho)) := mth rfl
theorem me3 {es : Es} : evE P c1 c2 (.meth .sh 1 3 "begin_in" (.var 0) es) (some (.ref 0) :: r) (hh b k i m se t w ho) = mcl c1 3 (evEs P c1 c2 es (some (.ref 0) :: r) (hh b k i m se t w ho)) := mth rfl
theorem me4 {es : Es} : evE P c1 c2 (.meth .sh 1 4 "seat_of" (.var 0) es) (some (.ref 0) :: r) (hh b k i m se t w ho) = mcl c1 4 (evEs P c1 c2 es (some (.ref 0) :: r) (hh b k i m se t w ho)) := mth rfl
theorem me5 {es : Es} : evE P c1 c2 (.meth .sh 1 5 "mention" (.var 0) es) (some (.ref 0) :: r) (hh b k i m se t w ho) = mcl c1 5 (evEs P c1 c2 es (some (.ref 0) :: r) (hh b k i m se t w ho)) := mth rfl
theorem me6 {es : Es} : evE P c1 c2 (.meth .sh 1 6 "read_rows" (.var 0) es) (some (.ref 0) :: r) (hh b k i m se t w ho) = mcl c1 6 (evEs P c1 c2 es (some (.ref 0) :: r) (hh b k i m se t w ho)) := mth rfl
theorem me7 {es : Es} : evE P c1 c2 (.meth .sh 1 7 "read_row" (.var 0) es) (some (.ref 0) :: r) (hh b k i m se t w ho) = mcl c1 7 (evEs P c1 c2 es (some (.ref 0) :: r) (hh b k i m se t w ho)) := mth rfl
theorem me8 {es : Es} : evE P c1 c2 (.meth .sh 1 8 "read_parameters" (.var 0) es) (some (.ref 0) :: r) (hh b k i m se t w ho) = mcl c1 8 (evEs P c1 c2 es (some (.ref 0) :: r) (hh b k i m se t w ho)) := mth rfl
theorem me9 {es : Es} : evE P c1 c2 (.meth .sh 1 9 "read_expr" (.var 0) es) (some (.ref 0) :: r) (hh b k i m se t w ho) = mcl c1 9 (evEs P c1 c2 es (some (.ref 0) :: r) (hh b k i m se t w ho)) := mth rfl
theorem me10 {es : Es} : evE P c1 c2 (.meth .sh 1 10 "read_list" (.var 0) es) (some (.ref 0) :: r) (hh b k i m se t w ho) = mcl c1 10 (evEs P c1 c2 es (some (.ref 0) :: r) (hh b k i m se t w ho)) := mth rfl
end
section
variable {P : Prg} (H : HasScan P) (d : Nat) {b m se w ho : List D} {k i t : List (D × D)}
include H
theorem begin_D {p kd : D} (hk : keyOk true p = true) (h1 : b.length + 1 ≤ 1000000) (h2 : k.length + 1 ≤ 1000000) (h3 : i.length + 1 ≤ 1000000) :
    call P (d + 1) 2 [.ref 0, p, kd] (hh b k i m se t w ho) = some (p, hh (b ++ [.tup [p, kd]]) (putD k p kd) (putD i p (.int 0)) m se t w ho) := by
  have b1 := ble_m h1
  have b2 := ble_m h2
  have b3 := ble_m h3
  rw [call_f H.f2]
  simp [B2, evSs, s_asg, s_par, s_aug, s_augS, s_exp, s_ret, s_retN, s_iff, s_pass, s_brk, s_cnt, e_var, e_non, e_bl, e_int, e_str, e_glo, e_bin, e_neg, e_cmp, e_and, e_or, e_ite, e_tup, e_lst, e_dic, e_idx, e_sl, e_call, e_blt, e_bm, e_isi, evT, evEs, evP, evKV, evAll, evAny, evAnd, evOr, asg, asgs, getE, setE, noneL, fl1 H, fl2 H, fl3 H, bmTy, bmD, g1, g2, g3, s1, s2, s3, setD, hk, b1, b2, b3, tb2]
end
end Sy
end
section
set_option Elab.async false
set_option linter.all false
set_option maxRecDepth 100000
set_option maxHeartbeats 2000000
/-! Sy3: Scan's methods compute the mirror: blocks, seats, mentions. -/
namespace Sy
open PySem (Str)
open Ev
open Ev (E Es Ks C Cs T Ts S Ss)

def iD (n : Nat) : D := .int (n : Int)
def bk (x : Path × Str) : D := .tup [pD x.1, .str x.2]
def m3 (m : Mn) : D := .tup [pD m.p, .str m.n, .str m.r]
def tgD (ns : List Str) : D := .lst (nms ns)
def walr : Nat → List Mn → List D
  | _, [] => []
  | n, m :: r => match m.w with
    | some b => .tup [.int (n : Int), .bl b] :: walr (n + 1) r
    | none => walr (n + 1) r
theorem walr_none : ∀ (n : Nat) (l : List Mn) (k : List Mn), (∀ m ∈ k, m.w = none) → walr n (l ++ k) = walr n l
  | n, [], [], _ => rfl
  | n, [], m :: k, h => by
    have h1 := h m (List.mem_cons_self ..)
    simp only [List.nil_append, walr, h1]
    have := walr_none (n + 1) [] k fun x hx => h x (List.mem_cons_of_mem _ hx)
    simpa [walr] using this
  | n, m :: r, k, h => by
    simp only [List.cons_append, walr, walr_none (n + 1) r k h]
theorem walr_some : ∀ (n : Nat) (l : List Mn) (m : Mn) (b : Bool), m.w = some b → walr n (l ++ [m]) = walr n l ++ [.tup [.int ((n + l.length : Nat) : Int), .bl b]]
  | n, [], m, b, h => by simp [walr, h]
  | n, x :: r, m, b, h => by
    have ih := walr_some (n + 1) r m b h
    have e : n + 1 + r.length = n + (r.length + 1) := by omega
    simp only [List.cons_append, walr, ih, List.length_cons, e]
    cases x.w <;> rfl
theorem walr_len : ∀ (n : Nat) (l : List Mn), (walr n l).length ≤ l.length
  | _, [] => Nat.le_refl _
  | n, m :: r => by
    have := walr_len (n + 1) r
    unfold walr
    cases m.w <;> simp <;> omega
def hP (s : Sc) : Mm := hh (s.bs.map bk) (kv .str s.bs) (kv iD s.cn) (s.ms.map m3) (s.ms.map fun m => pD m.s) (kv tgD s.tg) (walr 0 s.ms) (s.hl.map pD)
theorem idx_k {α : Type} {enc : α → D} {h : Mm} {c : Nat} {l : List (Path × α)} {p : Path} (e : h.get c = some (.dic true (kv enc l))) : idxD (.ref c) (pD p) h = (lkP l p).map enc := by
  have hk := key_p p
  simp only [idxD, dictOf, e, hk, cond_true, lk_kv]
theorem set_k {α : Type} {enc : α → D} {h : Mm} {c : Nat} {l : List (Path × α)} {p : Path} {x : D} (e : h.get c = some (.dic true (kv enc l))) (k : l.length + 1 ≤ 1000000) : setD (.ref c) (pD p) x h = some (h.set c (.dic true (putD (kv enc l) (pD p) x))) := by
  have hk := key_p p
  have := ble_m k
  simp only [setD, e, hk, kvl, this, Bool.and_self, cond_true]
theorem add_p (p : Path) (i : Nat) (h : Mm) (k : p.length + 1 ≤ 1000000) : binD .add true (pD p) (.tup [.int (i : Int)]) h = some (pD (p ++ [i]), h) := by
  rw [pD_app]
  simp only [pD, binD, List.length_map, List.length_cons, List.length_nil, ble_m k, cond_true]
theorem cut_d {α : Type} (xs : List α) : cut xs none (some (-1)) = xs.dropLast := by
  simp only [cut, sIx, List.drop_zero, List.dropLast_eq_take]
  rw [if_pos (by decide)]
  congr 1
  omega
theorem cut_p (p : Path) (h : Mm) : slD true (pD p) none (some (-1)) h = some (pD p.dropLast, h) := by
  simp only [slD, pD, cut_d, List.map_dropLast]
/-- a path's shape -/
theorem last_or (p : Path) : p = [] ∨ ∃ q i, p = q ++ [i] := by
  rcases List.eq_nil_or_concat p with h | ⟨q, i, h⟩
  · exact .inl h
  · exact .inr ⟨q, i, by simpa using h⟩
theorem Gd.ln {s : Sc} (g : Gd s) : s.cn.length = s.bs.length := by have := congrArg List.length g.kb; simpa using this
theorem Gd.kd {s : Sc} (g : Gd s) {p : Path} (h : p ∈ s.keys) : ∃ k, lkP s.bs p = some k := lk_some p s.bs (g.kb ▸ h)
theorem Gd.drop {s : Sc} (g : Gd s) {p : Path} (h : p ∈ s.keys) : p.dropLast ∈ s.keys := by
  rcases last_or p with rfl | ⟨q, i, rfl⟩
  · exact h
  · rw [List.dropLast_concat]; exact g.up q i h
theorem seat_in {s : Sc} (g : Gd s) : ∀ (n : Nat) (p : Path), p ∈ s.keys → seatN s.bs n p ∈ s.keys
  | 0, p, h => h
  | n + 1, p, h => by
    unfold seatN
    split
    · exact seat_in g n _ (g.drop h)
    · exact h
theorem seat_whl {s : Sc} (g : Gd s) {c : Ev.Env → Mm → Option (Bool × Mm)} {b : Ev.Env → Mm → Option (Fl × Ev.Env × Mm)} {env : Path → Ev.Env} {h : Mm}
    (hc : ∀ p k, lkP s.bs p = some k → c (env p) h = some (decide (k = "list"), h)) (hb : ∀ p, b (env p) h = some (.nx, env p.dropLast, h)) :
    ∀ (n : Nat) (p : Path) (m : Nat), p.length = n → p ∈ s.keys → n < m → whlL c b m (env p) h = some (.nx, env (seatN s.bs n p), h)
  | 0, p, m + 1, hl, hk, hm => by
    have e : p = [] := List.length_eq_zero_iff.mp hl
    subst e
    have := hc [] _ g.rt
    have e2 : decide ((("module" : Str)) = "list") = false := by decide
    rw [e2] at this
    simp only [whlL, this, seatN]
  | n + 1, p, m + 1, hl, hk, hm => by
    obtain ⟨k, ek⟩ := g.kd hk
    have e := hc p k ek
    by_cases hkl : k = "list"
    · subst hkl
      simp only [decide_true] at e
      simp only [whlL, e, hb p]
      have ih := seat_whl g hc hb n p.dropLast m (by simp [hl]) (g.drop hk) (by omega)
      rw [ih]
      simp only [seatN, ek, if_true]
    · simp only [hkl, decide_false] at e
      simp only [whlL, e]
      have : ¬ (some k = some ("list" : Str)) := fun z => hkl (Option.some.inj z)
      simp only [seatN, ek, this, if_false]
section
variable {P : Prg} (H : HasScan P)
include H
theorem begin_run (d : Nat) {s : Sc} {q : Path} (k : Str) (fq : q ∉ s.keys) (g : s.cn.map Prod.fst = s.bs.map Prod.fst) (hz : s.sz + 1 ≤ 1000000) :
    call P (d + 1) 2 [.ref 0, pD q, .str k] (hP s) = some (pD q, hP { s with bs := s.bs ++ [(q, k)], cn := s.cn ++ [(q, 0)] }) := by
  have ln : s.cn.length = s.bs.length := by have := congrArg List.length g; simpa using this
  have h1 : s.bs.length + 1 ≤ 1000000 := by unfold Sc.sz at hz; omega
  have fb : q ∉ s.bs.map Prod.fst := g ▸ fq
  have := begin_D H d (p := pD q) (kd := .str k) (b := s.bs.map bk) (k := kv .str s.bs) (i := kv iD s.cn) (m := s.ms.map m3) (se := s.ms.map fun m => pD m.s) (t := kv tgD s.tg) (w := walr 0 s.ms) (ho := s.hl.map pD) (key_p q) (by simpa using h1) (by rw [kvl]; exact h1) (by rw [kvl, ln]; exact h1)
  rw [put_new D.str (lk_none q _ fb)] at this
  have e : putD (kv iD s.cn) (pD q) (.int 0) = kv iD (s.cn ++ [(q, 0)]) := put_new iD (a := 0) (lk_none q _ fq)
  rw [e] at this
  unfold hP
  rw [this]
  simp [bk]
theorem new_run (d : Nat) {s : Sc} (g : Gd s) {p : Path} (hp : p ∈ s.keys) (k : Str) (hl : p.length + 1 ≤ 1000000) (hz : s.sz + 1 ≤ 1000000) :
    call P (d + 2) 3 [.ref 0, pD p, .str k] (hP s) = some (pD (s.new p k).1, hP (s.new p k).2) := by
  have lc := lk_cnt p _ hp
  have h1 : s.cn.length + 1 ≤ 1000000 := by rw [g.ln]; unfold Sc.sz at hz; omega
  have e3 : (hP s).get 3 = some (.dic true (kv iD s.cn)) := rfl
  have e1 : idxD (.ref 3) (pD p) (hP s) = some (.int (cnt s.cn p : Int)) := by rw [idx_k e3, lc]; rfl
  have nd : (s.cn.map Prod.fst).Nodup := by rw [g.kb]; exact g.nd
  have s1 : setD (.ref 3) (pD p) (.int ((cnt s.cn p : Int) + 1)) (hP s) = some (hP { s with cn := inc s.cn p }) := by
    rw [set_k e3 h1]
    have e : putD (kv iD s.cn) (pD p) (.int ((cnt s.cn p : Int) + 1)) = kv iD (inc s.cn p) := by
      rw [← inc_set p _ nd hp]
      exact put_old iD (a := cnt s.cn p + 1) lc
    rw [e]
    rfl
  have a1 := add_p p (cnt s.cn p) (hP { s with cn := inc s.cn p }) hl
  have b1 := begin_run H d (s := { s with cn := inc s.cn p }) (q := p ++ [cnt s.cn p]) k (by have := g.fresh p; simpa [Sc.keys, inc_keys] using this) (by simp [inc_keys, g.kb]) hz
  have dc : (dictOf (hP s) (.ref 3)).isSome = true := by simp only [dictOf, e3]; rfl
  have f3 : ∀ (c1 c2 : Fs) (r : Ev.Env), evE P c1 c2 (.fld (.var 0) "inner") (some (.ref 0) :: r) (hP s) = some (.ref 3, hP s) := fun c1 c2 r => fl3 H
  have mm : ∀ (s : Sc) (c1 c2 : Fs) (r : Ev.Env) (es : Es), evE P c1 c2 (.meth .sh 1 2 "begin" (.var 0) es) (some (.ref 0) :: r) (hP s) = mcl c1 2 (evEs P c1 c2 es (some (.ref 0) :: r) (hP s)) := fun s c1 c2 r es => me2
  have a3 : binD .add false (.int (cnt s.cn p : Int)) (.int 1) (hP s) = some (.int ((cnt s.cn p : Int) + 1), hP s) := rfl
  rw [call_f H.f3]
  simp [B3, evSs, s_asg, s_par, s_aug, s_augS, s_exp, s_ret, s_retN, s_iff, s_pass, s_brk, s_cnt, e_var, e_non, e_bl, e_int, e_str, e_glo, e_bin, e_neg, e_cmp, e_and, e_or, e_ite, e_tup, e_lst, e_dic, e_idx, e_sl, e_call, e_blt, e_bm, e_isi, evT, evEs, evP, evKV, evAll, evAny, evAnd, evOr, asg, asgs, getE, setE, noneL, f3, mm, mcl, e1, dc, s1, a1, a3, tb1, b1, Sc.new]
theorem men_D (d : Nat) {p n r : D} {b m se w ho : List D} {k i t : List (D × D)} (h1 : m.length + 1 ≤ 1000000) (h2 : se.length + 1 ≤ 1000000) :
    call P (d + 1) 5 [.ref 0, p, n, r] (hh b k i m se t w ho) = some (.non, hh b k i (m ++ [.tup [p, n, r]]) (se ++ [p]) t w ho) := by
  have b1 := ble_m h1
  have b2 := ble_m h2
  rw [call_f H.f5]
  simp [B5, evSs, s_asg, s_par, s_aug, s_augS, s_exp, s_ret, s_retN, s_iff, s_pass, s_brk, s_cnt, e_var, e_non, e_bl, e_int, e_str, e_glo, e_bin, e_neg, e_cmp, e_and, e_or, e_ite, e_tup, e_lst, e_dic, e_idx, e_sl, e_call, e_blt, e_bm, e_isi, evT, evEs, evP, evKV, evAll, evAny, evAnd, evOr, asg, asgs, getE, setE, noneL, fl4 H, fl5 H, bmTy, bmD, g4, g5, Sy.s4, s5, b1, b2, tb1, tb3]
theorem men_run (d : Nat) {s : Sc} (p : Path) (n r : Str) (hz : s.sz + 1 ≤ 1000000) :
    call P (d + 1) 5 [.ref 0, pD p, .str n, .str r] (hP s) = some (.non, hP (s.men ⟨p, n, r, p, none⟩)) := by
  have h1 : s.ms.length + 1 ≤ 1000000 := by unfold Sc.sz at hz; omega
  unfold hP
  rw [men_D H d (by simpa using h1) (by simpa using h1)]
  simp [Sc.men, m3, walr_none 0 s.ms [⟨p, n, r, p, none⟩] (by simp)]
theorem seat_run (d : Nat) {s : Sc} (g : Gd s) {p : Path} (hp : p ∈ s.keys) (hl : p.length < 200) {b m se w ho : List D} {i t : List (D × D)} :
    call P (d + 1) 4 [.ref 0, pD p] (hh b (kv .str s.bs) i m se t w ho) = some (pD (s.seat p), hh b (kv .str s.bs) i m se t w ho) := by
  have w := seat_whl g (c := evT P (call P d) (calls P d).2 (.of (.cmp .eq (.idx (.fld (.var 0) "kinds") (.var 1)) (.glo "LIST" (.str "list"))))) (b := evSs P (call P d) (calls P d).2 (.cons (.asg (.var 1) (.sl true (.var 1) .nil (.cons (.neg (.int 1)) .nil))) .nil))
    (env := fun p => [some (.ref 0), some (pD p)]) (h := hh b (kv .str s.bs) i m se t w ho)
    (fun p k hk => by
      have := idx_k (h := hh b (kv .str s.bs) i m se t w ho) (c := 2) (enc := D.str) (l := s.bs) (p := p) rfl
      rw [hk] at this
      simp only [Option.map_some] at this
      simp [evSs, s_asg, s_par, s_aug, s_augS, s_exp, s_ret, s_retN, s_iff, s_pass, s_brk, s_cnt, e_var, e_non, e_bl, e_int, e_str, e_glo, e_bin, e_neg, e_cmp, e_and, e_or, e_ite, e_tup, e_lst, e_dic, e_idx, e_sl, e_call, e_blt, e_bm, e_isi, evT, evEs, evP, evKV, evAll, evAny, evAnd, evOr, asg, asgs, getE, setE, noneL, fl2 H, this, cmpD, eqM, scl2, scl, eqD, tru])
    (fun p => by simp [evSs, s_asg, s_par, s_aug, s_augS, s_exp, s_ret, s_retN, s_iff, s_pass, s_brk, s_cnt, e_var, e_non, e_bl, e_int, e_str, e_glo, e_bin, e_neg, e_cmp, e_and, e_or, e_ite, e_tup, e_lst, e_dic, e_idx, e_sl, e_call, e_blt, e_bm, e_isi, evT, evEs, evP, evKV, evAll, evAny, evAnd, evOr, asg, asgs, getE, setE, noneL, cut_p]) p.length p P.W rfl hp (by rw [H.W]; exact hl)
  rw [call_f H.f4]
  rw [← s_whl] at w
  simp [B4, evSs, s_asg, s_par, s_aug, s_augS, s_exp, s_ret, s_retN, s_iff, s_pass, s_brk, s_cnt, e_var, e_non, e_bl, e_int, e_str, e_glo, e_bin, e_neg, e_cmp, e_and, e_or, e_ite, e_tup, e_lst, e_dic, e_idx, e_sl, e_call, e_blt, e_bm, e_isi, evT, evEs, evP, evKV, evAll, evAny, evAnd, evOr, asg, asgs, getE, setE, noneL, w, Sc.seat]
end
end Sy
end
section
set_option Elab.async false
set_option linter.all false
set_option maxRecDepth 100000
set_option maxHeartbeats 4000000
/-! Sy4: the whole scan by Scan's methods. -/
namespace Sy
open PySem (Str)
open Ev
open Ev (E Es Ks C Cs T Ts S Ss)

section
variable {P : Prg} (H : HasScan P) {c1 c2 : Fs} {r : Ev.Env} {s : Sc}
include H
theorem fP3 : evE P c1 c2 (.fld (.var 0) "inner") (some (.ref 0) :: r) (hP s) = some (.ref 3, hP s) := fl3 H
theorem fP4 : evE P c1 c2 (.fld (.var 0) "mentions") (some (.ref 0) :: r) (hP s) = some (.ref 4, hP s) := fl4 H
theorem fP6 : evE P c1 c2 (.fld (.var 0) "targets") (some (.ref 0) :: r) (hP s) = some (.ref 6, hP s) := fl6 H
theorem fP7 : evE P c1 c2 (.fld (.var 0) "walruses") (some (.ref 0) :: r) (hP s) = some (.ref 7, hP s) := fl7 H
theorem fP8 : evE P c1 c2 (.fld (.var 0) "holes") (some (.ref 0) :: r) (hP s) = some (.ref 8, hP s) := fl8 H
omit H
theorem mP3 {es : Es} : evE P c1 c2 (.meth .sh 1 3 "begin_in" (.var 0) es) (some (.ref 0) :: r) (hP s) = mcl c1 3 (evEs P c1 c2 es (some (.ref 0) :: r) (hP s)) := me3
theorem mP5 {es : Es} : evE P c1 c2 (.meth .sh 1 5 "mention" (.var 0) es) (some (.ref 0) :: r) (hP s) = mcl c1 5 (evEs P c1 c2 es (some (.ref 0) :: r) (hP s)) := me5
theorem mP6 {es : Es} : evE P c1 c2 (.meth .sh 1 6 "read_rows" (.var 0) es) (some (.ref 0) :: r) (hP s) = mcl c1 6 (evEs P c1 c2 es (some (.ref 0) :: r) (hP s)) := me6
theorem mP7 {es : Es} : evE P c1 c2 (.meth .sh 1 7 "read_row" (.var 0) es) (some (.ref 0) :: r) (hP s) = mcl c1 7 (evEs P c1 c2 es (some (.ref 0) :: r) (hP s)) := me7
theorem mP8 {es : Es} : evE P c1 c2 (.meth .sh 1 8 "read_parameters" (.var 0) es) (some (.ref 0) :: r) (hP s) = mcl c1 8 (evEs P c1 c2 es (some (.ref 0) :: r) (hP s)) := me8
theorem mP9 {es : Es} : evE P c1 c2 (.meth .sh 1 9 "read_expr" (.var 0) es) (some (.ref 0) :: r) (hP s) = mcl c1 9 (evEs P c1 c2 es (some (.ref 0) :: r) (hP s)) := me9
theorem mP10 {es : Es} : evE P c1 c2 (.meth .sh 1 10 "read_list" (.var 0) es) (some (.ref 0) :: r) (hP s) = mcl c1 10 (evEs P c1 c2 es (some (.ref 0) :: r) (hP s)) := me10
end
def parB : Ss := .cons (.exp (.meth .sh 1 5 "mention" (.var 0) (.cons (.var 2) (.cons (.var 3) (.cons (.glo "PARAMETER" (.str "parameter")) .nil))))) .nil
def callB : Ss := .cons (.exp (.meth .sh 1 9 "read_expr" (.var 0) (.cons (.var 5) (.cons (.var 2) (.cons (.var 3) .nil))))) .nil
def clB : Ss := .cons (.exp (.meth .sh 1 5 "mention" (.var 0) (.cons (.var 5) (.cons (.var 7) (.cons (.glo "WRITE" (.str "write")) .nil)))))
    (.cons (.exp (.meth .sh 1 9 "read_expr" (.var 0) (.cons (.var 8) (.cons (.var 6) (.cons (.bl true) .nil)))))
    (.cons (.asg (.var 6) (.var 5))
    .nil))
def rowB : Ss := .cons (.exp (.meth .sh 1 7 "read_row" (.var 0) (.cons (.var 3) (.cons (.var 2) .nil)))) .nil
theorem sp_ns (l : List Str) : ∀ s : Sc, ∀ p n, (s.men ⟨p, n, "parameter", p, none⟩).par p l = s.par p (n :: l) := fun s p n => by
  simp [Sc.men, Sc.par]
/-- [name for name, source in clauses] -/
theorem names_c {P : Prg} {c1 c2 : Fs} : ∀ (cs : Cl) (env : Ev.Env) (h : Mm), env.length = 9 → cmpL (fun h => stay h none) (turnL (asg P c1 c2 (.tup (.cons (.var 7) (.cons (.var 8) .nil)))) (evAll P c1 c2 .nil) (evE P c1 c2 (.var 7)) env) cs.l h = some (nms cs.names, h)
  | .nil, env, h, hl => rfl
  | .cons x e r, env, h, hl => by
    have ih := names_c (P := P) (c1 := c1) (c2 := c2) r env h hl
    have g : getE (setE (setE env 7 (.str x)) 8 e.d) 7 = some (.str x) := by
      match env, hl with
      | [_, _, _, _, _, _, _, _, _], _ => rfl
    have one : turnL (asg P c1 c2 (.tup (.cons (.var 7) (.cons (.var 8) .nil)))) (evAll P c1 c2 .nil) (evE P c1 c2 (.var 7)) env (.tup [.str x, e.d]) h = some (some (.str x), h) := by
      simp only [turnL, asg, asgs, evAll, e_var, g]
    exact cmp_some rfl one ih
section
variable {P : Prg} (H : HasScan P)
include H
theorem par_loop (d : Nat) {c2 : Fs} (p : Path) (x1 : Option D) : ∀ (ns : List Str) (s : Sc) (o : Option D), s.sz + ns.length ≤ 1000000 →
    ∃ o', forL (fun h => stay h none) (turnG (asg P (call P (d + 1)) c2 (.var 3)) (evSs P (call P (d + 1)) c2 parB)) (nms ns) [some (.ref 0), x1, some (pD p), o] (hP s) = some (.nx, [some (.ref 0), x1, some (pD p), o'], hP (s.par p ns))
  | [], s, o, hz => ⟨o, by simp [nms, for_nil, stay0, Sc.par]⟩
  | n :: l, s, o, hz => by
    have hz' : s.sz + 1 ≤ 1000000 := by simp at hz; omega
    have m := men_run H d (s := s) p n "parameter" hz'
    have z1 := (Nat.le_refl ((s.men ⟨p, n, "parameter", p, none⟩).sz))
    have z2 : (s.men ⟨p, n, "parameter", p, none⟩).sz = s.sz + 1 := by simp [Sc.men, Sc.sz]; omega
    obtain ⟨o', e⟩ := par_loop d p x1 l (s.men ⟨p, n, "parameter", p, none⟩) (some (.str n)) (by rw [z2]; simp at hz; omega)
    refine ⟨o', ?_⟩
    have one : turnG (asg P (call P (d + 1)) c2 (.var 3)) (evSs P (call P (d + 1)) c2 parB) (.str n) [some (.ref 0), x1, some (pD p), o] (hP s) = some (.nx, [some (.ref 0), x1, some (pD p), some (.str n)], hP (s.men ⟨p, n, "parameter", p, none⟩)) := by
      simp [turnG, parB, evSs, s_asg, s_par, s_aug, s_augS, s_exp, s_ret, s_retN, s_iff, s_pass, s_brk, s_cnt, e_var, e_non, e_bl, e_int, e_str, e_glo, e_bin, e_neg, e_cmp, e_and, e_or, e_ite, e_tup, e_lst, e_dic, e_idx, e_sl, e_call, e_blt, e_bm, e_isi, evT, evEs, evP, evKV, evAll, evAny, evAnd, evOr, asg, asgs, getE, setE, noneL, mP5, mcl, m]
    rw [nms, List.map_cons, for_cons rfl one, ← nms, e, sp_ns]
theorem par_run (d : Nat) (s : Sc) (p : Path) (ns : List Str) (hz : s.sz + ns.length ≤ 1000000) : call P (d + 2) 8 [.ref 0, .tup (nms ns), pD p] (hP s) = some (.non, hP (s.par p ns)) := by
  obtain ⟨o', e⟩ := par_loop H d (c2 := (calls P (d + 1)).2) p (some (.tup (nms ns))) ns s none hz
  have e2 : evS P (call P (d + 1)) (calls P (d + 1)).2 (.for_ (.var 3) (.of (.var 1)) parB) [some (.ref 0), some (.tup (nms ns)), some (pD p), none] (hP s) = some (.nx, [some (.ref 0), some (.tup (nms ns)), some (pD p), o'], hP (s.par p ns)) := by
    rw [s_for]
    simp only [i_of, e_var, getE, walkOf]
    exact e
  unfold parB at e2
  rw [call_f H.f8]
  simp [B8, evSs, s_asg, s_par, s_aug, s_augS, s_exp, s_ret, s_retN, s_iff, s_pass, s_brk, s_cnt, e_var, e_non, e_bl, e_int, e_str, e_glo, e_bin, e_neg, e_cmp, e_and, e_or, e_ite, e_tup, e_lst, e_dic, e_idx, e_sl, e_call, e_blt, e_bm, e_isi, evT, evEs, evP, evKV, evAll, evAny, evAnd, evOr, asg, asgs, getE, setE, noneL, e2]
end
end Sy
end
section
set_option Elab.async false
set_option linter.all false
set_option maxRecDepth 100000
set_option maxHeartbeats 4000000
/-! Sy5: exprs by Scan.read_expr. -/
namespace Sy
open PySem (Str)
open Ev
open Ev (E Es Ks C Cs T Ts S Ss)

theorem set_last {b : List D} {k i : List (D × D)} {m se : List D} {t : List (D × D)} {w ho : List D} {x v : D} : setD (.ref 5) (.int (-1)) v (hh b k i m (se ++ [x]) t w ho) = some (hh b k i m (se ++ [v]) t w ho) := by
  have e : ixN (se.length + 1) (-1) = some se.length := by
    unfold ixN
    rw [if_neg (by decide), if_pos (by omega)]
    congr 1
    omega
  simp [setD, g5, s5, e]
theorem add_t (x : D) (xs : List D) (h : Mm) (k : xs.length + 1 ≤ 1000000) : binD .add true (.tup [x]) (.tup xs) h = some (.tup (x :: xs), h) := by
  have : Nat.ble (1 + xs.length) most = true := ble_m (by omega)
  simp only [binD, List.length_cons, List.length_nil, Nat.zero_add, this, cond_true, List.cons_append, List.nil_append]
theorem Cl.len : ∀ cs : Cl, cs.l.length ≤ cs.z
  | .nil => Nat.le_refl _
  | .cons _ e r => by
    have := Cl.len r
    simp [Cl.l, Cl.z]; omega
section
variable {P : Prg} (H : HasScan P)
include H
theorem list_pre (d : Nat) {s : Sc} (g : Gd s) {p : Path} (hp : p ∈ s.keys) (ns : List Str) (hz : s.sz + 2 ≤ 1000000) : setD (.ref 6) (pD (s.new p "list").1) (tgD ns) (hP (s.new p "list").2) = some (hP ((s.new p "list").2.tgt (s.new p "list").1 ns)) := by
  have g2 := g.new hp "list"
  have e6 : (hP (s.new p "list").2).get 6 = some (.dic true (kv tgD s.tg)) := rfl
  have fr : (s.new p "list").1 ∉ s.tg.map Prod.fst := fun h => g.fresh p (g.tk _ h)
  rw [set_k e6 (by unfold Sc.sz at hz; omega), put_new tgD (lk_none _ _ fr)]
  rfl
mutual
theorem ex_run : ∀ (e : Ex) (b : Bool) (p : Path) (s : Sc) (d : Nat), Gd s → p ∈ s.keys → e.dp + 3 ≤ d → p.length + e.dp ≤ 190 → s.sz + e.z ≤ 1000000 →
    call P d 9 [.ref 0, e.d, pD p, .bl b] (hP s) = some (.non, hP (e.sc b p s))
  | .num i, b, p, s, d + 1, g, hp, hd, hl, hz => by
    rw [call_f H.f9]
    simp [B9, evSs, s_asg, s_par, s_aug, s_augS, s_exp, s_ret, s_retN, s_iff, s_pass, s_brk, s_cnt, e_var, e_non, e_bl, e_int, e_str, e_glo, e_bin, e_neg, e_cmp, e_and, e_or, e_ite, e_tup, e_lst, e_dic, e_idx, e_sl, e_call, e_blt, e_bm, e_isi, evT, evEs, evP, evKV, evAll, evAny, evAnd, evOr, asg, asgs, getE, setE, noneL, Ex.d, isiD, tru, Ex.sc]
  | .nam x, b, p, s, d + 2, g, hp, hd, hl, hz => by
    have m := men_run H d (s := s) p x "read" (by simp [Ex.z] at hz; omega)
    rw [call_f H.f9]
    simp [B9, evSs, s_asg, s_par, s_aug, s_augS, s_exp, s_ret, s_retN, s_iff, s_pass, s_brk, s_cnt, e_var, e_non, e_bl, e_int, e_str, e_glo, e_bin, e_neg, e_cmp, e_and, e_or, e_ite, e_tup, e_lst, e_dic, e_idx, e_sl, e_call, e_blt, e_bm, e_isi, evT, evEs, evP, evKV, evAll, evAny, evAnd, evOr, asg, asgs, getE, setE, noneL, Ex.d, isiD, tru, Ex.sc, idxD, dictOf, seqOf, atL, ixN, nthL, cmpD, eqM, scl2, scl, eqD, str_inj, mP5, mcl, m]
  | .cal f as, b, p, s, d + 1, g, hp, hd, hl, hz => by
    simp only [Ex.dp, Ex.z] at hd hl hz
    have k1 := Ex.kp f b p s g hp
    have r1 := ex_run f b p s d g hp (by omega) (by omega) (by omega)
    obtain ⟨o, r2⟩ := exs_run as b p (f.sc b p s) d ((calls P d).2) (some (Ex.cal f as).d) (some (.str "call")) (some f.d) none k1.g (k1.k p hp) (by omega) (by omega) (by have := k1.z; omega)
    have la := Exs.len as
    have lf := Ex.zp f
    have one : turnG (asg P (call P d) (calls P d).2 (.var 5)) (evSs P (call P d) (calls P d).2 callB) f.d [some (.ref 0), some (Ex.cal f as).d, some (pD p), some (.bl b), some (.str "call"), none, none] (hP s) = some (.nx, [some (.ref 0), some (Ex.cal f as).d, some (pD p), some (.bl b), some (.str "call"), some f.d, none], hP (f.sc b p s)) := by
      simp [turnG, callB, evSs, s_asg, s_par, s_aug, s_augS, s_exp, s_ret, s_retN, s_iff, s_pass, s_brk, s_cnt, e_var, e_non, e_bl, e_int, e_str, e_glo, e_bin, e_neg, e_cmp, e_and, e_or, e_ite, e_tup, e_lst, e_dic, e_idx, e_sl, e_call, e_blt, e_bm, e_isi, evT, evEs, evP, evKV, evAll, evAny, evAnd, evOr, asg, asgs, getE, setE, noneL, mP9, mcl, r1]
    have e2 : evS P (call P d) (calls P d).2 (.for_ (.var 5) (.of (.bin .add true (.tup (.cons (.idx (.var 1) (.int 1)) .nil)) (.idx (.var 1) (.int 2)))) callB) [some (.ref 0), some (Ex.cal f as).d, some (pD p), some (.bl b), some (.str "call"), none, none] (hP s) =
        some (.nx, [some (.ref 0), some (Ex.cal f as).d, some (pD p), some (.bl b), some (.str "call"), o, none], hP ((Ex.cal f as).sc b p s)) := by
      rw [s_for]
      have : evI P (call P d) (calls P d).2 (.of (.bin .add true (.tup (.cons (.idx (.var 1) (.int 1)) .nil)) (.idx (.var 1) (.int 2)))) [some (.ref 0), some (Ex.cal f as).d, some (pD p), some (.bl b), some (.str "call"), none, none] (hP s) = some (f.d :: as.l, none, hP s) := by
        simp [i_of, evSs, s_asg, s_par, s_aug, s_augS, s_exp, s_ret, s_retN, s_iff, s_pass, s_brk, s_cnt, e_var, e_non, e_bl, e_int, e_str, e_glo, e_bin, e_neg, e_cmp, e_and, e_or, e_ite, e_tup, e_lst, e_dic, e_idx, e_sl, e_call, e_blt, e_bm, e_isi, evT, evEs, evP, evKV, evAll, evAny, evAnd, evOr, asg, asgs, getE, setE, noneL, Ex.d, idxD, dictOf, seqOf, atL, ixN, nthL, tb1, add_t f.d as.l (hP s) (by omega), walkOf]
      rw [this]
      show forL _ _ _ _ _ = _
      rw [for_cons rfl one]
      exact r2
    rw [call_f H.f9]
    unfold callB at e2
    simp only [Ex.d] at e2 ⊢
    simp [B9, evSs, s_asg, s_par, s_aug, s_augS, s_exp, s_ret, s_retN, s_iff, s_pass, s_brk, s_cnt, e_var, e_non, e_bl, e_int, e_str, e_glo, e_bin, e_neg, e_cmp, e_and, e_or, e_ite, e_tup, e_lst, e_dic, e_idx, e_sl, e_call, e_blt, e_bm, e_isi, evT, evEs, evP, evKV, evAll, evAny, evAnd, evOr, asg, asgs, getE, setE, noneL, isiD, tru, idxD, dictOf, seqOf, atL, ixN, nthL, cmpD, eqM, scl2, scl, eqD, str_inj, e2]
  | .lam ns e, b, p, s, d + 3, g, hp, hd, hl, hz => by
    simp only [Ex.dp, Ex.z] at hd hl hz
    have n1 := new_run H d g hp "lambda" (by omega) (by omega)
    have k1 := Kp.new g hp "lambda"
    have p1 := par_run H d (s.new p "lambda").2 (s.new p "lambda").1 ns (by have := k1.z; omega)
    have k2 := Kp.par k1.g (s.new p "lambda").1 ns
    have r1 := ex_run e b (s.new p "lambda").1 _ (d + 2) k2.g (new_in s p "lambda") (by omega) (by simp [Sc.new]; omega) (by have := k1.z; have := k2.z; omega)
    generalize hq : (s.new p "lambda").1 = q at *
    generalize hs : (s.new p "lambda").2 = s' at *
    rw [call_f H.f9]
    simp [B9, evSs, s_asg, s_par, s_aug, s_augS, s_exp, s_ret, s_retN, s_iff, s_pass, s_brk, s_cnt, e_var, e_non, e_bl, e_int, e_str, e_glo, e_bin, e_neg, e_cmp, e_and, e_or, e_ite, e_tup, e_lst, e_dic, e_idx, e_sl, e_call, e_blt, e_bm, e_isi, evT, evEs, evP, evKV, evAll, evAny, evAnd, evOr, asg, asgs, getE, setE, noneL, Ex.d, isiD, tru, Ex.sc, idxD, dictOf, seqOf, atL, ixN, nthL, cmpD, eqM, scl2, scl, eqD, str_inj, mP3, mP8, mP9, mcl, n1, p1, r1, hq, hs]
  | .wal x e, b, p, s, d + 2, g, hp, hd, hl, hz => by
    simp only [Ex.dp, Ex.z] at hd hl hz
    have k1 := Kp.men g ⟨p, x, "write", s.seat p, some b⟩
    have r1 := ex_run e b p _ (d + 1) k1.g hp (by omega) (by omega) (by have := k1.z; omega)
    have h1 : s.ms.length + 1 ≤ 1000000 := by unfold Sc.sz at hz; omega
    have h2 : (walr 0 s.ms).length + 1 ≤ 1000000 := Nat.le_trans (Nat.succ_le_succ (walr_len 0 s.ms)) h1
    have m1 := men_D H d (p := pD p) (n := .str x) (r := .str "write") (b := s.bs.map bk) (k := kv .str s.bs) (i := kv iD s.cn) (m := s.ms.map m3) (se := s.ms.map fun m => pD m.s) (t := kv tgD s.tg) (w := walr 0 s.ms ++ [.tup [.int (s.ms.length : Int), .bl b]]) (ho := s.hl.map pD) (by simpa using h1) (by simpa using h1)
    have st := seat_run H d g hp (by omega) (b := s.bs.map bk) (i := kv iD s.cn) (m := s.ms.map m3 ++ [.tup [pD p, .str x, .str "write"]]) (se := (s.ms.map fun m => pD m.s) ++ [pD p]) (t := kv tgD s.tg) (w := walr 0 s.ms ++ [.tup [.int (s.ms.length : Int), .bl b]]) (ho := s.hl.map pD)
    have fin : hh (s.bs.map bk) (kv .str s.bs) (kv iD s.cn) (s.ms.map m3 ++ [.tup [pD p, .str x, .str "write"]]) ((s.ms.map fun m => pD m.s) ++ [pD (s.seat p)]) (kv tgD s.tg) (walr 0 s.ms ++ [.tup [.int (s.ms.length : Int), .bl b]]) (s.hl.map pD) = hP (s.men ⟨p, x, "write", s.seat p, some b⟩) := by
      have := walr_some 0 s.ms ⟨p, x, "write", s.seat p, some b⟩ b rfl
      simp [hP, Sc.men, m3, this]
    have f7 := fl7 H (c1 := call P (d + 1)) (c2 := (calls P (d + 1)).2) (r := [some (Ex.wal x e).d, some (pD p), some (.bl b), some (.str "walrus"), none, none]) (b := s.bs.map bk) (k := kv .str s.bs) (i := kv iD s.cn) (m := s.ms.map m3) (se := s.ms.map fun m => pD m.s) (t := kv tgD s.tg) (w := walr 0 s.ms) (ho := s.hl.map pD)
    have wb := ble_m h2
    simp only [Ex.d] at f7
    rw [call_f H.f9, hP]
    simp [B9, evSs, s_asg, s_par, s_aug, s_augS, s_exp, s_ret, s_retN, s_iff, s_pass, s_brk, s_cnt, e_var, e_non, e_bl, e_int, e_str, e_glo, e_bin, e_neg, e_cmp, e_and, e_or, e_ite, e_tup, e_lst, e_dic, e_idx, e_sl, e_call, e_blt, e_bm, e_isi, evT, evEs, evP, evKV, evAll, evAny, evAnd, evOr, asg, asgs, getE, setE, noneL, Ex.d, isiD, tru, Ex.sc, idxD, dictOf, seqOf, atL, ixN, nthL, cmpD, eqM, scl2, scl, eqD, str_inj, f7, fl4 H, bltD, bmTy, bmD, g4, g7, s7, wb, tb2, tb1, me5, mcl, m1, me4, st, fl5 H, set_last, fin, mP9, r1]
  | .lst e cs, b, p, s, d, g, hp, hd, hl, hz => by
    simp only [Ex.dp, Ex.z] at hd hl hz
    obtain ⟨d, rfl⟩ : ∃ k, d = k + 4 := ⟨d - 4, by omega⟩
    have n1 := new_run H d g hp "list" (by omega) (by omega)
    have k1 := Kp.new g hp "list"
    have t1 := list_pre H d g hp cs.names (by omega)
    have k2 := k1.trans (Kp.tgt k1.g (new_in s p "list") cs.names) (Nat.le_refl _)
    have hq : (s.new p "list").1 ∈ ((s.new p "list").2.tgt (s.new p "list").1 cs.names).keys := new_in ..
    have r1 := ex_run e b (s.new p "list").1 _ (d + 2) k2.g hq (by omega) (by simp [Sc.new]; omega) (by have := k2.z; omega)
    have k3 := Ex.kp e b (s.new p "list").1 _ k2.g hq
    obtain ⟨o6, o7, o8, r2⟩ := cl_run cs p (s.new p "list").1 _ (d + 2) ((calls P (d + 2)).2) (some e.d) (some (.tup cs.l)) (some (pD p)) (some (.bl b)) none none k3.g (k3.k p (k2.k p hp)) (k3.k _ hq) (by omega) (by omega) (by simp [Sc.new]; omega) (by have := k2.z; have := k3.z; omega)
    have l1 : call P (d + 3) 10 [.ref 0, e.d, .tup cs.l, pD p, .bl b] (hP s) = some (.non, hP ((Ex.lst e cs).sc b p s)) := by
      have cc : evE P (call P (d + 2)) (calls P (d + 2)).2 (.comp true [7, 8] (.var 7) (.tup (.cons (.var 7) (.cons (.var 8) .nil))) (.of (.var 2)) .nil) [some (.ref 0), some e.d, some (.tup cs.l), some (pD p), some (.bl b), some (pD (s.new p "list").1), none, none, none] (hP (s.new p "list").2) = some (tgD cs.names, hP (s.new p "list").2) := by
        rw [e_comp]
        simp only [i_of, e_var, getE, walkOf]
        rw [names_c cs _ _ rfl]
        have lb := ble_m (Nat.le_trans (Cl.len cs) (by omega : cs.z ≤ 1000000))
        simp only [lb, cond_true, mkO, O.d, tgD]
      have e2 : evS P (call P (d + 2)) (calls P (d + 2)).2 (.for_ (.tup (.cons (.var 7) (.cons (.var 8) .nil))) (.of (.var 2)) clB) [some (.ref 0), some e.d, some (.tup cs.l), some (pD p), some (.bl b), some (pD (s.new p "list").1), some (pD p), none, none] (hP (e.sc b (s.new p "list").1 ((s.new p "list").2.tgt (s.new p "list").1 cs.names))) =
          some (.nx, [some (.ref 0), some e.d, some (.tup cs.l), some (pD p), some (.bl b), some (pD (s.new p "list").1), o6, o7, o8], hP ((Ex.lst e cs).sc b p s)) := by
        rw [s_for]
        simp only [i_of, e_var, getE, walkOf]
        exact r2
      unfold clB at e2
      generalize hq : (s.new p "list").1 = q at *
      generalize hs : (s.new p "list").2 = s' at *
      rw [call_f H.f10]
      simp [B10, evSs, s_asg, s_par, s_aug, s_augS, s_exp, s_ret, s_retN, s_iff, s_pass, s_brk, s_cnt, e_var, e_non, e_bl, e_int, e_str, e_glo, e_bin, e_neg, e_cmp, e_and, e_or, e_ite, e_tup, e_lst, e_dic, e_idx, e_sl, e_call, e_blt, e_bm, e_isi, evT, evEs, evP, evKV, evAll, evAny, evAnd, evOr, asg, asgs, getE, setE, noneL, mP3, mP9, fP6 H, mcl, n1, cc, t1, r1, e2, hq, hs]
    rw [call_f H.f9]
    simp [B9, evSs, s_asg, s_par, s_aug, s_augS, s_exp, s_ret, s_retN, s_iff, s_pass, s_brk, s_cnt, e_var, e_non, e_bl, e_int, e_str, e_glo, e_bin, e_neg, e_cmp, e_and, e_or, e_ite, e_tup, e_lst, e_dic, e_idx, e_sl, e_call, e_blt, e_bm, e_isi, evT, evEs, evP, evKV, evAll, evAny, evAnd, evOr, asg, asgs, getE, setE, noneL, Ex.d, isiD, tru, idxD, dictOf, seqOf, atL, ixN, nthL, cmpD, eqM, scl2, scl, eqD, str_inj, mP10, mcl, l1]
theorem exs_run : ∀ (as : Exs) (b : Bool) (p : Path) (s : Sc) (d : Nat) (c2 : Fs) (x1 x4 o x6 : Option D), Gd s → p ∈ s.keys → as.dp + 3 ≤ d → p.length + as.dp ≤ 190 → s.sz + as.z ≤ 1000000 →
    ∃ o', forL (fun h => stay h none) (turnG (asg P (call P d) c2 (.var 5)) (evSs P (call P d) c2 callB)) as.l [some (.ref 0), x1, some (pD p), some (.bl b), x4, o, x6] (hP s) = some (.nx, [some (.ref 0), x1, some (pD p), some (.bl b), x4, o', x6], hP (as.sc b p s))
  | .nil, b, p, s, d, c2, x1, x4, o, x6, g, hp, hd, hl, hz => ⟨o, for_nil rfl⟩
  | .cons e r, b, p, s, d, c2, x1, x4, o, x6, g, hp, hd, hl, hz => by
    simp only [Exs.dp, Exs.z] at hd hl hz
    have k1 := Ex.kp e b p s g hp
    have r1 := ex_run e b p s d g hp (by omega) (by omega) (by omega)
    obtain ⟨o', r2⟩ := exs_run r b p (e.sc b p s) d c2 x1 x4 (some e.d) x6 k1.g (k1.k p hp) (by omega) (by omega) (by have := k1.z; omega)
    refine ⟨o', ?_⟩
    have one : turnG (asg P (call P d) c2 (.var 5)) (evSs P (call P d) c2 callB) e.d [some (.ref 0), x1, some (pD p), some (.bl b), x4, o, x6] (hP s) = some (.nx, [some (.ref 0), x1, some (pD p), some (.bl b), x4, some e.d, x6], hP (e.sc b p s)) := by
      simp [turnG, callB, evSs, s_asg, s_par, s_aug, s_augS, s_exp, s_ret, s_retN, s_iff, s_pass, s_brk, s_cnt, e_var, e_non, e_bl, e_int, e_str, e_glo, e_bin, e_neg, e_cmp, e_and, e_or, e_ite, e_tup, e_lst, e_dic, e_idx, e_sl, e_call, e_blt, e_bm, e_isi, evT, evEs, evP, evKV, evAll, evAny, evAnd, evOr, asg, asgs, getE, setE, noneL, mP9, mcl, r1]
    rw [Exs.l, for_cons rfl one]
    exact r2
theorem cl_run : ∀ (cs : Cl) (p q : Path) (s : Sc) (d : Nat) (c2 : Fs) (x1 x2 x3 x4 o7 o8 : Option D), Gd s → p ∈ s.keys → q ∈ s.keys → cs.dp + 3 ≤ d → p.length + cs.dp ≤ 190 → q.length + cs.dp ≤ 190 → s.sz + cs.z ≤ 1000000 →
    ∃ o6' o7' o8', forL (fun h => stay h none) (turnG (asg P (call P d) c2 (.tup (.cons (.var 7) (.cons (.var 8) .nil)))) (evSs P (call P d) c2 clB)) cs.l [some (.ref 0), x1, x2, x3, x4, some (pD q), some (pD p), o7, o8] (hP s) = some (.nx, [some (.ref 0), x1, x2, x3, x4, some (pD q), o6', o7', o8'], hP (cs.sc p q s))
  | .nil, p, q, s, d, c2, x1, x2, x3, x4, o7, o8, g, hp, hq, hd, hl, hl2, hz => ⟨_, o7, o8, for_nil rfl⟩
  | .cons x e r, p, q, s, d + 1, c2, x1, x2, x3, x4, o7, o8, g, hp, hq, hd, hl, hl2, hz => by
    simp only [Cl.dp, Cl.z] at hd hl hl2 hz
    have m := men_run H d (s := s) q x "write" (by omega)
    have k0 := Kp.men g ⟨q, x, "write", q, none⟩
    have r1 := ex_run e true p _ (d + 1) k0.g hp (by omega) (by omega) (by have := k0.z; omega)
    have k1 := Ex.kp e true p _ k0.g hp
    obtain ⟨o6', o7', o8', r2⟩ := cl_run r q q _ (d + 1) c2 x1 x2 x3 x4 (some (.str x)) (some e.d) k1.g (k1.k q hq) (k1.k q hq) (by omega) (by omega) (by omega) (by have := k0.z; have := k1.z; omega)
    refine ⟨o6', o7', o8', ?_⟩
    have one : turnG (asg P (call P (d + 1)) c2 (.tup (.cons (.var 7) (.cons (.var 8) .nil)))) (evSs P (call P (d + 1)) c2 clB) (.tup [.str x, e.d]) [some (.ref 0), x1, x2, x3, x4, some (pD q), some (pD p), o7, o8] (hP s) = some (.nx, [some (.ref 0), x1, x2, x3, x4, some (pD q), some (pD q), some (.str x), some e.d], hP (e.sc true p (s.men ⟨q, x, "write", q, none⟩))) := by
      simp [turnG, clB, evSs, s_asg, s_par, s_aug, s_augS, s_exp, s_ret, s_retN, s_iff, s_pass, s_brk, s_cnt, e_var, e_non, e_bl, e_int, e_str, e_glo, e_bin, e_neg, e_cmp, e_and, e_or, e_ite, e_tup, e_lst, e_dic, e_idx, e_sl, e_call, e_blt, e_bm, e_isi, evT, evEs, evP, evKV, evAll, evAny, evAnd, evOr, asg, asgs, getE, setE, noneL, mP5, mP9, mcl, m, r1]
    rw [Cl.l, for_cons rfl one]
    exact r2
end
end
end Sy
end
section
set_option Elab.async false
set_option linter.all false
set_option maxRecDepth 100000
set_option maxHeartbeats 4000000
/-! Sy6: rows by Scan.read_rows; Scan(program). -/
namespace Sy
open PySem (Str)
open Ev
open Ev (E Es Ks C Cs T Ts S Ss)

theorem Rw.zp : ∀ r : Rw, 0 ≤ r.z := fun _ => Nat.zero_le _
section
variable {P : Prg} (H : HasScan P)
include H
mutual
theorem rw_run : ∀ (e : Rw) (p : Path) (s : Sc) (d : Nat), Gd s → p ∈ s.keys → e.dp + 3 ≤ d → p.length + e.dp ≤ 190 → s.sz + e.z ≤ 1000000 →
    call P d 7 [.ref 0, e.d, pD p] (hP s) = some (.non, hP (e.sc p s))
  | .set x e, p, s, d, g, hp, hd, hl, hz => by
    simp only [Rw.dp, Rw.z] at hd hl hz
    obtain ⟨d, rfl⟩ : ∃ k, d = k + 2 := ⟨d - 2, by omega⟩
    have m := men_run H d (s := s) p x "write" (by omega)
    have k0 := Kp.men g ⟨p, x, "write", p, none⟩
    have r1 := ex_run H e false p _ (d + 1) k0.g hp (by omega) (by omega) (by have := k0.z; omega)
    rw [call_f H.f7]
    simp [B7, evSs, s_asg, s_par, s_aug, s_augS, s_exp, s_ret, s_retN, s_iff, s_pass, s_brk, s_cnt, e_var, e_non, e_bl, e_int, e_str, e_glo, e_bin, e_neg, e_cmp, e_and, e_or, e_ite, e_tup, e_lst, e_dic, e_idx, e_sl, e_call, e_blt, e_bm, e_isi, evT, evEs, evP, evKV, evAll, evAny, evAnd, evOr, asg, asgs, getE, setE, noneL, Rw.d, d_ROLES, r_ROLES, lkF, tru, Rw.sc, idxD, dictOf, seqOf, atL, ixN, nthL, cmpD, eqM, scl2, scl, allScl, anyEq, inD, eqD, str_inj, bmTy, bmD, mP5, mP9, mcl, m, r1, tb2]
  | .del x, p, s, d, g, hp, hd, hl, hz => by
    simp only [Rw.dp, Rw.z] at hd hl hz
    obtain ⟨d, rfl⟩ : ∃ k, d = k + 2 := ⟨d - 2, by omega⟩
    have m := men_run H d (s := s) p x "delete" (by omega)
    rw [call_f H.f7]
    simp [B7, evSs, s_asg, s_par, s_aug, s_augS, s_exp, s_ret, s_retN, s_iff, s_pass, s_brk, s_cnt, e_var, e_non, e_bl, e_int, e_str, e_glo, e_bin, e_neg, e_cmp, e_and, e_or, e_ite, e_tup, e_lst, e_dic, e_idx, e_sl, e_call, e_blt, e_bm, e_isi, evT, evEs, evP, evKV, evAll, evAny, evAnd, evOr, asg, asgs, getE, setE, noneL, Rw.d, d_ROLES, r_ROLES, lkF, tru, Rw.sc, idxD, dictOf, seqOf, atL, ixN, nthL, cmpD, eqM, scl2, scl, allScl, anyEq, inD, eqD, str_inj, bmTy, bmD, mP5, mcl, m, tb2]
  | .glb x, p, s, d, g, hp, hd, hl, hz => by
    simp only [Rw.dp, Rw.z] at hd hl hz
    obtain ⟨d, rfl⟩ : ∃ k, d = k + 2 := ⟨d - 2, by omega⟩
    have m := men_run H d (s := s) p x "global" (by omega)
    rw [call_f H.f7]
    simp [B7, evSs, s_asg, s_par, s_aug, s_augS, s_exp, s_ret, s_retN, s_iff, s_pass, s_brk, s_cnt, e_var, e_non, e_bl, e_int, e_str, e_glo, e_bin, e_neg, e_cmp, e_and, e_or, e_ite, e_tup, e_lst, e_dic, e_idx, e_sl, e_call, e_blt, e_bm, e_isi, evT, evEs, evP, evKV, evAll, evAny, evAnd, evOr, asg, asgs, getE, setE, noneL, Rw.d, d_ROLES, r_ROLES, lkF, tru, Rw.sc, idxD, dictOf, seqOf, atL, ixN, nthL, cmpD, eqM, scl2, scl, allScl, anyEq, inD, eqD, str_inj, bmTy, bmD, mP5, mcl, m, tb2]
  | .nln x, p, s, d, g, hp, hd, hl, hz => by
    simp only [Rw.dp, Rw.z] at hd hl hz
    obtain ⟨d, rfl⟩ : ∃ k, d = k + 2 := ⟨d - 2, by omega⟩
    have m := men_run H d (s := s) p x "nonlocal" (by omega)
    rw [call_f H.f7]
    simp [B7, evSs, s_asg, s_par, s_aug, s_augS, s_exp, s_ret, s_retN, s_iff, s_pass, s_brk, s_cnt, e_var, e_non, e_bl, e_int, e_str, e_glo, e_bin, e_neg, e_cmp, e_and, e_or, e_ite, e_tup, e_lst, e_dic, e_idx, e_sl, e_call, e_blt, e_bm, e_isi, evT, evEs, evP, evKV, evAll, evAny, evAnd, evOr, asg, asgs, getE, setE, noneL, Rw.d, d_ROLES, r_ROLES, lkF, tru, Rw.sc, idxD, dictOf, seqOf, atL, ixN, nthL, cmpD, eqM, scl2, scl, allScl, anyEq, inD, eqD, str_inj, bmTy, bmD, mP5, mcl, m, tb2]
  | .hole, p, s, d, g, hp, hd, hl, hz => by
    simp only [Rw.dp, Rw.z] at hd hl hz
    obtain ⟨d, rfl⟩ : ∃ k, d = k + 2 := ⟨d - 2, by omega⟩
    have hb : Nat.ble ((s.hl.map pD).length + 1) most = true := ble_m (by unfold Sc.sz at hz; simp; omega)
    have e8 : (hP s).get 8 = some (.lst (s.hl.map pD)) := rfl
    have fin : (hP s).set 8 (.lst (s.hl.map pD ++ [pD p])) = hP (s.hole p) := by simp [hP, s8, Sc.hole]
    rw [call_f H.f7]
    simp only [List.length_map] at hb
    simp [B7, evSs, s_asg, s_par, s_aug, s_augS, s_exp, s_ret, s_retN, s_iff, s_pass, s_brk, s_cnt, e_var, e_non, e_bl, e_int, e_str, e_glo, e_bin, e_neg, e_cmp, e_and, e_or, e_ite, e_tup, e_lst, e_dic, e_idx, e_sl, e_call, e_blt, e_bm, e_isi, evT, evEs, evP, evKV, evAll, evAny, evAnd, evOr, asg, asgs, getE, setE, noneL, Rw.d, tru, Rw.sc, idxD, dictOf, seqOf, atL, ixN, nthL, cmpD, eqM, scl2, scl, eqD, str_inj, bmTy, bmD, fP8 H, e8, hb, fin]
  | .dfn x ns b, p, s, d, g, hp, hd, hl, hz => by
    simp only [Rw.dp, Rw.z] at hd hl hz
    obtain ⟨d, rfl⟩ : ∃ k, d = k + 3 := ⟨d - 3, by omega⟩
    have m := men_run H (d + 1) (s := s) p x "write" (by omega)
    have k0 := Kp.men g ⟨p, x, "write", p, none⟩
    have n1 := new_run H d k0.g hp "function" (by omega) (by have := k0.z; omega)
    have k1 := Kp.new k0.g hp "function"
    have p1 := par_run H d ((s.men ⟨p, x, "write", p, none⟩).new p "function").2 ((s.men ⟨p, x, "write", p, none⟩).new p "function").1 ns (by have := k0.z; have := k1.z; omega)
    have k2 := Kp.par k1.g ((s.men ⟨p, x, "write", p, none⟩).new p "function").1 ns
    have r1 := rws_run b ((s.men ⟨p, x, "write", p, none⟩).new p "function").1 _ (d + 2) k2.g (new_in (s.men ⟨p, x, "write", p, none⟩) p "function") (by omega) (by simp [Sc.new]; omega) (by have := k0.z; have := k1.z; have := k2.z; omega)
    rw [call_f H.f7]
    simp [B7, evSs, s_asg, s_par, s_aug, s_augS, s_exp, s_ret, s_retN, s_iff, s_pass, s_brk, s_cnt, e_var, e_non, e_bl, e_int, e_str, e_glo, e_bin, e_neg, e_cmp, e_and, e_or, e_ite, e_tup, e_lst, e_dic, e_idx, e_sl, e_call, e_blt, e_bm, e_isi, evT, evEs, evP, evKV, evAll, evAny, evAnd, evOr, asg, asgs, getE, setE, noneL, Rw.d, d_ROLES, r_ROLES, lkF, tru, Rw.sc, idxD, dictOf, seqOf, atL, ixN, nthL, cmpD, eqM, scl2, scl, allScl, anyEq, inD, eqD, str_inj, bmTy, bmD, mP5, mP3, mP8, mP6, mcl, m, n1, p1, r1, tb2]
  | .kls x b, p, s, d, g, hp, hd, hl, hz => by
    simp only [Rw.dp, Rw.z] at hd hl hz
    obtain ⟨d, rfl⟩ : ∃ k, d = k + 3 := ⟨d - 3, by omega⟩
    have m := men_run H (d + 1) (s := s) p x "write" (by omega)
    have k0 := Kp.men g ⟨p, x, "write", p, none⟩
    have n1 := new_run H d k0.g hp "class" (by omega) (by have := k0.z; omega)
    have k1 := Kp.new k0.g hp "class"
    have r1 := rws_run b ((s.men ⟨p, x, "write", p, none⟩).new p "class").1 _ (d + 2) k1.g (new_in (s.men ⟨p, x, "write", p, none⟩) p "class") (by omega) (by simp [Sc.new]; omega) (by have := k0.z; have := k1.z; omega)
    rw [call_f H.f7]
    simp [B7, evSs, s_asg, s_par, s_aug, s_augS, s_exp, s_ret, s_retN, s_iff, s_pass, s_brk, s_cnt, e_var, e_non, e_bl, e_int, e_str, e_glo, e_bin, e_neg, e_cmp, e_and, e_or, e_ite, e_tup, e_lst, e_dic, e_idx, e_sl, e_call, e_blt, e_bm, e_isi, evT, evEs, evP, evKV, evAll, evAny, evAnd, evOr, asg, asgs, getE, setE, noneL, Rw.d, d_ROLES, r_ROLES, lkF, tru, Rw.sc, idxD, dictOf, seqOf, atL, ixN, nthL, cmpD, eqM, scl2, scl, allScl, anyEq, inD, eqD, str_inj, bmTy, bmD, mP5, mP3, mP6, mcl, m, n1, r1, tb2]
  | .ret e, p, s, d, g, hp, hd, hl, hz => by
    simp only [Rw.dp, Rw.z] at hd hl hz
    obtain ⟨d, rfl⟩ : ∃ k, d = k + 2 := ⟨d - 2, by omega⟩
    have r1 := ex_run H e false p _ (d + 1) g hp (by omega) (by omega) (by omega)
    rw [call_f H.f7]
    simp [B7, evSs, s_asg, s_par, s_aug, s_augS, s_exp, s_ret, s_retN, s_iff, s_pass, s_brk, s_cnt, e_var, e_non, e_bl, e_int, e_str, e_glo, e_bin, e_neg, e_cmp, e_and, e_or, e_ite, e_tup, e_lst, e_dic, e_idx, e_sl, e_call, e_blt, e_bm, e_isi, evT, evEs, evP, evKV, evAll, evAny, evAnd, evOr, asg, asgs, getE, setE, noneL, Rw.d, tru, Rw.sc, idxD, dictOf, seqOf, atL, ixN, nthL, cmpD, eqM, scl2, scl, allScl, anyEq, inD, eqD, str_inj, mP9, mcl, r1, tb2]
  | .doo e, p, s, d, g, hp, hd, hl, hz => by
    simp only [Rw.dp, Rw.z] at hd hl hz
    obtain ⟨d, rfl⟩ : ∃ k, d = k + 2 := ⟨d - 2, by omega⟩
    have r1 := ex_run H e false p _ (d + 1) g hp (by omega) (by omega) (by omega)
    rw [call_f H.f7]
    simp [B7, evSs, s_asg, s_par, s_aug, s_augS, s_exp, s_ret, s_retN, s_iff, s_pass, s_brk, s_cnt, e_var, e_non, e_bl, e_int, e_str, e_glo, e_bin, e_neg, e_cmp, e_and, e_or, e_ite, e_tup, e_lst, e_dic, e_idx, e_sl, e_call, e_blt, e_bm, e_isi, evT, evEs, evP, evKV, evAll, evAny, evAnd, evOr, asg, asgs, getE, setE, noneL, Rw.d, tru, Rw.sc, idxD, dictOf, seqOf, atL, ixN, nthL, cmpD, eqM, scl2, scl, allScl, anyEq, inD, eqD, str_inj, mP9, mcl, r1, tb2]
theorem rws_loop : ∀ (l : Rws) (p : Path) (s : Sc) (d : Nat) (c2 : Fs) (x1 o : Option D), Gd s → p ∈ s.keys → l.dp + 2 ≤ d → p.length + l.dp ≤ 190 → s.sz + l.z ≤ 1000000 →
    ∃ o', forL (fun h => stay h none) (turnG (asg P (call P d) c2 (.var 3)) (evSs P (call P d) c2 rowB)) l.l [some (.ref 0), x1, some (pD p), o] (hP s) = some (.nx, [some (.ref 0), x1, some (pD p), o'], hP (l.sc p s))
  | .nil, p, s, d, c2, x1, o, g, hp, hd, hl, hz => ⟨o, for_nil rfl⟩
  | .cons r t, p, s, d, c2, x1, o, g, hp, hd, hl, hz => by
    simp only [Rws.dp, Rws.z] at hd hl hz
    have k1 := Rw.kp r p s g hp
    have r1 := rw_run r p s d g hp (by omega) (by omega) (by omega)
    obtain ⟨o', r2⟩ := rws_loop t p (r.sc p s) d c2 x1 (some r.d) k1.g (k1.k p hp) (by omega) (by omega) (by have := k1.z; omega)
    refine ⟨o', ?_⟩
    have one : turnG (asg P (call P d) c2 (.var 3)) (evSs P (call P d) c2 rowB) r.d [some (.ref 0), x1, some (pD p), o] (hP s) = some (.nx, [some (.ref 0), x1, some (pD p), some r.d], hP (r.sc p s)) := by
      simp [turnG, rowB, evSs, s_asg, s_par, s_aug, s_augS, s_exp, s_ret, s_retN, s_iff, s_pass, s_brk, s_cnt, e_var, e_non, e_bl, e_int, e_str, e_glo, e_bin, e_neg, e_cmp, e_and, e_or, e_ite, e_tup, e_lst, e_dic, e_idx, e_sl, e_call, e_blt, e_bm, e_isi, evT, evEs, evP, evKV, evAll, evAny, evAnd, evOr, asg, asgs, getE, setE, noneL, mP7, mcl, r1]
    rw [Rws.l, for_cons rfl one]
    exact r2
theorem rws_run : ∀ (l : Rws) (p : Path) (s : Sc) (d : Nat), Gd s → p ∈ s.keys → l.dp + 3 ≤ d → p.length + l.dp ≤ 190 → s.sz + l.z ≤ 1000000 →
    call P d 6 [.ref 0, .tup l.l, pD p] (hP s) = some (.non, hP (l.sc p s)) := fun l p s d g hp hd hl hz => by
    obtain ⟨d, rfl⟩ : ∃ k, d = k + 1 := ⟨d - 1, by omega⟩
    obtain ⟨o', e⟩ := rws_loop l p s d ((calls P d).2) (some (.tup l.l)) none g hp (by omega) hl hz
    have e2 : evS P (call P d) (calls P d).2 (.for_ (.var 3) (.of (.var 1)) rowB) [some (.ref 0), some (.tup l.l), some (pD p), none] (hP s) = some (.nx, [some (.ref 0), some (.tup l.l), some (pD p), o'], hP (l.sc p s)) := by
      rw [s_for]
      simp only [i_of, e_var, getE, walkOf]
      exact e
    unfold rowB at e2
    rw [call_f H.f6]
    simp [B6, evSs, s_asg, s_par, s_aug, s_augS, s_exp, s_ret, s_retN, s_iff, s_pass, s_brk, s_cnt, e_var, e_non, e_bl, e_int, e_str, e_glo, e_bin, e_neg, e_cmp, e_and, e_or, e_ite, e_tup, e_lst, e_dic, e_idx, e_sl, e_call, e_blt, e_bm, e_isi, evT, evEs, evP, evKV, evAll, evAny, evAnd, evOr, asg, asgs, getE, setE, noneL, e2]
end
end
end Sy
end
section
set_option Elab.async false
set_option linter.all false
set_option maxRecDepth 100000
set_option maxHeartbeats 4000000
/-! Sy7: Scan(program), blocks(program), mentions(program). -/
namespace Sy
open PySem (Str)
open Ev
open Ev (E Es Ks C Cs T Ts S Ss)

theorem pure_pD (p : Path) : pureD (pD p) = true := by
  have : ∀ p : Path, pureL (p.map fun i : Nat => D.int (i : Int)) = true := fun p => by
    induction p with
    | nil => rfl
    | cons i r ih => simp [pureL, pureD, ih]
  simp [pD, pureD, this]
theorem pureL_map {α : Type} {f : α → D} (h : ∀ a, pureD (f a) = true) : ∀ l : List α, pureL (l.map f) = true
  | [] => rfl
  | a :: r => by simp [pureL, h a, pureL_map h r]
theorem pureL_app : ∀ (l m : List D), pureL (l ++ m) = (pureL l && pureL m)
  | [], m => rfl
  | a :: r, m => by simp [pureL, pureL_app r m, Bool.and_assoc]
theorem frz_pure {k : Nat} {h : Mm} {d : D} (e : pureD d = true) : frz k h d = some d := by
  cases k <;> simp [frz, e]
theorem mapO_frz {k : Nat} {h : Mm} : ∀ {l : List D}, pureL l = true → mapO (frz k h) l = some l
  | [], _ => rfl
  | d :: r, e => by
    simp only [pureL, Bool.and_eq_true] at e
    simp only [mapO, frz_pure e.1, mapO_frz e.2]
theorem frz_lst {k n : Nat} {h : Mm} {l : List D} (e : h.get n = some (.lst l)) (p : pureL l = true) : frz (k + 1) h (.ref n) = some (.lst l) := by
  simp only [frz, pureD, cond_false, e, mapO_frz p, Option.map_some]
mutual
theorem Ex.pure : ∀ e : Ex, pureD e.d = true
  | .num _ => rfl
  | .nam _ => rfl
  | .cal f as => by simp [Ex.d, pureD, pureL, Ex.pure f, Exs.pure as]
  | .lam ns e => by simp [Ex.d, pureD, pureL, Ex.pure e, nms, pureL_map (f := D.str) fun _ => rfl]
  | .wal _ e => by simp [Ex.d, pureD, pureL, Ex.pure e]
  | .lst e cs => by simp [Ex.d, pureD, pureL, Ex.pure e, Cl.pure cs]
theorem Exs.pure : ∀ e : Exs, pureL e.l = true
  | .nil => rfl
  | .cons e r => by simp [Exs.l, pureL, Ex.pure e, Exs.pure r]
theorem Cl.pure : ∀ e : Cl, pureL e.l = true
  | .nil => rfl
  | .cons _ e r => by simp [Cl.l, pureL, pureD, Ex.pure e, Cl.pure r]
end
mutual
theorem Rw.pure : ∀ e : Rw, pureD e.d = true
  | .set _ e => by simp [Rw.d, pureD, pureL, Ex.pure e]
  | .del _ => rfl
  | .glb _ => rfl
  | .nln _ => rfl
  | .hole => rfl
  | .dfn _ ns b => by simp [Rw.d, pureD, pureL, Rws.pure b, nms, pureL_map (f := D.str) fun _ => rfl]
  | .kls _ b => by simp [Rw.d, pureD, pureL, Rws.pure b]
  | .ret e => by simp [Rw.d, pureD, pureL, Ex.pure e]
  | .doo e => by simp [Rw.d, pureD, pureL, Ex.pure e]
theorem Rws.pure : ∀ e : Rws, pureL e.l = true
  | .nil => rfl
  | .cons r s => by simp [Rws.l, pureL, Rw.pure r, Rws.pure s]
end
theorem tup_pure (l : Rws) : pureL [D.tup l.l] = true := by simp [pureL, pureD, Rws.pure l]
theorem bk_pure : ∀ x : Path × Str, pureD (bk x) = true := fun x => by simp [bk, pureD, pureL, pure_pD]
theorem m3_pure : ∀ x : Mn, pureD (m3 x) = true := fun x => by simp [m3, pureD, pureL, pure_pD]
theorem sc0_sz : sc0.sz = 1 := rfl
/-- a program that is not too large for the scans -/
structure Fit (l : Rws) : Prop where
  z : l.z + 1 ≤ 1000000
  dp : l.dp ≤ 60
section
variable {P : Prg} (H : HasScan P)
include H
theorem init_run (l : Rws) (d : Nat) (hd : l.dp + 5 ≤ d) (hl : l.dp ≤ 190) (hz : l.z + 1 ≤ 1000000) :
    call P d 1 [.ref 0, .tup l.l] ⟨1, [(0, .ins 1 [])]⟩ = some (.non, hP l.scan) := by
  obtain ⟨d, rfl⟩ : ∃ k, d = k + 2 := ⟨d - 2, by omega⟩
  have b := begin_D H d (p := .tup []) (kd := .str "module") (b := []) (k := []) (i := []) (m := []) (se := []) (t := []) (w := []) (ho := []) rfl (by decide) (by decide) (by decide)
  have e0 : hh ([] ++ [.tup [.tup [], .str "module"]]) (putD [] (.tup []) (.str "module")) (putD [] (.tup []) (.int 0)) [] [] [] [] [] = hP sc0 := rfl
  rw [e0] at b
  have r := rws_run H l [] sc0 (d + 1) sc0_gd (by simp [sc0, Sc.keys]) (by omega) (by simpa using hl) (by rw [sc0_sz]; omega)
  have p0 : pD [] = .tup [] := rfl
  rw [p0] at r
  have c1 : scF.contains "blocks" = true := rfl
  have c2 : scF.contains "kinds" = true := rfl
  have c3 : scF.contains "inner" = true := rfl
  have c4 : scF.contains "mentions" = true := rfl
  have c5 : scF.contains "seats" = true := rfl
  have c6 : scF.contains "targets" = true := rfl
  have c7 : scF.contains "walruses" = true := rfl
  have c8 : scF.contains "holes" = true := rfl
  have hs : (⟨9, [(8, .lst []), (7, .lst []), (6, .dic true []), (5, .lst []), (4, .lst []), (3, .dic true []), (2, .dic true []), (1, .lst []), (0, .ins 1 [("blocks", .ref 1), ("kinds", .ref 2), ("inner", .ref 3), ("mentions", .ref 4), ("seats", .ref 5), ("targets", .ref 6), ("walruses", .ref 7), ("holes", .ref 8)])]⟩ : Mm) = hh [] [] [] [] [] [] [] [] := rfl
  have c : ∀ f, scF.contains f = decide (f ∈ scF) := fun f => by simp
  have m : ∀ f, f ∈ scF ↔ f = "blocks" ∨ f = "kinds" ∨ f = "inner" ∨ f = "mentions" ∨ f = "seats" ∨ f = "targets" ∨ f = "walruses" ∨ f = "holes" := fun f => by simp [scF]
  rw [call_f H.f1]
  have q0 : Nat.ble 0 900 = true := rfl
  have q1 : Nat.ble 1 900 = true := rfl
  have q2 : Nat.ble 2 900 = true := rfl
  have q3 : Nat.ble 3 900 = true := rfl
  have q4 : Nat.ble 4 900 = true := rfl
  have q5 : Nat.ble 5 900 = true := rfl
  have q6 : Nat.ble 6 900 = true := rfl
  have q7 : Nat.ble 7 900 = true := rfl
  simp [B1, evSs, s_asg, s_par, s_aug, s_augS, s_exp, s_ret, s_retN, s_iff, s_pass, s_brk, s_cnt, e_var, e_non, e_bl, e_int, e_str, e_glo, e_bin, e_neg, e_cmp, e_and, e_or, e_ite, e_tup, e_lst, e_dic, e_idx, e_sl, e_call, e_blt, e_bm, e_isi, evT, evEs, evP, evKV, evAll, evAny, evAnd, evOr, asg, asgs, getE, setE, noneL, q0, q1, q2, q3, q4, q5, q6, q7, tb0, tb1, mkO, mkD, Mm.get, Mm.new, Mm.set, lk, stm, H.c, m, putF, str_inj, hs, me2, mP6, mcl, b, r]
  rfl
end
section
variable {P : Prg} (H : HasScan P)
include H
/-- Scan(program) where nothing else is -/
theorem make_run (l : Rws) (d : Nat) (hd : l.dp + 5 ≤ d) (hl : l.dp ≤ 190) (hz : l.z + 1 ≤ 1000000) {c1 : Fs} {r : Ev.Env} {i : Nat} (hi : getE r i = some (.tup l.l)) :
    evE P c1 (call P d) (.make .sh 1 (.cons (.var i) .nil)) r .nil = some (.ref 0, hP l.scan) := by
  have e := init_run H l d hd hl hz
  have e0 : (Mm.nil.new (.ins 1 [])).2 = ⟨1, [(0, .ins 1 [])]⟩ := rfl
  have e1 : Mm.nil.nx = 0 := rfl
  rw [e_make]
  simp only [evEs, e_var, hi, runM, H.c, e0, e1, e]
theorem blocks_run (hb : P.fns 11 = some ⟨1, 1, B11⟩) (l : Rws) (d : Nat) (hd : l.dp + 7 ≤ d) (hl : l.dp ≤ 190) (hz : l.z + 1 ≤ 1000000) :
    call P d 11 [.tup l.l] .nil = some (.ref 1, hP l.scan) := by
  obtain ⟨d, rfl⟩ : ∃ k, d = k + 2 := ⟨d - 2, by omega⟩
  have m := make_run H l d (by omega) hl hz (c1 := call P (d + 1)) (r := [some (.tup l.l)]) (i := 0) rfl
  have i0 : insOf (hP l.scan) (.ref 0) = some (1, scL) := rfl
  have c : scF.contains "blocks" = true := rfl
  have k : lkF scL "blocks" = some (.ref 1) := rfl
  rw [call_f hb]
  simp only [B11, evSs, s_ret, e_fld, List.length_cons, List.length_nil, Nat.reduceAdd, if_true, List.map_cons, List.map_nil, List.append_nil, Nat.sub_self, noneL, calls2, m, i0, H.c, c, k, cond_true]
theorem mentions_run (hb : P.fns 12 = some ⟨1, 1, B12⟩) (l : Rws) (d : Nat) (hd : l.dp + 7 ≤ d) (hl : l.dp ≤ 190) (hz : l.z + 1 ≤ 1000000) :
    call P d 12 [.tup l.l] .nil = some (.ref 4, hP l.scan) := by
  obtain ⟨d, rfl⟩ : ∃ k, d = k + 2 := ⟨d - 2, by omega⟩
  have m := make_run H l d (by omega) hl hz (c1 := call P (d + 1)) (r := [some (.tup l.l)]) (i := 0) rfl
  have i0 : insOf (hP l.scan) (.ref 0) = some (1, scL) := rfl
  have c : scF.contains "mentions" = true := rfl
  have k : lkF scL "mentions" = some (.ref 4) := rfl
  rw [call_f hb]
  simp only [B12, evSs, s_ret, e_fld, List.length_cons, List.length_nil, Nat.reduceAdd, if_true, List.map_cons, List.map_nil, List.append_nil, Nat.sub_self, noneL, calls2, m, i0, H.c, c, k, cond_true]
theorem blocks_iso (hb : P.fns 11 = some ⟨1, 1, B11⟩) (l : Rws) (d : Nat) (hd : l.dp + 7 ≤ d) (hl : l.dp ≤ 190) (hz : l.z + 1 ≤ 1000000) (h : Mm) :
    runM .iso (call P d 11) [.tup l.l] h = some (.lst (l.scan.bs.map bk), h) := by
  simp only [runM, tup_pure, cond_true, blocks_run H hb l d hd hl hz]
  rw [show fdp = 23 + 1 from rfl, frz_lst (l := l.scan.bs.map bk) rfl (pureL_map bk_pure _)]
theorem blocks_liv (hb : P.fns 11 = some ⟨1, 1, B11⟩) (l : Rws) (d : Nat) (hd : l.dp + 7 ≤ d) (hl : l.dp ≤ 190) (hz : l.z + 1 ≤ 1000000) (h : Mm) :
    runM .liv (call P d 11) [.tup l.l] h = some (h.new (.lst (l.scan.bs.map bk))) := by
  have e : (hP l.scan).get 1 = some (.lst (l.scan.bs.map bk)) := rfl
  have p : pureD (O.lst (l.scan.bs.map bk)).d = true := by simp [O.d, pureD, pureL_map bk_pure]
  simp only [runM, tup_pure, cond_true, blocks_run H hb l d hd hl hz, e, p]
theorem mentions_iso (hb : P.fns 12 = some ⟨1, 1, B12⟩) (l : Rws) (d : Nat) (hd : l.dp + 7 ≤ d) (hl : l.dp ≤ 190) (hz : l.z + 1 ≤ 1000000) (h : Mm) :
    runM .iso (call P d 12) [.tup l.l] h = some (.lst (l.scan.ms.map m3), h) := by
  simp only [runM, tup_pure, cond_true, mentions_run H hb l d hd hl hz]
  rw [show fdp = 23 + 1 from rfl, frz_lst (l := l.scan.ms.map m3) rfl (pureL_map m3_pure _)]
theorem mentions_liv (hb : P.fns 12 = some ⟨1, 1, B12⟩) (l : Rws) (d : Nat) (hd : l.dp + 7 ≤ d) (hl : l.dp ≤ 190) (hz : l.z + 1 ≤ 1000000) (h : Mm) :
    runM .liv (call P d 12) [.tup l.l] h = some (h.new (.lst (l.scan.ms.map m3))) := by
  have e : (hP l.scan).get 4 = some (.lst (l.scan.ms.map m3)) := rfl
  have p : pureD (O.lst (l.scan.ms.map m3)).d = true := by simp [O.d, pureD, pureL_map m3_pure]
  simp only [runM, tup_pure, cond_true, mentions_run H hb l d hd hl hz, e, p]
end
end Sy
end
section
set_option Elab.async false
set_option linter.all false
set_option maxRecDepth 100000
set_option maxHeartbeats 4000000
/-! Sy8: the laws' own scan (_law_scan, _law_block, _law_scan_expr, _law_scan_rows) computes the mirror too. -/
namespace Sy
open PySem (Str)
open Ev
open Ev (E Es Ks C Cs T Ts S Ss)

theorem idx_t {xs : List D} {i : Int} {h : Mm} : idxD (.tup xs) (.int i) h = atL xs i := rfl
structure HasLs (P : Prg) : Prop where
  W : P.W = 200
  f2 : P.fns 202 = some ⟨1, 2, B202⟩
  f3 : P.fns 203 = some ⟨3, 4, B203⟩
  f4 : P.fns 204 = some ⟨3, 7, B204⟩
  f5 : P.fns 205 = some ⟨4, 10, B205⟩
def wD : Option Bool → D
  | none => .non
  | some b => .bl b
def m5 (m : Mn) : D := .tup [pD m.p, .str m.n, .str m.r, pD m.s, wD m.w]
def ll (k : List (D × D)) (m : List D) (t c : List (D × D)) (o : List D) : Mm :=
  ⟨6, [(5, .dic false [(.str "kinds", .ref 0), (.str "mentions", .ref 1), (.str "targets", .ref 2), (.str "counts", .ref 3), (.str "order", .ref 4)]), (4, .lst o), (3, .dic true c), (2, .dic true t), (1, .lst m), (0, .dic true k)]⟩
def hL (s : Sc) : Mm := ll (kv .str s.bs) (s.ms.map m5) (kv tgD s.tg) (kv iD s.cn) (s.bs.map fun x => pD x.1)
section
variable {m o : List D} {k t c : List (D × D)}
theorem l0 : (ll k m t c o).get 0 = some (.dic true k) := rfl
theorem l1 : (ll k m t c o).get 1 = some (.lst m) := rfl
theorem l2 : (ll k m t c o).get 2 = some (.dic true t) := rfl
theorem l3 : (ll k m t c o).get 3 = some (.dic true c) := rfl
theorem l4 : (ll k m t c o).get 4 = some (.lst o) := rfl
theorem u0 {x} : (ll k m t c o).set 0 (.dic true x) = ll x m t c o := rfl
theorem u1 {x} : (ll k m t c o).set 1 (.lst x) = ll k x t c o := rfl
theorem u2 {x} : (ll k m t c o).set 2 (.dic true x) = ll k m x c o := rfl
theorem u3 {x} : (ll k m t c o).set 3 (.dic true x) = ll k m t x o := rfl
theorem u4 {x} : (ll k m t c o).set 4 (.lst x) = ll k m t c x := rfl
theorem x0 : idxD (.ref 5) (.str "kinds") (ll k m t c o) = some (.ref 0) := rfl
theorem x1 : idxD (.ref 5) (.str "mentions") (ll k m t c o) = some (.ref 1) := rfl
theorem x2 : idxD (.ref 5) (.str "targets") (ll k m t c o) = some (.ref 2) := rfl
theorem x3 : idxD (.ref 5) (.str "counts") (ll k m t c o) = some (.ref 3) := rfl
theorem x4 : idxD (.ref 5) (.str "order") (ll k m t c o) = some (.ref 4) := rfl
end
section
variable {s : Sc}
theorem y0 : idxD (.ref 5) (.str "kinds") (hL s) = some (.ref 0) := rfl
theorem y1 : idxD (.ref 5) (.str "mentions") (hL s) = some (.ref 1) := rfl
theorem y2 : idxD (.ref 5) (.str "targets") (hL s) = some (.ref 2) := rfl
theorem y3 : idxD (.ref 5) (.str "counts") (hL s) = some (.ref 3) := rfl
theorem y4 : idxD (.ref 5) (.str "order") (hL s) = some (.ref 4) := rfl
theorem app1 {m : Mn} (hz : s.sz + 1 ≤ 1000000) : bmD .append (.ref 1) [m5 m] (hL s) = some (.non, hL (s.men m)) := by
  have h1 : Nat.ble ((s.ms.map m5).length + 1) most = true := ble_m (by unfold Sc.sz at hz; simp; omega)
  simp only [hL, bmD, l1, h1, cond_true, u1, Sc.men, List.map_append, List.map_cons, List.map_nil]
theorem app1t : bmTy .append (.ref 1) (hL s) = true := rfl
theorem ext1t : bmTy .extend (.ref 1) (hL s) = true := rfl
def pmn (q : Path) (x : Str) : Mn := ⟨q, x, "parameter", q, none⟩
theorem ext1 {q : Path} {ns : List Str} (hz : s.sz + ns.length ≤ 1000000) : bmD .extend (.ref 1) [.lst (ns.map fun x => m5 (pmn q x))] (hL s) = some (.non, hL (s.par q ns)) := by
  have h1 : Nat.ble ((s.ms.map m5).length + (ns.map fun x => m5 (pmn q x)).length) most = true := ble_m (by unfold Sc.sz at hz; simp; omega)
  simp only [hL, bmD, l1, Ev.listOf, h1, Bool.and_true, cond_true, u1, Sc.par, List.map_append, List.map_map]
  rfl
end
theorem comp_run {P : Prg} {c1 c2 : Fs} {own : List Nat} {e : E} {g : T} {it : It} {cs : Cs} {env : Ev.Env} {h h1 h2 : Mm} {xs ys : List D} {w : Option (Nat × List D)} (hi : evI P c1 c2 it env h = some (xs, w, h1))
    (hc : cmpL (fun h => stay h w) (turnL (asg P c1 c2 g) (evAll P c1 c2 cs) (evE P c1 c2 e) (wipeE env own)) xs h1 = some (ys, h2)) (hl : xs.length ≤ 1000000) : evE P c1 c2 (.comp true own e g it cs) env h = some (.lst ys, h2) := by
  rw [e_comp, hi]
  dsimp only
  rw [hc]
  dsimp only
  rw [ble_m hl]
  rfl
theorem nms_len (ns : List Str) : (nms ns).length = ns.length := by simp [nms]
theorem par_c {P : Prg} {c1 c2 : Fs} {i j n : Nat} {q : Path} : ∀ (ns : List Str) (env : Ev.Env) (h : Mm), (∀ x, getE (setE env j x) j = some x) → (∀ x, getE (setE env j x) i = some (pD q)) →
    cmpL (fun h => stay h none) (turnL (asg P c1 c2 (.var j)) (evAll P c1 c2 .nil) (evE P c1 c2 (.tup (.cons (.var i) (.cons (.var j) (.cons (.str "parameter") (.cons (.var i) (.cons .non .nil))))))) env) (nms ns) h = some (ns.map fun x => m5 (pmn q x), h)
  | [], env, h, _, _ => rfl
  | x :: r, env, h, h1, h2 => by
    have ih := par_c (P := P) (c1 := c1) (c2 := c2) (n := n) r env h h1 h2
    have one : turnL (asg P c1 c2 (.var j)) (evAll P c1 c2 .nil) (evE P c1 c2 (.tup (.cons (.var i) (.cons (.var j) (.cons (.str "parameter") (.cons (.var i) (.cons .non .nil))))))) env (.str x) h = some (some (m5 (pmn q x)), h) := by
      simp [turnL, asg, evAll, e_tup, evEs, e_var, e_str, e_non, h1, h2, tb5, m5, pmn, wD]
    exact cmp_some rfl one ih
/-- [clause[0] for clause in expr[2]] -/
theorem names_l {P : Prg} {c1 c2 : Fs} {j : Nat} : ∀ (cs : Cl) (env : Ev.Env) (h : Mm), (∀ x, getE (setE env j x) j = some x) → cmpL (fun h => stay h none) (turnL (asg P c1 c2 (.var j)) (evAll P c1 c2 .nil) (evE P c1 c2 (.idx (.var j) (.int 0))) env) cs.l h = some (nms cs.names, h)
  | .nil, env, h, _ => rfl
  | .cons x e r, env, h, h1 => by
    have ih := names_l (P := P) (c1 := c1) (c2 := c2) r env h h1
    have one : turnL (asg P c1 c2 (.var j)) (evAll P c1 c2 .nil) (evE P c1 c2 (.idx (.var j) (.int 0))) env (.tup [.str x, e.d]) h = some (some (.str x), h) := by
      simp [turnL, asg, evAll, e_idx, e_var, e_int, h1, idxD, dictOf, seqOf, atL, ixN, nthL]
    exact cmp_some rfl one ih
section
variable {P : Prg} (H : HasLs P)
include H
theorem block_run (d : Nat) {s : Sc} (g : Gd s) {p : Path} (hp : p ∈ s.keys) (k : Str) (hl : p.length + 1 ≤ 1000000) (hz : s.sz + 1 ≤ 1000000) :
    call P (d + 1) 203 [.ref 5, pD p, .str k] (hL s) = some (pD (s.new p k).1, hL (s.new p k).2) := by
  have lc := lk_cnt p _ hp
  have h1 : s.cn.length + 1 ≤ 1000000 := by rw [g.ln]; unfold Sc.sz at hz; omega
  have h2 : s.bs.length + 1 ≤ 1000000 := by unfold Sc.sz at hz; omega
  have nd : (s.cn.map Prod.fst).Nodup := by rw [g.kb]; exact g.nd
  have e1 : idxD (.ref 3) (pD p) (hL s) = some (.int (cnt s.cn p : Int)) := by rw [idx_k (enc := iD) (l := s.cn) rfl, lc]; rfl
  have a1 := add_p p (cnt s.cn p) (hL s) hl
  have s1 : setD (.ref 3) (pD p) (.int ((cnt s.cn p : Int) + 1)) (hL s) = some (hL { s with cn := inc s.cn p }) := by
    rw [set_k (enc := iD) (l := s.cn) rfl h1]
    have e : putD (kv iD s.cn) (pD p) (.int ((cnt s.cn p : Int) + 1)) = kv iD (inc s.cn p) := by
      rw [← inc_set p _ nd hp]
      exact put_old iD (a := cnt s.cn p + 1) lc
    rw [e]; rfl
  have fq := g.fresh p
  have fb : p ++ [cnt s.cn p] ∉ s.bs.map Prod.fst := by have := fq; unfold Sc.keys at this; rwa [g.kb] at this
  have s2 : setD (.ref 3) (pD (p ++ [cnt s.cn p])) (.int 0) (hL { s with cn := inc s.cn p }) = some (hL { s with cn := inc s.cn p ++ [(p ++ [cnt s.cn p], 0)] }) := by
    rw [set_k (enc := iD) (l := inc s.cn p) rfl (by rw [inc_len]; exact h1)]
    have e : putD (kv iD (inc s.cn p)) (pD (p ++ [cnt s.cn p])) (.int 0) = kv iD (inc s.cn p ++ [(p ++ [cnt s.cn p], 0)]) := put_new iD (a := 0) (lk_none _ _ (by rw [inc_keys]; exact fq))
    rw [e]; rfl
  have s3 : setD (.ref 0) (pD (p ++ [cnt s.cn p])) (.str k) (hL { s with cn := inc s.cn p ++ [(p ++ [cnt s.cn p], 0)] }) = some (ll (kv .str (s.bs ++ [(p ++ [cnt s.cn p], k)])) (s.ms.map m5) (kv tgD s.tg) (kv iD (inc s.cn p ++ [(p ++ [cnt s.cn p], 0)])) (s.bs.map fun x => pD x.1)) := by
    rw [set_k (enc := D.str) (l := s.bs) rfl h2, put_new D.str (lk_none _ _ fb)]; rfl
  have hb : Nat.ble ((s.bs.map fun x => pD x.1).length + 1) most = true := ble_m (by simpa using h2)
  simp only [List.length_map] at hb
  have y0' : ∀ s : Sc, idxD (.ref 5) (.str "kinds") (hL s) = some (.ref 0) := fun _ => rfl
  have y3' : ∀ s : Sc, idxD (.ref 5) (.str "counts") (hL s) = some (.ref 3) := fun _ => rfl
  have ai : ∀ (i : Int) (h : Mm), binD .add true (.int i) (.int 1) h = some (.int (i + 1), h) := fun _ _ => rfl
  have fin : ll (kv .str (s.bs ++ [(p ++ [cnt s.cn p], k)])) (s.ms.map m5) (kv tgD s.tg) (kv iD (inc s.cn p ++ [(p ++ [cnt s.cn p], 0)])) ((s.bs.map fun x => pD x.1) ++ [pD (p ++ [cnt s.cn p])]) = hL (s.new p k).2 := by simp [hL, Sc.new]
  have n1 : (s.new p k).1 = p ++ [cnt s.cn p] := rfl
  rw [call_f H.f3, n1]
  simp [B203, evSs, s_asg, s_par, s_aug, s_augS, s_exp, s_ret, s_retN, s_iff, s_pass, s_brk, s_cnt, e_var, e_non, e_bl, e_int, e_str, e_glo, e_bin, e_neg, e_cmp, e_and, e_or, e_ite, e_tup, e_lst, e_dic, e_idx, e_sl, e_call, e_blt, e_bm, e_isi, evT, evEs, evP, evKV, evAll, evAny, evAnd, evOr, asg, asgs, getE, setE, noneL, y0', y3', x4, e1, a1, ai, s1, s2, s3, tb1, bmTy, bmD, l4, u4, hb, fin]
theorem ltgt {s : Sc} (g : Gd s) {p : Path} (hp : p ∈ s.keys) (ns : List Str) (hz : s.sz + 2 ≤ 1000000) : setD (.ref 2) (pD (s.new p "list").1) (tgD ns) (hL (s.new p "list").2) = some (hL ((s.new p "list").2.tgt (s.new p "list").1 ns)) := by
  have e6 : (hL (s.new p "list").2).get 2 = some (.dic true (kv tgD s.tg)) := rfl
  have fr : (s.new p "list").1 ∉ s.tg.map Prod.fst := fun h => g.fresh p (g.tk _ h)
  rw [set_k e6 (by unfold Sc.sz at hz; omega), put_new tgD (lk_none _ _ fr)]
  rfl
end
end Sy
end
section
set_option Elab.async false
set_option linter.all false
set_option maxRecDepth 100000
set_option maxHeartbeats 4000000
/-! Sy9: exprs by _law_scan_expr. -/
namespace Sy
open PySem (Str)
open Ev
open Ev (E Es Ks C Cs T Ts S Ss)

def lcallB : Ss := .cons (.exp (.call .sh 205 (.cons (.var 4) (.cons (.var 1) (.cons (.var 2) (.cons (.var 3) .nil)))))) .nil
def lclB : Ss := .cons (.exp (.bm .append (.idx (.var 2) (.str "mentions")) (.cons (.tup (.cons (.var 5) (.cons (.idx (.var 8) (.int 0)) (.cons (.str "write") (.cons (.var 5) (.cons .non .nil)))))) .nil)))
    (.cons (.exp (.call .sh 205 (.cons (.idx (.var 8) (.int 1)) (.cons (.ite (.of (.cmp .gt (.var 7) (.int 0))) (.var 5) (.var 1)) (.cons (.var 2) (.cons (.bl true) .nil))))))
    .nil)
def lwhB : S := .whl (.of (.cmp .eq (.idx (.idx (.var 2) (.str "kinds")) (.var 6)) (.str "list"))) (.cons (.asg (.var 6) (.sl true (.var 6) .nil (.cons (.neg (.int 1)) .nil))) .nil)
theorem lseat {P : Prg} (H : HasLs P) {c1 c2 : Fs} {s : Sc} (g : Gd s) {p : Path} (hp : p ∈ s.keys) (hl : p.length < 200) {x0 x1 x3 x4 x5 x7 x8 x9 : Option D} :
    evS P c1 c2 lwhB [x0, x1, some (.ref 5), x3, x4, x5, some (pD p), x7, x8, x9] (hL s) = some (.nx, [x0, x1, some (.ref 5), x3, x4, x5, some (pD (s.seat p)), x7, x8, x9], hL s) := by
  unfold lwhB
  rw [s_whl]
  exact seat_whl g (env := fun p => [x0, x1, some (.ref 5), x3, x4, x5, some (pD p), x7, x8, x9])
    (fun p k hk => by
      have := idx_k (h := hL s) (c := 0) (enc := D.str) (l := s.bs) (p := p) rfl
      rw [hk] at this
      simp only [Option.map_some] at this
      simp [evSs, s_asg, s_par, s_aug, s_augS, s_exp, s_ret, s_retN, s_iff, s_pass, s_brk, s_cnt, e_var, e_non, e_bl, e_int, e_str, e_glo, e_bin, e_neg, e_cmp, e_and, e_or, e_ite, e_tup, e_lst, e_dic, e_idx, e_sl, e_call, e_blt, e_bm, e_isi, evT, evEs, evP, evKV, evAll, evAny, evAnd, evOr, asg, asgs, getE, setE, noneL, y0, this, cmpD, eqM, scl2, scl, eqD, tru])
    (fun p => by simp [evSs, s_asg, s_par, s_aug, s_augS, s_exp, s_ret, s_retN, s_iff, s_pass, s_brk, s_cnt, e_var, e_non, e_bl, e_int, e_str, e_glo, e_bin, e_neg, e_cmp, e_and, e_or, e_ite, e_tup, e_lst, e_dic, e_idx, e_sl, e_call, e_blt, e_bm, e_isi, evT, evEs, evP, evKV, evAll, evAny, evAnd, evOr, asg, asgs, getE, setE, noneL, cut_p]) p.length p P.W rfl hp (by rw [H.W]; exact hl)
section
variable {P : Prg} (H : HasLs P)
include H
mutual
theorem lex_run : ∀ (e : Ex) (b : Bool) (p : Path) (s : Sc) (d : Nat), Gd s → p ∈ s.keys → e.dp + 2 ≤ d → p.length + e.dp ≤ 190 → s.sz + e.z ≤ 1000000 →
    call P d 205 [e.d, pD p, .ref 5, .bl b] (hL s) = some (.non, hL (e.sc b p s))
  | .num i, b, p, s, d + 1, g, hp, hd, hl, hz => by
    rw [call_f H.f5]
    simp [B205, evSs, s_asg, s_par, s_aug, s_augS, s_exp, s_ret, s_retN, s_iff, s_pass, s_brk, s_cnt, e_var, e_non, e_bl, e_int, e_str, e_glo, e_bin, e_neg, e_cmp, e_and, e_or, e_ite, e_tup, e_lst, e_dic, e_idx, e_sl, e_call, e_blt, e_bm, e_isi, evT, evEs, evP, evKV, evAll, evAny, evAnd, evOr, asg, asgs, getE, setE, noneL, Ex.d, isiD, tru, Ex.sc]
  | .nam x, b, p, s, d + 1, g, hp, hd, hl, hz => by
    have m := app1 (s := s) (m := ⟨p, x, "read", p, none⟩) (by simp [Ex.z] at hz; omega)
    simp only [m5, wD] at m
    rw [call_f H.f5]
    simp [B205, evSs, s_asg, s_par, s_aug, s_augS, s_exp, s_ret, s_retN, s_iff, s_pass, s_brk, s_cnt, e_var, e_non, e_bl, e_int, e_str, e_glo, e_bin, e_neg, e_cmp, e_and, e_or, e_ite, e_tup, e_lst, e_dic, e_idx, e_sl, e_call, e_blt, e_bm, e_isi, evT, evEs, evP, evKV, evAll, evAny, evAnd, evOr, asg, asgs, getE, setE, noneL, Ex.d, isiD, tru, Ex.sc, idx_t, atL, ixN, nthL, cmpD, eqM, scl2, scl, eqD, str_inj, y1, app1t, tb5, m]
  | .cal f as, b, p, s, d + 1, g, hp, hd, hl, hz => by
    simp only [Ex.dp, Ex.z] at hd hl hz
    have k1 := Ex.kp f b p s g hp
    have r1 := lex_run f b p s d g hp (by omega) (by omega) (by omega)
    obtain ⟨o, r2⟩ := lexs_run as b p (f.sc b p s) d ((calls P d).2) (some (Ex.cal f as).d) (some f.d) none none none none none k1.g (k1.k p hp) (by omega) (by omega) (by have := k1.z; omega)
    have la := Exs.len as
    have lf := Ex.zp f
    have one : turnG (asg P (call P d) (calls P d).2 (.var 4)) (evSs P (call P d) (calls P d).2 lcallB) f.d [some (Ex.cal f as).d, some (pD p), some (.ref 5), some (.bl b), none, none, none, none, none, none] (hL s) = some (.nx, [some (Ex.cal f as).d, some (pD p), some (.ref 5), some (.bl b), some f.d, none, none, none, none, none], hL (f.sc b p s)) := by
      simp [turnG, lcallB, evSs, s_asg, s_par, s_aug, s_augS, s_exp, s_ret, s_retN, s_iff, s_pass, s_brk, s_cnt, e_var, e_non, e_bl, e_int, e_str, e_glo, e_bin, e_neg, e_cmp, e_and, e_or, e_ite, e_tup, e_lst, e_dic, e_idx, e_sl, e_call, e_blt, e_bm, e_isi, evT, evEs, evP, evKV, evAll, evAny, evAnd, evOr, asg, asgs, getE, setE, noneL, runM, r1]
    have e2 : evS P (call P d) (calls P d).2 (.for_ (.var 4) (.of (.bin .add true (.tup (.cons (.idx (.var 0) (.int 1)) .nil)) (.idx (.var 0) (.int 2)))) lcallB) [some (Ex.cal f as).d, some (pD p), some (.ref 5), some (.bl b), none, none, none, none, none, none] (hL s) =
        some (.nx, [some (Ex.cal f as).d, some (pD p), some (.ref 5), some (.bl b), o, none, none, none, none, none], hL ((Ex.cal f as).sc b p s)) := by
      rw [s_for]
      have : evI P (call P d) (calls P d).2 (.of (.bin .add true (.tup (.cons (.idx (.var 0) (.int 1)) .nil)) (.idx (.var 0) (.int 2)))) [some (Ex.cal f as).d, some (pD p), some (.ref 5), some (.bl b), none, none, none, none, none, none] (hL s) = some (f.d :: as.l, none, hL s) := by
        simp [i_of, evSs, s_asg, s_par, s_aug, s_augS, s_exp, s_ret, s_retN, s_iff, s_pass, s_brk, s_cnt, e_var, e_non, e_bl, e_int, e_str, e_glo, e_bin, e_neg, e_cmp, e_and, e_or, e_ite, e_tup, e_lst, e_dic, e_idx, e_sl, e_call, e_blt, e_bm, e_isi, evT, evEs, evP, evKV, evAll, evAny, evAnd, evOr, asg, asgs, getE, setE, noneL, Ex.d, idx_t, atL, ixN, nthL, tb1, add_t f.d as.l (hL s) (by omega), walkOf]
      rw [this]
      show forL _ _ _ _ _ = _
      rw [for_cons rfl one]
      exact r2
    rw [call_f H.f5]
    unfold lcallB at e2
    simp only [Ex.d] at e2 ⊢
    simp [B205, evSs, s_asg, s_par, s_aug, s_augS, s_exp, s_ret, s_retN, s_iff, s_pass, s_brk, s_cnt, e_var, e_non, e_bl, e_int, e_str, e_glo, e_bin, e_neg, e_cmp, e_and, e_or, e_ite, e_tup, e_lst, e_dic, e_idx, e_sl, e_call, e_blt, e_bm, e_isi, evT, evEs, evP, evKV, evAll, evAny, evAnd, evOr, asg, asgs, getE, setE, noneL, isiD, tru, idx_t, atL, ixN, nthL, cmpD, eqM, scl2, scl, eqD, str_inj, e2]
  | .lam ns e, b, p, s, d + 2, g, hp, hd, hl, hz => by
    simp only [Ex.dp, Ex.z] at hd hl hz
    have n1 := block_run H d g hp "lambda" (by omega) (by omega)
    have k1 := Kp.new g hp "lambda"
    have k2 := Kp.par k1.g (s.new p "lambda").1 ns
    have p1 := ext1 (s := (s.new p "lambda").2) (q := (s.new p "lambda").1) (ns := ns) (by have := k1.z; omega)
    have r1 := lex_run e b (s.new p "lambda").1 _ (d + 1) k2.g (new_in s p "lambda") (by omega) (by simp [Sc.new]; omega) (by have := k1.z; have := k2.z; omega)
    have cc : evE P (call P (d + 1)) (calls P (d + 1)).2 (.comp true [9] (.tup (.cons (.var 5) (.cons (.var 9) (.cons (.str "parameter") (.cons (.var 5) (.cons .non .nil)))))) (.var 9) (.of (.idx (.var 0) (.int 1))) .nil) [some (Ex.lam ns e).d, some (pD p), some (.ref 5), some (.bl b), none, some (pD (s.new p "lambda").1), none, none, none, none] (hL (s.new p "lambda").2) = some (.lst (ns.map fun x => m5 (pmn (s.new p "lambda").1 x)), hL (s.new p "lambda").2) := by
      refine comp_run (xs := nms ns) (w := none) ?_ (par_c (n := 0) ns _ _ (fun _ => rfl) (fun _ => rfl)) (by rw [nms_len]; omega)
      simp [i_of, evSs, s_asg, s_par, s_aug, s_augS, s_exp, s_ret, s_retN, s_iff, s_pass, s_brk, s_cnt, e_var, e_non, e_bl, e_int, e_str, e_glo, e_bin, e_neg, e_cmp, e_and, e_or, e_ite, e_tup, e_lst, e_dic, e_idx, e_sl, e_call, e_blt, e_bm, e_isi, evT, evEs, evP, evKV, evAll, evAny, evAnd, evOr, asg, asgs, getE, setE, noneL, Ex.d, idx_t, atL, ixN, nthL, walkOf]
    simp only [Ex.d] at cc
    generalize hq : (s.new p "lambda").1 = q at *
    generalize hs : (s.new p "lambda").2 = s' at *
    rw [call_f H.f5]
    simp [B205, evSs, s_asg, s_par, s_aug, s_augS, s_exp, s_ret, s_retN, s_iff, s_pass, s_brk, s_cnt, e_var, e_non, e_bl, e_int, e_str, e_glo, e_bin, e_neg, e_cmp, e_and, e_or, e_ite, e_tup, e_lst, e_dic, e_idx, e_sl, e_call, e_blt, e_bm, e_isi, evT, evEs, evP, evKV, evAll, evAny, evAnd, evOr, asg, asgs, getE, setE, noneL, Ex.d, isiD, tru, Ex.sc, idx_t, atL, ixN, nthL, cmpD, eqM, scl2, scl, eqD, str_inj, runM, n1, cc, y1, ext1t, p1, r1, hq, hs]
  | .wal x e, b, p, s, d + 1, g, hp, hd, hl, hz => by
    simp only [Ex.dp, Ex.z] at hd hl hz
    have k1 := Kp.men g ⟨p, x, "write", s.seat p, some b⟩
    have r1 := lex_run e b p _ d k1.g hp (by omega) (by omega) (by have := k1.z; omega)
    have m := app1 (s := s) (m := ⟨p, x, "write", s.seat p, some b⟩) (by omega)
    simp only [m5, wD] at m
    have w := lseat H (c1 := call P d) (c2 := (calls P d).2) g hp (by omega) (x0 := some (Ex.wal x e).d) (x1 := some (pD p)) (x3 := some (.bl b)) (x4 := none) (x5 := none) (x7 := none) (x8 := none) (x9 := none)
    unfold lwhB at w
    simp only [Ex.d] at w
    rw [call_f H.f5]
    simp [B205, evSs, s_asg, s_par, s_aug, s_augS, s_exp, s_ret, s_retN, s_iff, s_pass, s_brk, s_cnt, e_var, e_non, e_bl, e_int, e_str, e_glo, e_bin, e_neg, e_cmp, e_and, e_or, e_ite, e_tup, e_lst, e_dic, e_idx, e_sl, e_call, e_blt, e_bm, e_isi, evT, evEs, evP, evKV, evAll, evAny, evAnd, evOr, asg, asgs, getE, setE, noneL, Ex.d, isiD, tru, Ex.sc, idx_t, atL, ixN, nthL, cmpD, eqM, scl2, scl, eqD, str_inj, runM, w, y1, app1t, tb5, m, r1]
  | .lst e cs, b, p, s, d, g, hp, hd, hl, hz => by
    simp only [Ex.dp, Ex.z] at hd hl hz
    obtain ⟨d, rfl⟩ : ∃ k, d = k + 2 := ⟨d - 2, by omega⟩
    have n1 := block_run H d g hp "list" (by omega) (by omega)
    have k1 := Kp.new g hp "list"
    have t1 := ltgt H g hp cs.names (by omega)
    have k2 := k1.trans (Kp.tgt k1.g (new_in s p "list") cs.names) (Nat.le_refl _)
    have hq : (s.new p "list").1 ∈ ((s.new p "list").2.tgt (s.new p "list").1 cs.names).keys := new_in ..
    have r1 := lex_run e b (s.new p "list").1 _ (d + 1) k2.g hq (by omega) (by simp [Sc.new]; omega) (by have := k2.z; omega)
    have k3 := Ex.kp e b (s.new p "list").1 _ k2.g hq
    obtain ⟨o7, o8, r2⟩ := lcl_run cs p (s.new p "list").1 0 _ (d + 1) ((calls P (d + 1)).2) (some (Ex.lst e cs).d) (some (.bl b)) none none none none none k3.g (k3.k p (k2.k p hp)) (k3.k _ hq) (by omega) (by omega) (by simp [Sc.new]; omega) (by have := k2.z; have := k3.z; omega)
    have cc : evE P (call P (d + 1)) (calls P (d + 1)).2 (.comp true [8] (.idx (.var 8) (.int 0)) (.var 8) (.of (.idx (.var 0) (.int 2))) .nil) [some (Ex.lst e cs).d, some (pD p), some (.ref 5), some (.bl b), none, some (pD (s.new p "list").1), none, none, none, none] (hL (s.new p "list").2) = some (tgD cs.names, hL (s.new p "list").2) := by
      have lb := Cl.len cs
      refine comp_run (xs := cs.l) (w := none) ?_ (names_l cs _ _ (fun _ => rfl)) (by omega)
      simp [i_of, evSs, s_asg, s_par, s_aug, s_augS, s_exp, s_ret, s_retN, s_iff, s_pass, s_brk, s_cnt, e_var, e_non, e_bl, e_int, e_str, e_glo, e_bin, e_neg, e_cmp, e_and, e_or, e_ite, e_tup, e_lst, e_dic, e_idx, e_sl, e_call, e_blt, e_bm, e_isi, evT, evEs, evP, evKV, evAll, evAny, evAnd, evOr, asg, asgs, getE, setE, noneL, Ex.d, idx_t, atL, ixN, nthL, walkOf]
    have e2 : evS P (call P (d + 1)) (calls P (d + 1)).2 (.for_ (.tup (.cons (.var 7) (.cons (.var 8) .nil))) (.enm (.idx (.var 0) (.int 2))) lclB) [some (Ex.lst e cs).d, some (pD p), some (.ref 5), some (.bl b), none, some (pD (s.new p "list").1), none, none, none, none] (hL (e.sc b (s.new p "list").1 ((s.new p "list").2.tgt (s.new p "list").1 cs.names))) =
        some (.nx, [some (Ex.lst e cs).d, some (pD p), some (.ref 5), some (.bl b), none, some (pD (s.new p "list").1), none, o7, o8, none], hL ((Ex.lst e cs).sc b p s)) := by
      rw [s_for]
      have : evI P (call P (d + 1)) (calls P (d + 1)).2 (.enm (.idx (.var 0) (.int 2))) [some (Ex.lst e cs).d, some (pD p), some (.ref 5), some (.bl b), none, some (pD (s.new p "list").1), none, none, none, none] (hL (e.sc b (s.new p "list").1 ((s.new p "list").2.tgt (s.new p "list").1 cs.names))) = some (enmL 0 cs.l, none, hL (e.sc b (s.new p "list").1 ((s.new p "list").2.tgt (s.new p "list").1 cs.names))) := by
        simp [i_enm, evSs, s_asg, s_par, s_aug, s_augS, s_exp, s_ret, s_retN, s_iff, s_pass, s_brk, s_cnt, e_var, e_non, e_bl, e_int, e_str, e_glo, e_bin, e_neg, e_cmp, e_and, e_or, e_ite, e_tup, e_lst, e_dic, e_idx, e_sl, e_call, e_blt, e_bm, e_isi, evT, evEs, evP, evKV, evAll, evAny, evAnd, evOr, asg, asgs, getE, setE, noneL, Ex.d, idx_t, atL, ixN, nthL, walkOf]
      rw [this]
      exact r2
    unfold lclB at e2
    simp only [Ex.d] at e2 cc
    generalize hq : (s.new p "list").1 = q at *
    generalize hs : (s.new p "list").2 = s' at *
    rw [call_f H.f5]
    simp [B205, evSs, s_asg, s_par, s_aug, s_augS, s_exp, s_ret, s_retN, s_iff, s_pass, s_brk, s_cnt, e_var, e_non, e_bl, e_int, e_str, e_glo, e_bin, e_neg, e_cmp, e_and, e_or, e_ite, e_tup, e_lst, e_dic, e_idx, e_sl, e_call, e_blt, e_bm, e_isi, evT, evEs, evP, evKV, evAll, evAny, evAnd, evOr, asg, asgs, getE, setE, noneL, Ex.d, isiD, tru, idx_t, atL, ixN, nthL, cmpD, eqM, scl2, scl, eqD, str_inj, runM, n1, cc, y2, t1, r1, e2, hq, hs]
theorem lcl_run : ∀ (cs : Cl) (p q : Path) (n : Nat) (s : Sc) (d : Nat) (c2 : Fs) (x0 x3 x4 x6 o7 o8 x9 : Option D), Gd s → p ∈ s.keys → q ∈ s.keys → cs.dp + 2 ≤ d → p.length + cs.dp ≤ 190 → q.length + cs.dp ≤ 190 → s.sz + cs.z ≤ 1000000 →
    ∃ o7' o8', forL (fun h => stay h none) (turnG (asg P (call P d) c2 (.tup (.cons (.var 7) (.cons (.var 8) .nil)))) (evSs P (call P d) c2 lclB)) (enmL n cs.l) [x0, some (pD p), some (.ref 5), x3, x4, some (pD q), x6, o7, o8, x9] (hL s) = some (.nx, [x0, some (pD p), some (.ref 5), x3, x4, some (pD q), x6, o7', o8', x9], hL (cs.sc (if n > 0 then q else p) q s))
  | .nil, p, q, n, s, d, c2, x0, x3, x4, x6, o7, o8, x9, g, hp, hq, hd, hl, hl2, hz => ⟨o7, o8, for_nil rfl⟩
  | .cons x e r, p, q, n, s, d, c2, x0, x3, x4, x6, o7, o8, x9, g, hp, hq, hd, hl, hl2, hz => by
    simp only [Cl.dp, Cl.z] at hd hl hl2 hz
    have m := app1 (s := s) (m := ⟨q, x, "write", q, none⟩) (by omega)
    simp only [m5, wD] at m
    have k0 := Kp.men g ⟨q, x, "write", q, none⟩
    have hp' : (if n > 0 then q else p) ∈ s.keys := by split <;> assumption
    have hl' : (if n > 0 then q else p).length + e.dp ≤ 190 := by split <;> omega
    have r1 := lex_run e true (if n > 0 then q else p) _ d k0.g hp' (by omega) hl' (by have := k0.z; omega)
    have k1 := Ex.kp e true (if n > 0 then q else p) _ k0.g hp'
    obtain ⟨o7', o8', r2⟩ := lcl_run r p q (n + 1) _ d c2 x0 x3 x4 x6 (some (.int (n : Int))) (some (.tup [.str x, e.d])) x9 k1.g (k1.k p hp) (k1.k q hq) (by omega) (by omega) (by omega) (by have := k0.z; have := k1.z; omega)
    rw [if_pos (Nat.succ_pos n)] at r2
    refine ⟨o7', o8', ?_⟩
    have one : turnG (asg P (call P d) c2 (.tup (.cons (.var 7) (.cons (.var 8) .nil)))) (evSs P (call P d) c2 lclB) (.tup [.int (n : Int), .tup [.str x, e.d]]) [x0, some (pD p), some (.ref 5), x3, x4, some (pD q), x6, o7, o8, x9] (hL s) = some (.nx, [x0, some (pD p), some (.ref 5), x3, x4, some (pD q), x6, some (.int (n : Int)), some (.tup [.str x, e.d]), x9], hL (e.sc true (if n > 0 then q else p) (s.men ⟨q, x, "write", q, none⟩))) := by
      by_cases hn : 0 < n
      · rw [if_pos hn] at r1 ⊢
        have hn' : (0 : Int) < (n : Int) := by omega
        simp [turnG, lclB, evSs, s_asg, s_par, s_aug, s_augS, s_exp, s_ret, s_retN, s_iff, s_pass, s_brk, s_cnt, e_var, e_non, e_bl, e_int, e_str, e_glo, e_bin, e_neg, e_cmp, e_and, e_or, e_ite, e_tup, e_lst, e_dic, e_idx, e_sl, e_call, e_blt, e_bm, e_isi, evT, evEs, evP, evKV, evAll, evAny, evAnd, evOr, asg, asgs, getE, setE, noneL, y1, app1t, tb5, idx_t, atL, ixN, nthL, m, cmpD, tru, hn, hn', runM, r1]
      · rw [if_neg hn] at r1 ⊢
        have hn' : ¬ (0 : Int) < (n : Int) := by omega
        simp [turnG, lclB, evSs, s_asg, s_par, s_aug, s_augS, s_exp, s_ret, s_retN, s_iff, s_pass, s_brk, s_cnt, e_var, e_non, e_bl, e_int, e_str, e_glo, e_bin, e_neg, e_cmp, e_and, e_or, e_ite, e_tup, e_lst, e_dic, e_idx, e_sl, e_call, e_blt, e_bm, e_isi, evT, evEs, evP, evKV, evAll, evAny, evAnd, evOr, asg, asgs, getE, setE, noneL, y1, app1t, tb5, idx_t, atL, ixN, nthL, m, cmpD, tru, hn, hn', runM, r1]
    rw [Cl.l, enmL, for_cons rfl one]
    exact r2
theorem lexs_run : ∀ (as : Exs) (b : Bool) (p : Path) (s : Sc) (d : Nat) (c2 : Fs) (x0 o x5 x6 x7 x8 x9 : Option D), Gd s → p ∈ s.keys → as.dp + 2 ≤ d → p.length + as.dp ≤ 190 → s.sz + as.z ≤ 1000000 →
    ∃ o', forL (fun h => stay h none) (turnG (asg P (call P d) c2 (.var 4)) (evSs P (call P d) c2 lcallB)) as.l [x0, some (pD p), some (.ref 5), some (.bl b), o, x5, x6, x7, x8, x9] (hL s) = some (.nx, [x0, some (pD p), some (.ref 5), some (.bl b), o', x5, x6, x7, x8, x9], hL (as.sc b p s))
  | .nil, b, p, s, d, c2, x0, o, x5, x6, x7, x8, x9, g, hp, hd, hl, hz => ⟨o, for_nil rfl⟩
  | .cons e r, b, p, s, d, c2, x0, o, x5, x6, x7, x8, x9, g, hp, hd, hl, hz => by
    simp only [Exs.dp, Exs.z] at hd hl hz
    have k1 := Ex.kp e b p s g hp
    have r1 := lex_run e b p s d g hp (by omega) (by omega) (by omega)
    obtain ⟨o', r2⟩ := lexs_run r b p (e.sc b p s) d c2 x0 (some e.d) x5 x6 x7 x8 x9 k1.g (k1.k p hp) (by omega) (by omega) (by have := k1.z; omega)
    refine ⟨o', ?_⟩
    have one : turnG (asg P (call P d) c2 (.var 4)) (evSs P (call P d) c2 lcallB) e.d [x0, some (pD p), some (.ref 5), some (.bl b), o, x5, x6, x7, x8, x9] (hL s) = some (.nx, [x0, some (pD p), some (.ref 5), some (.bl b), some e.d, x5, x6, x7, x8, x9], hL (e.sc b p s)) := by
      simp [turnG, lcallB, evSs, s_asg, s_par, s_aug, s_augS, s_exp, s_ret, s_retN, s_iff, s_pass, s_brk, s_cnt, e_var, e_non, e_bl, e_int, e_str, e_glo, e_bin, e_neg, e_cmp, e_and, e_or, e_ite, e_tup, e_lst, e_dic, e_idx, e_sl, e_call, e_blt, e_bm, e_isi, evT, evEs, evP, evKV, evAll, evAny, evAnd, evOr, asg, asgs, getE, setE, noneL, runM, r1]
    rw [Exs.l, for_cons rfl one]
    exact r2
end
end
end Sy
end
section
set_option Elab.async false
set_option linter.all false
set_option maxRecDepth 100000
set_option maxHeartbeats 4000000
/-! Sy10: rows by _law_scan_rows; _law_scan. -/
namespace Sy
open PySem (Str)
open Ev
open Ev (E Es Ks C Cs T Ts S Ss)

def rolesD : D := .dic false [(.str "del", .str "delete"), (.str "global", .str "global"), (.str "nonlocal", .str "nonlocal")]
def lrowB : Ss := (.cons (.iff (.of (.cmp .nin (.idx (.var 4) (.int 0)) (.tup (.cons (.str "do") (.cons (.str "return") (.cons (.str "hole") .nil)))))) (.cons (.exp (.bm .append (.idx (.var 2) (.str "mentions")) (.cons (.tup (.cons (.var 1) (.cons (.idx (.var 4) (.int 1)) (.cons (.bm .get2 (.var 3) (.cons (.idx (.var 4) (.int 0)) (.cons (.str "write") .nil))) (.cons (.var 1) (.cons .non .nil)))))) .nil)))
    .nil) .nil)
    (.cons (.iff (.of (.cmp .inn (.idx (.var 4) (.int 0)) (.tup (.cons (.str "set") (.cons (.str "do") (.cons (.str "return") .nil)))))) (.cons (.exp (.call .sh 205 (.cons (.idx (.var 4) (.neg (.int 1))) (.cons (.var 1) (.cons (.var 2) (.cons (.bl false) .nil))))))
    .nil) (.cons (.iff (.of (.cmp .eq (.idx (.var 4) (.int 0)) (.str "def"))) (.cons (.asg (.var 5) (.call .sh 203 (.cons (.var 2) (.cons (.var 1) (.cons (.str "function") .nil)))))
    (.cons (.exp (.bm .extend (.idx (.var 2) (.str "mentions")) (.cons (.comp true [6] (.tup (.cons (.var 5) (.cons (.var 6) (.cons (.str "parameter") (.cons (.var 5) (.cons .non .nil)))))) (.var 6) (.of (.idx (.var 4) (.int 2))) .nil) .nil)))
    (.cons (.exp (.call .sh 204 (.cons (.idx (.var 4) (.int 3)) (.cons (.var 5) (.cons (.var 2) .nil)))))
    .nil))) (.cons (.iff (.of (.cmp .eq (.idx (.var 4) (.int 0)) (.str "class"))) (.cons (.exp (.call .sh 204 (.cons (.idx (.var 4) (.int 2)) (.cons (.call .sh 203 (.cons (.var 2) (.cons (.var 1) (.cons (.str "class") .nil)))) (.cons (.var 2) .nil)))))
    .nil) .nil)
    .nil))
    .nil))
    .nil))
theorem roles_b : bmTy .get2 rolesD h = true := rfl
theorem roles_g {w : Str} {x : D} {h : Mm} : bmD .get2 rolesD [.str w, x] h = some ((lkD [(.str "del", .str "delete"), (.str "global", .str "global"), (.str "nonlocal", .str "nonlocal")] (.str w)).getD x, h) := rfl
section
variable {P : Prg} (H : HasLs P)
include H
mutual
theorem lrw_run : ∀ (e : Rw) (p : Path) (s : Sc) (d : Nat) (c2 : Fs) (x0 o5 o6 : Option D), Gd s → p ∈ s.keys → e.dp + 1 ≤ d → p.length + e.dp ≤ 190 → s.sz + e.z ≤ 1000000 →
    ∃ o5', evSs P (call P d) c2 lrowB [x0, some (pD p), some (.ref 5), some rolesD, some e.d, o5, o6] (hL s) = some (.nx, [x0, some (pD p), some (.ref 5), some rolesD, some e.d, o5', o6], hL (e.sc p s))
  | .set x e, p, s, d, c2, x0, o5, o6, g, hp, hd, hl, hz => by
    simp only [Rw.dp, Rw.z] at hd hl hz
    have m := app1 (s := s) (m := ⟨p, x, "write", p, none⟩) (by omega)
    simp only [m5, wD] at m
    have k0 := Kp.men g ⟨p, x, "write", p, none⟩
    have r1 := lex_run H e false p _ d k0.g hp (by omega) (by omega) (by have := k0.z; omega)
    exact ⟨o5, by simp [lrowB, evSs, s_asg, s_par, s_aug, s_augS, s_exp, s_ret, s_retN, s_iff, s_pass, s_brk, s_cnt, e_var, e_non, e_bl, e_int, e_str, e_glo, e_bin, e_neg, e_cmp, e_and, e_or, e_ite, e_tup, e_lst, e_dic, e_idx, e_sl, e_call, e_blt, e_bm, e_isi, evT, evEs, evP, evKV, evAll, evAny, evAnd, evOr, asg, asgs, getE, setE, noneL, Rw.d, lkD, keyOk, tru, Rw.sc, idx_t, atL, ixN, nthL, cmpD, eqM, scl2, scl, allScl, anyEq, inD, dictOf, seqOf, eqD, str_inj, roles_b, roles_g, y1, app1t, m, runM, r1, tb2, tb3, tb5]⟩
  | .del x, p, s, d, c2, x0, o5, o6, g, hp, hd, hl, hz => by
    simp only [Rw.dp, Rw.z] at hd hl hz
    have m := app1 (s := s) (m := ⟨p, x, "delete", p, none⟩) (by omega)
    simp only [m5, wD] at m
    exact ⟨o5, by simp [lrowB, evSs, s_asg, s_par, s_aug, s_augS, s_exp, s_ret, s_retN, s_iff, s_pass, s_brk, s_cnt, e_var, e_non, e_bl, e_int, e_str, e_glo, e_bin, e_neg, e_cmp, e_and, e_or, e_ite, e_tup, e_lst, e_dic, e_idx, e_sl, e_call, e_blt, e_bm, e_isi, evT, evEs, evP, evKV, evAll, evAny, evAnd, evOr, asg, asgs, getE, setE, noneL, Rw.d, lkD, keyOk, tru, Rw.sc, idx_t, atL, ixN, nthL, cmpD, eqM, scl2, scl, allScl, anyEq, inD, dictOf, seqOf, eqD, str_inj, roles_b, roles_g, y1, app1t, m, tb2, tb3, tb5]⟩
  | .glb x, p, s, d, c2, x0, o5, o6, g, hp, hd, hl, hz => by
    simp only [Rw.dp, Rw.z] at hd hl hz
    have m := app1 (s := s) (m := ⟨p, x, "global", p, none⟩) (by omega)
    simp only [m5, wD] at m
    exact ⟨o5, by simp [lrowB, evSs, s_asg, s_par, s_aug, s_augS, s_exp, s_ret, s_retN, s_iff, s_pass, s_brk, s_cnt, e_var, e_non, e_bl, e_int, e_str, e_glo, e_bin, e_neg, e_cmp, e_and, e_or, e_ite, e_tup, e_lst, e_dic, e_idx, e_sl, e_call, e_blt, e_bm, e_isi, evT, evEs, evP, evKV, evAll, evAny, evAnd, evOr, asg, asgs, getE, setE, noneL, Rw.d, lkD, keyOk, tru, Rw.sc, idx_t, atL, ixN, nthL, cmpD, eqM, scl2, scl, allScl, anyEq, inD, dictOf, seqOf, eqD, str_inj, roles_b, roles_g, y1, app1t, m, tb2, tb3, tb5]⟩
  | .nln x, p, s, d, c2, x0, o5, o6, g, hp, hd, hl, hz => by
    simp only [Rw.dp, Rw.z] at hd hl hz
    have m := app1 (s := s) (m := ⟨p, x, "nonlocal", p, none⟩) (by omega)
    simp only [m5, wD] at m
    exact ⟨o5, by simp [lrowB, evSs, s_asg, s_par, s_aug, s_augS, s_exp, s_ret, s_retN, s_iff, s_pass, s_brk, s_cnt, e_var, e_non, e_bl, e_int, e_str, e_glo, e_bin, e_neg, e_cmp, e_and, e_or, e_ite, e_tup, e_lst, e_dic, e_idx, e_sl, e_call, e_blt, e_bm, e_isi, evT, evEs, evP, evKV, evAll, evAny, evAnd, evOr, asg, asgs, getE, setE, noneL, Rw.d, lkD, keyOk, tru, Rw.sc, idx_t, atL, ixN, nthL, cmpD, eqM, scl2, scl, allScl, anyEq, inD, dictOf, seqOf, eqD, str_inj, roles_b, roles_g, y1, app1t, m, tb2, tb3, tb5]⟩
  | .hole, p, s, d, c2, x0, o5, o6, g, hp, hd, hl, hz => by
    have fin : hL s = hL (s.hole p) := rfl
    exact ⟨o5, by simp [lrowB, evSs, s_asg, s_par, s_aug, s_augS, s_exp, s_ret, s_retN, s_iff, s_pass, s_brk, s_cnt, e_var, e_non, e_bl, e_int, e_str, e_glo, e_bin, e_neg, e_cmp, e_and, e_or, e_ite, e_tup, e_lst, e_dic, e_idx, e_sl, e_call, e_blt, e_bm, e_isi, evT, evEs, evP, evKV, evAll, evAny, evAnd, evOr, asg, asgs, getE, setE, noneL, Rw.d, tru, Rw.sc, idx_t, atL, ixN, nthL, cmpD, eqM, scl2, scl, allScl, anyEq, inD, dictOf, seqOf, eqD, str_inj, tb2, tb3, ← fin]⟩
  | .dfn x ns b, p, s, d, c2, x0, o5, o6, g, hp, hd, hl, hz => by
    simp only [Rw.dp, Rw.z] at hd hl hz
    obtain ⟨d, rfl⟩ : ∃ k, d = k + 1 := ⟨d - 1, by omega⟩
    have m := app1 (s := s) (m := ⟨p, x, "write", p, none⟩) (by omega)
    have k0 := Kp.men g ⟨p, x, "write", p, none⟩
    have n1 := block_run H d k0.g hp "function" (by omega) (by have := k0.z; omega)
    have k1 := Kp.new k0.g hp "function"
    have p1 := ext1 (s := ((s.men ⟨p, x, "write", p, none⟩).new p "function").2) (q := ((s.men ⟨p, x, "write", p, none⟩).new p "function").1) (ns := ns) (by have := k0.z; have := k1.z; omega)
    have k2 := Kp.par k1.g ((s.men ⟨p, x, "write", p, none⟩).new p "function").1 ns
    have r1 := lrws_run b ((s.men ⟨p, x, "write", p, none⟩).new p "function").1 _ (d + 1) k2.g (new_in (s.men ⟨p, x, "write", p, none⟩) p "function") (by omega) (by simp [Sc.new]; omega) (by have := k0.z; have := k1.z; have := k2.z; omega)
    have cc : evE P (call P (d + 1)) c2 (.comp true [6] (.tup (.cons (.var 5) (.cons (.var 6) (.cons (.str "parameter") (.cons (.var 5) (.cons .non .nil)))))) (.var 6) (.of (.idx (.var 4) (.int 2))) .nil) [x0, some (pD p), some (.ref 5), some rolesD, some (Rw.dfn x ns b).d, some (pD ((s.men ⟨p, x, "write", p, none⟩).new p "function").1), o6] (hL ((s.men ⟨p, x, "write", p, none⟩).new p "function").2) = some (.lst (ns.map fun x' => m5 (pmn ((s.men ⟨p, x, "write", p, none⟩).new p "function").1 x')), hL ((s.men ⟨p, x, "write", p, none⟩).new p "function").2) := by
      refine comp_run (xs := nms ns) (w := none) ?_ (par_c (n := 0) ns _ _ (fun _ => rfl) (fun _ => rfl)) (by rw [nms_len]; omega)
      simp [i_of, evSs, s_asg, s_par, s_aug, s_augS, s_exp, s_ret, s_retN, s_iff, s_pass, s_brk, s_cnt, e_var, e_non, e_bl, e_int, e_str, e_glo, e_bin, e_neg, e_cmp, e_and, e_or, e_ite, e_tup, e_lst, e_dic, e_idx, e_sl, e_call, e_blt, e_bm, e_isi, evT, evEs, evP, evKV, evAll, evAny, evAnd, evOr, asg, asgs, getE, setE, noneL, Rw.d, idx_t, atL, ixN, nthL, walkOf]
    simp only [Rw.d] at cc
    have hsc : (Rw.dfn x ns b).sc p s = b.sc ((s.men ⟨p, x, "write", p, none⟩).new p "function").1 (((s.men ⟨p, x, "write", p, none⟩).new p "function").2.par ((s.men ⟨p, x, "write", p, none⟩).new p "function").1 ns) := rfl
    rw [hsc]
    generalize hq : ((s.men ⟨p, x, "write", p, none⟩).new p "function").1 = q at *
    generalize hs : ((s.men ⟨p, x, "write", p, none⟩).new p "function").2 = s' at *
    simp only [m5, wD] at m
    exact ⟨some (pD q), by simp [lrowB, evSs, s_asg, s_par, s_aug, s_augS, s_exp, s_ret, s_retN, s_iff, s_pass, s_brk, s_cnt, e_var, e_non, e_bl, e_int, e_str, e_glo, e_bin, e_neg, e_cmp, e_and, e_or, e_ite, e_tup, e_lst, e_dic, e_idx, e_sl, e_call, e_blt, e_bm, e_isi, evT, evEs, evP, evKV, evAll, evAny, evAnd, evOr, asg, asgs, getE, setE, noneL, Rw.d, lkD, keyOk, tru, idx_t, atL, ixN, nthL, cmpD, eqM, scl2, scl, allScl, anyEq, inD, dictOf, seqOf, eqD, str_inj, roles_b, roles_g, y1, app1t, ext1t, m, runM, n1, cc, p1, r1, tb2, tb3, tb5]⟩
  | .kls x b, p, s, d, c2, x0, o5, o6, g, hp, hd, hl, hz => by
    simp only [Rw.dp, Rw.z] at hd hl hz
    obtain ⟨d, rfl⟩ : ∃ k, d = k + 1 := ⟨d - 1, by omega⟩
    have m := app1 (s := s) (m := ⟨p, x, "write", p, none⟩) (by omega)
    simp only [m5, wD] at m
    have k0 := Kp.men g ⟨p, x, "write", p, none⟩
    have n1 := block_run H d k0.g hp "class" (by omega) (by have := k0.z; omega)
    have k1 := Kp.new k0.g hp "class"
    have r1 := lrws_run b ((s.men ⟨p, x, "write", p, none⟩).new p "class").1 _ (d + 1) k1.g (new_in (s.men ⟨p, x, "write", p, none⟩) p "class") (by omega) (by simp [Sc.new]; omega) (by have := k0.z; have := k1.z; omega)
    exact ⟨o5, by simp [lrowB, evSs, s_asg, s_par, s_aug, s_augS, s_exp, s_ret, s_retN, s_iff, s_pass, s_brk, s_cnt, e_var, e_non, e_bl, e_int, e_str, e_glo, e_bin, e_neg, e_cmp, e_and, e_or, e_ite, e_tup, e_lst, e_dic, e_idx, e_sl, e_call, e_blt, e_bm, e_isi, evT, evEs, evP, evKV, evAll, evAny, evAnd, evOr, asg, asgs, getE, setE, noneL, Rw.d, lkD, keyOk, tru, Rw.sc, idx_t, atL, ixN, nthL, cmpD, eqM, scl2, scl, allScl, anyEq, inD, dictOf, seqOf, eqD, str_inj, roles_b, roles_g, y1, app1t, m, runM, n1, r1, tb2, tb3, tb5]⟩
  | .ret e, p, s, d, c2, x0, o5, o6, g, hp, hd, hl, hz => by
    simp only [Rw.dp, Rw.z] at hd hl hz
    have r1 := lex_run H e false p _ d g hp (by omega) (by omega) (by omega)
    exact ⟨o5, by simp [lrowB, evSs, s_asg, s_par, s_aug, s_augS, s_exp, s_ret, s_retN, s_iff, s_pass, s_brk, s_cnt, e_var, e_non, e_bl, e_int, e_str, e_glo, e_bin, e_neg, e_cmp, e_and, e_or, e_ite, e_tup, e_lst, e_dic, e_idx, e_sl, e_call, e_blt, e_bm, e_isi, evT, evEs, evP, evKV, evAll, evAny, evAnd, evOr, asg, asgs, getE, setE, noneL, Rw.d, tru, Rw.sc, idx_t, atL, ixN, nthL, cmpD, eqM, scl2, scl, allScl, anyEq, inD, dictOf, seqOf, eqD, str_inj, runM, r1, tb2, tb3]⟩
  | .doo e, p, s, d, c2, x0, o5, o6, g, hp, hd, hl, hz => by
    simp only [Rw.dp, Rw.z] at hd hl hz
    have r1 := lex_run H e false p _ d g hp (by omega) (by omega) (by omega)
    exact ⟨o5, by simp [lrowB, evSs, s_asg, s_par, s_aug, s_augS, s_exp, s_ret, s_retN, s_iff, s_pass, s_brk, s_cnt, e_var, e_non, e_bl, e_int, e_str, e_glo, e_bin, e_neg, e_cmp, e_and, e_or, e_ite, e_tup, e_lst, e_dic, e_idx, e_sl, e_call, e_blt, e_bm, e_isi, evT, evEs, evP, evKV, evAll, evAny, evAnd, evOr, asg, asgs, getE, setE, noneL, Rw.d, tru, Rw.sc, idx_t, atL, ixN, nthL, cmpD, eqM, scl2, scl, allScl, anyEq, inD, dictOf, seqOf, eqD, str_inj, runM, r1, tb2, tb3]⟩
theorem lrws_loop : ∀ (l : Rws) (p : Path) (s : Sc) (d : Nat) (c2 : Fs) (x0 o4 o5 o6 : Option D), Gd s → p ∈ s.keys → l.dp ≤ d → p.length + l.dp ≤ 190 → s.sz + l.z ≤ 1000000 →
    ∃ o4' o5', forL (fun h => stay h none) (turnG (asg P (call P d) c2 (.var 4)) (evSs P (call P d) c2 lrowB)) l.l [x0, some (pD p), some (.ref 5), some rolesD, o4, o5, o6] (hL s) = some (.nx, [x0, some (pD p), some (.ref 5), some rolesD, o4', o5', o6], hL (l.sc p s))
  | .nil, p, s, d, c2, x0, o4, o5, o6, g, hp, hd, hl, hz => ⟨o4, o5, for_nil rfl⟩
  | .cons r t, p, s, d, c2, x0, o4, o5, o6, g, hp, hd, hl, hz => by
    simp only [Rws.dp, Rws.z] at hd hl hz
    have k1 := Rw.kp r p s g hp
    obtain ⟨o5', r1⟩ := lrw_run r p s d c2 x0 o5 o6 g hp (by omega) (by omega) (by omega)
    obtain ⟨o4'', o5'', r2⟩ := lrws_loop t p (r.sc p s) d c2 x0 (some r.d) o5' o6 k1.g (k1.k p hp) (by omega) (by omega) (by have := k1.z; omega)
    refine ⟨o4'', o5'', ?_⟩
    have one : turnG (asg P (call P d) c2 (.var 4)) (evSs P (call P d) c2 lrowB) r.d [x0, some (pD p), some (.ref 5), some rolesD, o4, o5, o6] (hL s) = some (.nx, [x0, some (pD p), some (.ref 5), some rolesD, some r.d, o5', o6], hL (r.sc p s)) := r1
    rw [Rws.l, for_cons rfl one]
    exact r2
theorem lrws_run : ∀ (l : Rws) (p : Path) (s : Sc) (d : Nat), Gd s → p ∈ s.keys → l.dp + 1 ≤ d → p.length + l.dp ≤ 190 → s.sz + l.z ≤ 1000000 →
    call P d 204 [.tup l.l, pD p, .ref 5] (hL s) = some (.non, hL (l.sc p s)) := fun l p s d g hp hd hl hz => by
    obtain ⟨d, rfl⟩ : ∃ k, d = k + 1 := ⟨d - 1, by omega⟩
    obtain ⟨o4', o5', e⟩ := lrws_loop l p s d ((calls P d).2) (some (.tup l.l)) none none none g hp (by omega) hl hz
    have e2 : evS P (call P d) (calls P d).2 (.for_ (.var 4) (.of (.var 0)) lrowB) [some (.tup l.l), some (pD p), some (.ref 5), some rolesD, none, none, none] (hL s) = some (.nx, [some (.tup l.l), some (pD p), some (.ref 5), some rolesD, o4', o5', none], hL (l.sc p s)) := by
      rw [s_for]
      simp only [i_of, e_var, getE, walkOf]
      exact e
    have rd : evE P (call P d) (calls P d).2 (.dic true false (.cons (.str "del") (.str "delete") (.cons (.str "global") (.str "global") (.cons (.str "nonlocal") (.str "nonlocal") .nil)))) [some (.tup l.l), some (pD p), some (.ref 5), none, none, none, none] (hL s) = some (rolesD, hL s) := by
      rfl
    unfold lrowB at e2
    rw [call_f H.f4]
    simp only [B204, evSs, s_asg, asg, setE, rd, e2, List.length_cons, List.length_nil, Nat.reduceAdd, if_true, List.map_cons, List.map_nil, Nat.reduceSub, noneL, List.cons_append, List.nil_append]
end
end
end Sy
end
section
set_option Elab.async false
set_option linter.all false
set_option maxRecDepth 100000
set_option maxHeartbeats 4000000
/-! Sy11: what is shown is not too long. -/
namespace Sy
open PySem (Str)
open Ev
open Ev (E Es Ks C Cs T Ts S Ss)

mutual
def okD : D → Bool
  | .non | .bl _ => true
  | .int i => Nat.blt i.natAbs (10 ^ 20)
  | .str x => strB x.cps.toList
  | .tup xs | .lst xs => okL xs
  | _ => false
def okL : List D → Bool
  | [] => true
  | d :: r => okD d && okL r
end
mutual
def swD : D → Nat
  | .str x => 10 * x.length + 2
  | .tup xs | .lst xs => swL xs + 3
  | _ => 25
def swL : List D → Nat
  | [] => 0
  | d :: r => swD d + 2 + swL r
end
mutual
def dpD : D → Nat
  | .tup xs | .lst xs => dpL xs + 1
  | _ => 0
def dpL : List D → Nat
  | [] => 0
  | d :: r => max (dpD d) (dpL r)
end
theorem strB_mem : ∀ {l : List Nat}, strB l = true → ∀ c ∈ l, c < 16 ^ 8
  | [], _, c, h => by cases h
  | a :: r, e, c, h => by
    simp only [strB, Bool.and_eq_true] at e
    rcases List.mem_cons.mp h with rfl | h
    · have : c < 1114112 := Nat.le_of_ble_eq_true e.1
      exact Nat.lt_trans this (by decide)
    · exact strB_mem e.2 c h
theorem nat_len {n : Nat} (h : n < 10 ^ 20) : (toString n).length ≤ 20 := by
  rw [Nat.toString_eq_ofList_toDigits, String.length_ofList]
  exact (Nat.length_toDigits_le_iff (by decide) (by decide)).mpr h
theorem int_len {i : Int} (h : i.natAbs < 10 ^ 20) : (toString i).length ≤ 21 := by
  cases i with
  | ofNat n =>
    show (toString n).length ≤ 21
    exact Nat.le_succ_of_le (nat_len h)
  | negSucc n =>
    show ("-" ++ toString (n + 1)).length ≤ 21
    rw [String.length_append]
    have := nat_len (n := n + 1) h
    have e : ("-" : String).length = 1 := rfl
    omega
theorem log_ok {n : Nat} (h : n < 10 ^ 20) : n.log2 < 1920 := by
  by_cases h0 : n = 0
  · subst h0; decide
  · rw [Nat.log2_lt h0]
    exact Nat.lt_trans h (by decide +kernel)
theorem len_app (a b : Str) : (a ++ b).length = a.length + b.length := PySem.strLen_append a b
theorem textFrom_le : ∀ (ts : List Str) (k : Nat) (acc : Str), (PySem.textFrom k acc ts).length ≤ acc.length + (ts.map fun t => t.length + 2).sum
  | [], k, acc => by simp [PySem.textFrom]
  | t :: r, k, acc => by
    have ih := textFrom_le r (k + 1) (acc ++ (if k > 0 then ", " else "" : String) ++ t)
    have e : (acc ++ (if k > 0 then ", " else "" : String) ++ t).length ≤ acc.length + 2 + t.length := by
      rw [len_app, len_app]
      split
      · exact Nat.le_refl _
      · show acc.length + 0 + t.length ≤ _; omega
    show (PySem.textFrom (k + 1) (acc ++ (if k > 0 then ", " else "" : String) ++ t) r).length ≤ _
    simp only [List.map_cons, List.sum_cons]
    omega
theorem join_le : ∀ ts : List Str, (Str.join ", " ts).length ≤ (ts.map fun t => t.length + 2).sum
  | [] => Nat.le_refl _
  | [x] => by simp [Str.join]
  | x :: y :: r => by
    have ih := join_le (y :: r)
    show (x ++ ", " ++ Str.join ", " (y :: r)).length ≤ _
    rw [len_app, len_app]
    have e : ((", " : String) : Str).length = 2 := rfl
    simp only [List.map_cons, List.sum_cons] at ih ⊢
    omega
mutual
theorem show_le : ∀ d : D, okD d = true → (toPy d).showable = true ∧ (toPy d).shown.length ≤ swD d
  | .non, _ => ⟨rfl, by simp only [toPy, PySem.PyData.shown]; exact (by decide : (("None" : String) : Str).length ≤ 25)⟩
  | .bl b, _ => ⟨rfl, by cases b <;> simp only [toPy, PySem.PyData.shown] <;> (first | exact (by decide : (("True" : String) : Str).length ≤ 25) | exact (by decide : (("False" : String) : Str).length ≤ 25))⟩
  | .int i, h => by
    have h' : i.natAbs < 10 ^ 20 := Nat.le_of_ble_eq_true h
    refine ⟨?_, ?_⟩
    · simp only [toPy, PySem.PyData.showable]
      exact decide_eq_true (log_ok h')
    · simp only [toPy, PySem.PyData.shown]
      have := int_len h'
      have e : ((toString i : String) : Str).length = (toString i).length := PySem.ofString_length _
      show ((toString i : String) : Str).length ≤ 25
      omega
  | .str x, h => by
    refine ⟨rfl, ?_⟩
    simp only [toPy, PySem.PyData.shown, swD]
    exact PySem.StrLaws.reprText_len x (strB_mem (by simpa [okD] using h))
  | .tup xs, h => by
    obtain ⟨h1, h2⟩ := showL_le xs (by simpa [okD] using h)
    refine ⟨by simpa only [toPy, PySem.PyData.showable] using h1, ?_⟩
    simp only [toPy, PySem.PyData.shown, swD, PySem.tupleText, len_app]
    have := join_le (PySem.PyData.shownAll (toPys xs))
    have e1 : (("(" : String) : Str).length = 1 := rfl
    have e2 : ((if (PySem.PyData.shownAll (toPys xs)).length == 1 then ",)" else ")" : String) : Str).length ≤ 2 := by split <;> decide
    omega
  | .lst xs, h => by
    obtain ⟨h1, h2⟩ := showL_le xs (by simpa [okD] using h)
    refine ⟨by simpa only [toPy, PySem.PyData.showable] using h1, ?_⟩
    simp only [toPy, PySem.PyData.shown, swD, PySem.listText, len_app]
    have := textFrom_le (PySem.PyData.shownAll (toPys xs)) 0 "["
    have e1 : (("[" : String) : Str).length = 1 := rfl
    have e2 : (("]" : String) : Str).length = 1 := rfl
    omega
theorem showL_le : ∀ xs : List D, okL xs = true → PySem.PyData.showableAll (toPys xs) = true ∧ ((PySem.PyData.shownAll (toPys xs)).map fun t => t.length + 2).sum ≤ swL xs
  | [], _ => ⟨rfl, Nat.le_refl _⟩
  | d :: r, h => by
    simp only [okL, Bool.and_eq_true] at h
    obtain ⟨a1, a2⟩ := show_le d h.1
    obtain ⟨b1, b2⟩ := showL_le r h.2
    refine ⟨by simp only [toPys, PySem.PyData.showableAll, a1, b1, Bool.and_self], ?_⟩
    simp only [toPys, PySem.PyData.shownAll, List.map_cons, List.sum_cons, swL]
    omega
end
mutual
theorem ok_pure : ∀ d : D, okD d = true → pureD d = true
  | .non, _ => rfl
  | .bl _, _ => rfl
  | .int _, _ => rfl
  | .str _, _ => rfl
  | .tup xs, h => by simpa [pureD] using okL_pure xs (by simpa [okD] using h)
  | .lst xs, h => by simpa [pureD] using okL_pure xs (by simpa [okD] using h)
theorem okL_pure : ∀ xs : List D, okL xs = true → pureL xs = true
  | [], _ => rfl
  | d :: r, h => by
    simp only [okL, Bool.and_eq_true] at h
    simp only [pureL, ok_pure d h.1, okL_pure r h.2, Bool.and_self]
end
mutual
theorem ok_data : ∀ d : D, okD d = true → dataD d = some (dpD d)
  | .non, _ => rfl
  | .bl _, _ => rfl
  | .int _, _ => rfl
  | .str x, h => by
    have h : strB x.cps.toList = true := by simpa [okD] using h
    simp [dataD, dpD, h]
  | .tup xs, h => by simp [dataD, dpD, okL_data xs (by simpa [okD] using h)]
  | .lst xs, h => by simp [dataD, dpD, okL_data xs (by simpa [okD] using h)]
theorem okL_data : ∀ xs : List D, okL xs = true → dataL xs = some (dpL xs)
  | [], _ => rfl
  | d :: r, h => by
    simp only [okL, Bool.and_eq_true] at h
    simp [dataL, dpL, ok_data d h.1, okL_data r h.2]
end
theorem dat_ok {d : D} {h : Mm} (o : okD d = true) (p : dpD d ≤ 60) : dat h d = some d := by
  simp only [dat, frz_pure (ok_pure d o), ok_data d o, Nat.ble_eq_true_of_le p, cond_true]
/-- repr of data -/
theorem repr_ok {d : D} {h : Mm} {xs : List D} (hd : d = .tup xs ∨ d = .lst xs) (o : okD d = true) (p : dpD d ≤ 60) (w : swD d ≤ most) : bltD .repr true [d] h = some (.str (toPy d).shown, h) := by
  obtain ⟨h1, h2⟩ := show_le d o
  have h3 := Nat.ble_eq_true_of_le (Nat.le_trans h2 w)
  rcases hd with rfl | rfl <;> simp only [bltD, dat_ok o p, h1, h3, Bool.and_self, cond_true]
theorem repr_ref {n : Nat} {h : Mm} {xs : List D} (e : h.get n = some (.lst xs)) (o : okL xs = true) (p : dpL xs + 1 ≤ 60) (w : swL xs + 3 ≤ most) : bltD .repr true [.ref n] h = some (.str (toPy (.lst xs)).shown, h) := by
  have o' : okD (.lst xs) = true := by simpa [okD] using o
  obtain ⟨h1, h2⟩ := show_le (.lst xs) o'
  have h3 := Nat.ble_eq_true_of_le (Nat.le_trans h2 w)
  have hd : dat h (.ref n) = some (.lst xs) := by
    have hf : frz fdp h (.ref n) = some (.lst xs) := by
      rw [show fdp = 23 + 1 from rfl, frz_lst e (okL_pure xs o)]
    have hz : dataD (.lst xs) = some (dpL xs + 1) := ok_data (.lst xs) o'
    simp only [dat, hf, hz, Nat.ble_eq_true_of_le p, cond_true]
  simp only [bltD, hd, h1, h3, Bool.and_self, cond_true]
end Sy
end
section
set_option Elab.async false
set_option linter.all false
set_option maxRecDepth 100000
set_option maxHeartbeats 4000000
/-! Sy12: programs with good names; what the scan finds is good data of known size. -/
namespace Sy
open PySem (Str)
open Ev
open Ev (E Es Ks C Cs T Ts S Ss)

def okS (x : Str) : Prop := strB x.cps.toList = true ∧ x.length ≤ 9
def okI (i : Int) : Prop := i.natAbs < 10 ^ 20
mutual
def Ex.ok : Ex → Prop
  | .num i => okI i
  | .nam x => okS x
  | .cal f as => f.ok ∧ as.ok
  | .lam ns e => (∀ x ∈ ns, okS x) ∧ e.ok
  | .wal x e => okS x ∧ e.ok
  | .lst e cs => e.ok ∧ cs.ok
def Exs.ok : Exs → Prop
  | .nil => True
  | .cons e r => e.ok ∧ r.ok
def Cl.ok : Cl → Prop
  | .nil => True
  | .cons x e r => okS x ∧ e.ok ∧ r.ok
end
mutual
def Rw.ok : Rw → Prop
  | .set x e => okS x ∧ e.ok
  | .del x => okS x
  | .glb x => okS x
  | .nln x => okS x
  | .hole => True
  | .dfn x ns b => okS x ∧ (∀ y ∈ ns, okS y) ∧ b.ok
  | .kls x b => okS x ∧ b.ok
  | .ret e => e.ok
  | .doo e => e.ok
def Rws.ok : Rws → Prop
  | .nil => True
  | .cons r s => r.ok ∧ s.ok
end
theorem okL_of {l : List D} (h : ∀ d ∈ l, okD d = true) : okL l = true := by
  induction l with
  | nil => rfl
  | cons a r ih => simp [okL, h a (List.mem_cons_self ..), ih fun d hd => h d (List.mem_cons_of_mem _ hd)]
theorem dpL_of {l : List D} {n : Nat} (h : ∀ d ∈ l, dpD d ≤ n) : dpL l ≤ n := by
  induction l with
  | nil => exact Nat.zero_le _
  | cons a r ih =>
    have h1 := h a (List.mem_cons_self ..)
    have h2 := ih fun d hd => h d (List.mem_cons_of_mem _ hd)
    simp only [dpL]; omega
theorem swL_of {l : List D} {n : Nat} (h : ∀ d ∈ l, swD d + 2 ≤ n) : swL l ≤ l.length * n := by
  induction l with
  | nil => simp [swL]
  | cons a r ih =>
    have h1 := h a (List.mem_cons_self ..)
    have h2 := ih fun d hd => h d (List.mem_cons_of_mem _ hd)
    simp only [swL, List.length_cons, Nat.succ_mul]; omega
theorem nms_ok {ns : List Str} (h : ∀ x ∈ ns, okS x) : okL (nms ns) = true ∧ swL (nms ns) ≤ 94 * ns.length ∧ dpL (nms ns) = 0 := by
  refine ⟨okL_of fun d hd => ?_, ?_, ?_⟩
  · obtain ⟨x, hx, rfl⟩ := List.mem_map.mp hd
    simpa [okD] using (h x hx).1
  · have := swL_of (l := nms ns) (n := 94) fun d hd => by
      obtain ⟨x, hx, rfl⟩ := List.mem_map.mp hd
      have := (h x hx).2
      simp only [swD]; omega
    rw [nms_len] at this; omega
  · have := dpL_of (l := nms ns) (n := 0) fun d hd => by
      obtain ⟨x, hx, rfl⟩ := List.mem_map.mp hd
      exact Nat.le_refl _
    omega
theorem lit_sw (x : String) : swD (.str x) = 10 * x.length + 2 := by
  have e : (x : Str).length = x.length := PySem.ofString_length x
  simp [swD, e]
theorem lit_ok {x : String} (h : strB (x : Str).cps.toList = true) : okD (.str x) = true := by simpa [okD] using h
mutual
theorem Ex.good : ∀ e : Ex, e.ok → okD e.d = true ∧ swD e.d + 60 ≤ 300 * e.z ∧ dpD e.d ≤ 2 * e.dp
  | .num i, h => ⟨by simp only [Ex.d, okD]; exact Nat.ble_eq_true_of_le h, by simp [Ex.d, swD, Ex.z], by simp [Ex.d, dpD]⟩
  | .nam x, h => by
    have l : ("name" : String).length = 4 := rfl
    refine ⟨?_, ?_, ?_⟩
    · have : strB (("name" : String) : Str).cps.toList = true := by decide
      simp [Ex.d, okD, okL, h.1, this]
    · have := h.2
      simp only [Ex.d, swD, swL, lit_sw, l, Ex.z]
      have e : (("name" : String) : Str).length = 4 := rfl
      omega
    · simp [Ex.d, dpD, dpL, Ex.dp]
  | .cal f as, h => by
    obtain ⟨a1, a2, a3⟩ := Ex.good f h.1
    obtain ⟨b1, b2, b3⟩ := Exs.good as h.2
    have e : (("call" : String) : Str).length = 4 := rfl
    refine ⟨?_, ?_, ?_⟩
    · have : strB (("call" : String) : Str).cps.toList = true := by decide
      simp [Ex.d, okD, okL, a1, b1, this]
    · simp only [Ex.d, swD, swL, e, Ex.z]; omega
    · simp only [Ex.d, dpD, dpL, Ex.dp]; omega
  | .lam ns f, h => by
    obtain ⟨a1, a2, a3⟩ := Ex.good f h.2
    obtain ⟨b1, b2, b3⟩ := nms_ok h.1
    have e : (("lambda" : String) : Str).length = 6 := rfl
    refine ⟨?_, ?_, ?_⟩
    · have : strB (("lambda" : String) : Str).cps.toList = true := by decide
      simp [Ex.d, okD, okL, a1, b1, this]
    · simp only [Ex.d, swD, swL, e, Ex.z]; omega
    · simp only [Ex.d, dpD, dpL, Ex.dp, b3]; omega
  | .wal x f, h => by
    obtain ⟨a1, a2, a3⟩ := Ex.good f h.2
    have e : (("walrus" : String) : Str).length = 6 := rfl
    have := h.1.2
    refine ⟨?_, ?_, ?_⟩
    · have : strB (("walrus" : String) : Str).cps.toList = true := by decide
      simp [Ex.d, okD, okL, a1, h.1.1, this]
    · simp only [Ex.d, swD, swL, e, Ex.z]; omega
    · simp only [Ex.d, dpD, dpL, Ex.dp]; omega
  | .lst f cs, h => by
    obtain ⟨a1, a2, a3⟩ := Ex.good f h.1
    obtain ⟨b1, b2, b3⟩ := Cl.good cs h.2
    have e : (("list" : String) : Str).length = 4 := rfl
    refine ⟨?_, ?_, ?_⟩
    · have : strB (("list" : String) : Str).cps.toList = true := by decide
      simp [Ex.d, okD, okL, a1, b1, this]
    · simp only [Ex.d, swD, swL, e, Ex.z]; omega
    · simp only [Ex.d, dpD, dpL, Ex.dp]; omega
theorem Exs.good : ∀ e : Exs, e.ok → okL e.l = true ∧ swL e.l ≤ 300 * e.z ∧ dpL e.l ≤ 2 * e.dp
  | .nil, _ => ⟨rfl, Nat.zero_le _, Nat.zero_le _⟩
  | .cons f r, h => by
    obtain ⟨a1, a2, a3⟩ := Ex.good f h.1
    obtain ⟨b1, b2, b3⟩ := Exs.good r h.2
    refine ⟨by simp [Exs.l, okL, a1, b1], ?_, ?_⟩
    · simp only [Exs.l, swL, Exs.z]; omega
    · simp only [Exs.l, dpL, Exs.dp]; omega
theorem Cl.good : ∀ e : Cl, e.ok → okL e.l = true ∧ swL e.l ≤ 300 * e.z ∧ dpL e.l ≤ 2 * e.dp + 1
  | .nil, _ => ⟨rfl, Nat.zero_le _, Nat.zero_le _⟩
  | .cons x f r, h => by
    obtain ⟨a1, a2, a3⟩ := Ex.good f h.2.1
    obtain ⟨b1, b2, b3⟩ := Cl.good r h.2.2
    have := h.1.2
    refine ⟨by simp [Cl.l, okL, okD, a1, b1, h.1.1], ?_, ?_⟩
    · simp only [Cl.l, swL, swD, Cl.z]; omega
    · simp only [Cl.l, dpL, dpD, Cl.dp]; omega
end
mutual
theorem Rw.good : ∀ e : Rw, e.ok → okD e.d = true ∧ swD e.d + 2 ≤ 400 * e.z ∧ dpD e.d ≤ 2 * e.dp
  | .set x f, h => by
    obtain ⟨a1, a2, a3⟩ := Ex.good f h.2
    have e : (("set" : String) : Str).length = 3 := rfl
    have := h.1.2
    refine ⟨?_, ?_, ?_⟩
    · have : strB (("set" : String) : Str).cps.toList = true := by decide
      simp [Rw.d, okD, okL, a1, h.1.1, this]
    · simp only [Rw.d, swD, swL, e, Rw.z]; omega
    · simp only [Rw.d, dpD, dpL, Rw.dp]; omega
  | .del x, h => by
    have e : (("del" : String) : Str).length = 3 := rfl
    have := h.2
    refine ⟨?_, ?_, ?_⟩
    · have : strB (("del" : String) : Str).cps.toList = true := by decide
      simp [Rw.d, okD, okL, h.1, this]
    · simp only [Rw.d, swD, swL, e, Rw.z]; omega
    · simp only [Rw.d, dpD, dpL, Rw.dp]; omega
  | .glb x, h => by
    have e : (("global" : String) : Str).length = 6 := rfl
    have := h.2
    refine ⟨?_, ?_, ?_⟩
    · have : strB (("global" : String) : Str).cps.toList = true := by decide
      simp [Rw.d, okD, okL, h.1, this]
    · simp only [Rw.d, swD, swL, e, Rw.z]; omega
    · simp only [Rw.d, dpD, dpL, Rw.dp]; omega
  | .nln x, h => by
    have e : (("nonlocal" : String) : Str).length = 8 := rfl
    have := h.2
    refine ⟨?_, ?_, ?_⟩
    · have : strB (("nonlocal" : String) : Str).cps.toList = true := by decide
      simp [Rw.d, okD, okL, h.1, this]
    · simp only [Rw.d, swD, swL, e, Rw.z]; omega
    · simp only [Rw.d, dpD, dpL, Rw.dp]; omega
  | .hole, h => by
    have e : (("hole" : String) : Str).length = 4 := rfl
    refine ⟨by decide, ?_, ?_⟩
    · simp only [Rw.d, swD, swL, e, Rw.z]; omega
    · simp only [Rw.d, dpD, dpL, Rw.dp]; omega
  | .dfn x ns b, h => by
    obtain ⟨a1, a2, a3⟩ := Rws.good b h.2.2
    obtain ⟨b1, b2, b3⟩ := nms_ok h.2.1
    have e : (("def" : String) : Str).length = 3 := rfl
    have := h.1.2
    refine ⟨?_, ?_, ?_⟩
    · have : strB (("def" : String) : Str).cps.toList = true := by decide
      simp [Rw.d, okD, okL, a1, b1, h.1.1, this]
    · simp only [Rw.d, swD, swL, e, Rw.z]; omega
    · simp only [Rw.d, dpD, dpL, Rw.dp, b3]; omega
  | .kls x b, h => by
    obtain ⟨a1, a2, a3⟩ := Rws.good b h.2
    have e : (("class" : String) : Str).length = 5 := rfl
    have := h.1.2
    refine ⟨?_, ?_, ?_⟩
    · have : strB (("class" : String) : Str).cps.toList = true := by decide
      simp [Rw.d, okD, okL, a1, h.1.1, this]
    · simp only [Rw.d, swD, swL, e, Rw.z]; omega
    · simp only [Rw.d, dpD, dpL, Rw.dp]; omega
  | .ret f, h => by
    obtain ⟨a1, a2, a3⟩ := Ex.good f h
    have e : (("return" : String) : Str).length = 6 := rfl
    have := Ex.zp f
    refine ⟨?_, ?_, ?_⟩
    · have : strB (("return" : String) : Str).cps.toList = true := by decide
      simp [Rw.d, okD, okL, a1, this]
    · simp only [Rw.d, swD, swL, e, Rw.z]; omega
    · simp only [Rw.d, dpD, dpL, Rw.dp]; omega
  | .doo f, h => by
    obtain ⟨a1, a2, a3⟩ := Ex.good f h
    have e : (("do" : String) : Str).length = 2 := rfl
    have := Ex.zp f
    refine ⟨?_, ?_, ?_⟩
    · have : strB (("do" : String) : Str).cps.toList = true := by decide
      simp [Rw.d, okD, okL, a1, this]
    · simp only [Rw.d, swD, swL, e, Rw.z]; omega
    · simp only [Rw.d, dpD, dpL, Rw.dp]; omega
theorem Rws.good : ∀ e : Rws, e.ok → okL e.l = true ∧ swL e.l ≤ 400 * e.z ∧ dpL e.l + 2 ≤ 2 * e.dp
  | .nil, _ => ⟨rfl, Nat.zero_le _, by simp [Rws.l, dpL, Rws.dp]⟩
  | .cons r t, h => by
    obtain ⟨a1, a2, a3⟩ := Rw.good r h.1
    obtain ⟨b1, b2, b3⟩ := Rws.good t h.2
    refine ⟨by simp [Rws.l, okL, a1, b1], ?_, ?_⟩
    · simp only [Rws.l, swL, Rws.z]; omega
    · simp only [Rws.l, dpL, Rws.dp]; omega
end
end Sy
end
section
set_option Elab.async false
set_option linter.all false
set_option maxRecDepth 100000
set_option maxHeartbeats 4000000
/-! Sy13: the scan of a good program is good data. -/
namespace Sy
open PySem (Str)
open Ev
open Ev (E Es Ks C Cs T Ts S Ss)

structure Gq (N : Nat) (s : Sc) : Prop where
  ct : ∀ x ∈ s.cn, x.2 ≤ s.bs.length
  el : ∀ q ∈ s.keys, q.length ≤ N ∧ ∀ i ∈ q, i ≤ s.bs.length
  ms : ∀ m ∈ s.ms, m.p ∈ s.keys ∧ okS m.n ∧ okS m.r
  bs : ∀ x ∈ s.bs, okS x.2
theorem cnt_le {n : Nat} : ∀ (l : List (Path × Nat)) (p : Path), (∀ x ∈ l, x.2 ≤ n) → cnt l p ≤ n
  | [], _, _ => Nat.zero_le _
  | (q, k) :: r, p, h => by
    by_cases e : q = p
    · simp [cnt, e]; exact h _ (List.mem_cons_self ..)
    · simp [cnt, e]; exact cnt_le r p fun x hx => h x (List.mem_cons_of_mem _ hx)
theorem inc_le {n : Nat} : ∀ (l : List (Path × Nat)) (p : Path), (∀ x ∈ l, x.2 ≤ n) → ∀ x ∈ inc l p, x.2 ≤ n + 1
  | [], _, _, x, hx => by simp [inc] at hx
  | (q, k) :: r, p, h, x, hx => by
    have h1 := h _ (List.mem_cons_self ..)
    by_cases e : q = p
    · simp only [inc, e, if_true, List.mem_cons] at hx
      rcases hx with rfl | hx
      · simp only at h1 ⊢; omega
      · exact Nat.le_succ_of_le (h x (List.mem_cons_of_mem _ hx))
    · simp only [inc, e, if_false, List.mem_cons] at hx
      rcases hx with rfl | hx
      · exact Nat.le_succ_of_le h1
      · exact inc_le r p (fun y hy => h y (List.mem_cons_of_mem _ hy)) x hx
theorem Gq.new {N : Nat} {s : Sc} (g : Gq N s) {p : Path} (hp : p ∈ s.keys) (hN : p.length + 1 ≤ N) {k : Str} (hk : okS k) : Gq N (s.new p k).2 := by
  have lb : (s.new p k).2.bs.length = s.bs.length + 1 := by simp [Sc.new]
  refine ⟨fun x hx => ?_, fun q hq => ?_, fun m hm => ?_, fun x hx => ?_⟩
  · rw [lb]
    simp only [Sc.new, List.mem_append, List.mem_singleton] at hx
    rcases hx with hx | rfl
    · exact inc_le _ _ g.ct x hx
    · exact Nat.zero_le _
  · rw [lb]
    rw [new_keys] at hq
    rcases List.mem_append.mp hq with hq | hq
    · obtain ⟨h1, h2⟩ := g.el q hq
      exact ⟨h1, fun i hi => Nat.le_succ_of_le (h2 i hi)⟩
    · rw [List.mem_singleton.mp hq]
      obtain ⟨h1, h2⟩ := g.el p hp
      refine ⟨by simp [Sc.new]; exact hN, fun i hi => ?_⟩
      simp only [Sc.new, List.mem_append, List.mem_singleton] at hi
      rcases hi with hi | rfl
      · exact Nat.le_succ_of_le (h2 i hi)
      · exact Nat.le_succ_of_le (cnt_le _ _ g.ct)
  · obtain ⟨h1, h2⟩ := g.ms m hm
    exact ⟨by rw [new_keys]; exact List.mem_append_left _ h1, h2⟩
  · simp only [Sc.new, List.mem_append, List.mem_singleton] at hx
    rcases hx with hx | rfl
    · exact g.bs x hx
    · exact hk
theorem Gq.men {N : Nat} {s : Sc} (g : Gq N s) {m : Mn} (hp : m.p ∈ s.keys) (h1 : okS m.n) (h2 : okS m.r) : Gq N (s.men m) :=
  ⟨g.ct, g.el, fun x hx => by
    simp only [Sc.men, List.mem_append, List.mem_singleton] at hx
    rcases hx with hx | rfl
    · exact g.ms x hx
    · exact ⟨hp, h1, h2⟩, g.bs⟩
theorem okP : okS "parameter" := by unfold okS; decide
theorem okW : okS "write" := by unfold okS; decide
theorem okR : okS "read" := by unfold okS; decide
theorem okDl : okS "delete" := by unfold okS; decide
theorem okG : okS "global" := by unfold okS; decide
theorem okN : okS "nonlocal" := by unfold okS; decide
theorem okK1 : okS "lambda" := by unfold okS; decide
theorem okK2 : okS "list" := by unfold okS; decide
theorem okK3 : okS "function" := by unfold okS; decide
theorem okK4 : okS "class" := by unfold okS; decide
theorem okK5 : okS "module" := by unfold okS; decide
theorem Gq.par {N : Nat} {s : Sc} (g : Gq N s) {p : Path} (hp : p ∈ s.keys) {ns : List Str} (h : ∀ x ∈ ns, okS x) : Gq N (s.par p ns) :=
  ⟨g.ct, g.el, fun x hx => by
    simp only [Sc.par, List.mem_append, List.mem_map] at hx
    rcases hx with hx | ⟨y, hy, rfl⟩
    · exact g.ms x hx
    · exact ⟨hp, h y hy, okP⟩, g.bs⟩
theorem Gq.tgt {N : Nat} {s : Sc} (g : Gq N s) (p : Path) (ns : List Str) : Gq N (s.tgt p ns) := ⟨g.ct, g.el, g.ms, g.bs⟩
theorem Gq.hole {N : Nat} {s : Sc} (g : Gq N s) (p : Path) : Gq N (s.hole p) := ⟨g.ct, g.el, g.ms, g.bs⟩
mutual
theorem Ex.gq {N : Nat} : ∀ (e : Ex) (b : Bool) (p : Path) (s : Sc), Gd s → Gq N s → p ∈ s.keys → e.ok → p.length + e.dp ≤ N → Gq N (e.sc b p s)
  | .num _, _, _, s, g, q, _, _, _ => q
  | .nam _, _, p, s, g, q, h, o, _ => q.men h o okR
  | .cal f as, b, p, s, g, q, h, o, l => by
    simp only [Ex.dp] at l
    have a := Ex.kp f b p s g h
    exact Exs.gq as b p _ a.g (Ex.gq f b p s g q h o.1 (by omega)) (a.k p h) o.2 (by omega)
  | .lam ns e, b, p, s, g, q, h, o, l => by
    simp only [Ex.dp] at l
    have z := Ex.zd e
    have a := (Kp.new g h "lambda")
    have c := a.trans (Kp.par a.g (s.new p "lambda").1 ns) (Nat.le_refl _)
    exact Ex.gq e b (s.new p "lambda").1 _ c.g ((q.new h (by omega) okK1).par (new_in ..) o.1) (new_in ..) o.2 (by simp [Sc.new]; omega)
  | .wal x e, b, p, s, g, q, h, o, l => by
    simp only [Ex.dp] at l
    have a := Kp.men g ⟨p, x, "write", s.seat p, some b⟩
    exact Ex.gq e b p _ a.g (q.men h o.1 okW) h o.2 (by omega)
  | .lst e cs, b, p, s, g, q, h, o, l => by
    simp only [Ex.dp] at l
    have a := (Kp.new g h "list")
    have c := a.trans (Kp.tgt a.g (new_in ..) cs.names) (Nat.le_refl _)
    have hq : (s.new p "list").1 ∈ ((s.new p "list").2.tgt (s.new p "list").1 cs.names).keys := new_in ..
    have x := Ex.kp e b (s.new p "list").1 _ c.g hq
    have y := c.trans x (Nat.le_refl _)
    exact Cl.gq cs p (s.new p "list").1 _ y.g (Ex.gq e b _ _ c.g ((q.new h (by omega) okK2).tgt _ _) hq o.1 (by simp [Sc.new]; omega)) (y.k p h) (x.k _ hq) o.2 (by omega) (by simp [Sc.new]; omega)
theorem Ex.zd : ∀ e : Ex, 1 ≤ e.dp
  | .num _ => Nat.le_refl _
  | .nam _ => Nat.le_refl _
  | .cal _ _ => by simp only [Ex.dp]; omega
  | .lam _ _ => by simp only [Ex.dp]; omega
  | .wal _ _ => by simp only [Ex.dp]; omega
  | .lst _ _ => by simp only [Ex.dp]; omega
theorem Exs.gq {N : Nat} : ∀ (e : Exs) (b : Bool) (p : Path) (s : Sc), Gd s → Gq N s → p ∈ s.keys → e.ok → p.length + e.dp ≤ N → Gq N (e.sc b p s)
  | .nil, _, _, s, g, q, _, _, _ => q
  | .cons e r, b, p, s, g, q, h, o, l => by
    simp only [Exs.dp] at l
    have a := Ex.kp e b p s g h
    exact Exs.gq r b p _ a.g (Ex.gq e b p s g q h o.1 (by omega)) (a.k p h) o.2 (by omega)
theorem Cl.gq {N : Nat} : ∀ (e : Cl) (p p' : Path) (s : Sc), Gd s → Gq N s → p ∈ s.keys → p' ∈ s.keys → e.ok → p.length + e.dp ≤ N → p'.length + e.dp ≤ N → Gq N (e.sc p p' s)
  | .nil, _, _, s, g, q, _, _, _, _, _ => q
  | .cons x e r, p, p', s, g, q, h, h', o, l, l' => by
    simp only [Cl.dp] at l l'
    have c := Kp.men g ⟨p', x, "write", p', none⟩
    have a := c.trans (Ex.kp e true p _ c.g h) (Nat.le_refl _)
    exact Cl.gq r p' p' _ a.g (Ex.gq e true p _ c.g (q.men h' o.1 okW) h o.2.1 (by omega)) (a.k p' h') (a.k p' h') o.2.2 (by omega) (by omega)
end
theorem Rws.zd : ∀ l : Rws, 1 ≤ l.dp
  | .nil => Nat.le_refl _
  | .cons r s => by have := Rws.zd s; simp only [Rws.dp]; omega
mutual
theorem Rw.gq {N : Nat} : ∀ (e : Rw) (p : Path) (s : Sc), Gd s → Gq N s → p ∈ s.keys → e.ok → p.length + e.dp ≤ N → Gq N (e.sc p s)
  | .set x e, p, s, g, q, h, o, l => by
    simp only [Rw.dp] at l
    have a := Kp.men g ⟨p, x, "write", p, none⟩
    exact Ex.gq e false p _ a.g (q.men h o.1 okW) h o.2 (by omega)
  | .dfn x ns b, p, s, g, q, h, o, l => by
    simp only [Rw.dp] at l
    have z := Rws.zd b
    have a := Kp.men g ⟨p, x, "write", p, none⟩
    have n := Kp.new a.g h "function"
    have c := a.trans (n.trans (Kp.par n.g ((s.men ⟨p, x, "write", p, none⟩).new p "function").1 ns) (Nat.le_refl _)) (Nat.le_refl _)
    have q1 : Gq N (s.men ⟨p, x, "write", p, none⟩) := q.men h o.1 okW
    exact Rws.gq b ((s.men ⟨p, x, "write", p, none⟩).new p "function").1 _ c.g ((q1.new h (by omega) okK3).par (new_in ..) o.2.1) (new_in ..) o.2.2 (by simp [Sc.new]; omega)
  | .kls x b, p, s, g, q, h, o, l => by
    simp only [Rw.dp] at l
    have z := Rws.zd b
    have a := Kp.men g ⟨p, x, "write", p, none⟩
    have c := a.trans (Kp.new a.g h "class") (Nat.le_refl _)
    have q1 : Gq N (s.men ⟨p, x, "write", p, none⟩) := q.men h o.1 okW
    exact Rws.gq b ((s.men ⟨p, x, "write", p, none⟩).new p "class").1 _ c.g (q1.new h (by omega) okK4) (new_in ..) o.2 (by simp [Sc.new]; omega)
  | .ret e, p, s, g, q, h, o, l => Ex.gq e false p s g q h o (by simp only [Rw.dp] at l; omega)
  | .doo e, p, s, g, q, h, o, l => Ex.gq e false p s g q h o (by simp only [Rw.dp] at l; omega)
  | .del _, _, s, g, q, h, o, _ => q.men h o okDl
  | .glb _, _, s, g, q, h, o, _ => q.men h o okG
  | .nln _, _, s, g, q, h, o, _ => q.men h o okN
  | .hole, _, s, g, q, _, _, _ => q.hole _
theorem Rws.gq {N : Nat} : ∀ (e : Rws) (p : Path) (s : Sc), Gd s → Gq N s → p ∈ s.keys → e.ok → p.length + e.dp ≤ N → Gq N (e.sc p s)
  | .nil, _, s, g, q, _, _, _ => q
  | .cons r t, p, s, g, q, h, o, l => by
    simp only [Rws.dp] at l
    have a := Rw.kp r p s g h
    exact Rws.gq t p _ a.g (Rw.gq r p s g q h o.1 (by omega)) (a.k p h) o.2 (by omega)
end
theorem sc0_gq (N : Nat) : Gq N sc0 := ⟨fun x hx => by simp [sc0] at hx; subst hx; exact Nat.zero_le _, fun q hq => by simp [sc0, Sc.keys] at hq; subst hq; exact ⟨Nat.zero_le _, fun i hi => by cases hi⟩, fun m hm => by simp [sc0] at hm, fun x hx => by simp [sc0] at hx; subst hx; exact okK5⟩
theorem scan_gq (l : Rws) (o : l.ok) : Gq l.dp l.scan := Rws.gq l [] sc0 sc0_gd (sc0_gq _) (by simp [sc0, Sc.keys]) o (by simp)
theorem pD_good {N B : Nat} {q : Path} (h : q.length ≤ N ∧ ∀ i ∈ q, i ≤ B) (hB : B ≤ 1000000) : okD (pD q) = true ∧ swD (pD q) ≤ 27 * N + 3 ∧ dpD (pD q) ≤ 1 := by
  refine ⟨?_, ?_, ?_⟩
  · have : okL (q.map fun i : Nat => D.int (i : Int)) = true := okL_of fun d hd => by
      obtain ⟨i, hi, rfl⟩ := List.mem_map.mp hd
      have := h.2 i hi
      have e : Nat.blt (Int.natAbs (i : Int)) (10 ^ 20) = true := Nat.ble_eq_true_of_le (by simp; omega)
      exact e
    simpa [pD, okD] using this
  · have := swL_of (l := q.map fun i : Nat => D.int (i : Int)) (n := 27) fun d hd => by
      obtain ⟨i, hi, rfl⟩ := List.mem_map.mp hd
      exact Nat.le_refl _
    simp only [List.length_map] at this
    have h1 := h.1
    simp only [pD, swD]
    have : q.length * 27 ≤ N * 27 := Nat.mul_le_mul_right _ h1
    omega
  · have := dpL_of (l := q.map fun i : Nat => D.int (i : Int)) (n := 0) fun d hd => by
      obtain ⟨i, hi, rfl⟩ := List.mem_map.mp hd
      exact Nat.le_refl _
    simp only [pD, dpD]; omega
theorem bks_good (l : Rws) (o : l.ok) (hz : l.z + 1 ≤ 1000000) : okL (l.scan.bs.map bk) = true ∧ dpL (l.scan.bs.map bk) ≤ 2 ∧ swL (l.scan.bs.map bk) ≤ l.scan.bs.length * (27 * l.dp + 110) := by
  have g := scan_gq l o
  have gd := scan_gd l
  have hb : l.scan.bs.length ≤ 1000000 := by have := (scan_kp l).z; rw [sc0_sz] at this; unfold Sc.sz at this; omega
  have key : ∀ d ∈ l.scan.bs.map bk, okD d = true ∧ dpD d ≤ 2 ∧ swD d + 2 ≤ 27 * l.dp + 110 := fun d hd => by
    obtain ⟨x, hx, rfl⟩ := List.mem_map.mp hd
    have hk : x.1 ∈ l.scan.keys := by unfold Sc.keys; rw [gd.kb]; exact List.mem_map_of_mem hx
    obtain ⟨a1, a2, a3⟩ := pD_good (g.el x.1 hk) hb
    obtain ⟨b1, b2⟩ := g.bs x hx
    refine ⟨by simp [bk, okD, okL, a1, b1], ?_, ?_⟩
    · simp only [bk, dpD, dpL]; omega
    · simp only [bk, swD, swL]; omega
  refine ⟨okL_of fun d hd => (key d hd).1, dpL_of fun d hd => (key d hd).2.1, ?_⟩
  have := swL_of (l := l.scan.bs.map bk) (n := 27 * l.dp + 110) fun d hd => (key d hd).2.2
  simpa using this
theorem m3s_good (l : Rws) (o : l.ok) (hz : l.z + 1 ≤ 1000000) : okL (l.scan.ms.map m3) = true ∧ dpL (l.scan.ms.map m3) ≤ 2 ∧ swL (l.scan.ms.map m3) ≤ l.scan.ms.length * (27 * l.dp + 210) := by
  have g := scan_gq l o
  have hb : l.scan.bs.length ≤ 1000000 := by have := (scan_kp l).z; rw [sc0_sz] at this; unfold Sc.sz at this; omega
  have key : ∀ d ∈ l.scan.ms.map m3, okD d = true ∧ dpD d ≤ 2 ∧ swD d + 2 ≤ 27 * l.dp + 210 := fun d hd => by
    obtain ⟨x, hx, rfl⟩ := List.mem_map.mp hd
    obtain ⟨h1, ⟨h2, h3⟩, h4, h5⟩ := g.ms x hx
    obtain ⟨a1, a2, a3⟩ := pD_good (g.el x.p h1) hb
    refine ⟨by simp [m3, okD, okL, a1, h2, h4], ?_, ?_⟩
    · simp only [m3, dpD, dpL]; omega
    · simp only [m3, swD, swL]; omega
  refine ⟨okL_of fun d hd => (key d hd).1, dpL_of fun d hd => (key d hd).2.1, ?_⟩
  have := swL_of (l := l.scan.ms.map m3) (n := 27 * l.dp + 210) fun d hd => (key d hd).2.2
  simpa using this
end Sy
end
section
set_option Elab.async false
set_option linter.all false
set_option maxRecDepth 100000
set_option maxHeartbeats 4000000
/-! Sy14: _law_scan apart, _law_rows_in, _law_small. -/
namespace Sy
open PySem (Str)
open Ev
open Ev (E Es Ks C Cs T Ts S Ss)

def fD (s : Sc) : D := .dic false [(.str "kinds", .dic true (kv .str s.bs)), (.str "mentions", .lst (s.ms.map m5)), (.str "targets", .dic true (kv tgD s.tg)), (.str "counts", .dic true (kv iD s.cn)), (.str "order", .lst (s.bs.map fun x => pD x.1))]
theorem pureK_kv {α : Type} {enc : α → D} (h : ∀ a, pureD (enc a) = true) : ∀ l : List (Path × α), pureK (kv enc l) = true
  | [] => rfl
  | a :: r => by
    have ih := pureK_kv h r
    simp only [kv] at ih
    simp [kv, pureK, pure_pD, h, ih]
theorem mapK_frz {k : Nat} {h : Mm} : ∀ {l : List (D × D)}, pureK l = true → mapO (fun p : D × D => (frz k h p.2).map fun y => (p.1, y)) l = some l
  | [], _ => rfl
  | (a, b) :: r, e => by
    simp only [pureK, Bool.and_eq_true] at e
    simp only [mapO, frz_pure e.1.2, Option.map_some, mapK_frz e.2]
theorem frz_dic {k n : Nat} {h : Mm} {t : Bool} {l : List (D × D)} (e : h.get n = some (.dic t l)) (p : pureK l = true) : frz (k + 1) h (.ref n) = some (.dic t l) := by
  simp only [frz, pureD, cond_false, e, mapK_frz p, Option.map_some]
theorem frz_dics {k n : Nat} {h : Mm} {t : Bool} {l l' : List (D × D)} (e : h.get n = some (.dic t l)) (m : mapO (fun p : D × D => (frz k h p.2).map fun y => (p.1, y)) l = some l') : frz (k + 1) h (.ref n) = some (.dic t l') := by
  simp only [frz, pureD, cond_false, e, m, Option.map_some]
theorem m5_pure : ∀ x : Mn, pureD (m5 x) = true := fun x => by
  cases h : x.w <;> simp [m5, pureD, pureL, pure_pD, h, wD]
theorem tg_pure : ∀ ns : List Str, pureD (tgD ns) = true := fun ns => by simp [tgD, pureD, nms, pureL_map (f := D.str) fun _ => rfl]
theorem frz_found (s : Sc) : frz fdp (hL s) (.ref 5) = some (fD s) := by
  have e0 : frz 23 (hL s) (.ref 0) = some (.dic true (kv .str s.bs)) := frz_dic (k := 22) rfl (pureK_kv (fun _ => rfl) _)
  have e1 : frz 23 (hL s) (.ref 1) = some (.lst (s.ms.map m5)) := frz_lst (k := 22) rfl (pureL_map m5_pure _)
  have e2 : frz 23 (hL s) (.ref 2) = some (.dic true (kv tgD s.tg)) := frz_dic (k := 22) rfl (pureK_kv tg_pure _)
  have e3 : frz 23 (hL s) (.ref 3) = some (.dic true (kv iD s.cn)) := frz_dic (k := 22) rfl (pureK_kv (fun _ => rfl) _)
  have e4 : frz 23 (hL s) (.ref 4) = some (.lst (s.bs.map fun x => pD x.1)) := frz_lst (k := 22) rfl (pureL_map (fun x : Path × Str => pure_pD x.1) _)
  have g : (hL s).get 5 = some (.dic false [(.str "kinds", .ref 0), (.str "mentions", .ref 1), (.str "targets", .ref 2), (.str "counts", .ref 3), (.str "order", .ref 4)]) := rfl
  refine frz_dics (k := 23) g ?_
  simp only [mapO, e0, e1, e2, e3, e4, Option.map_some]
section
variable {P : Prg} (H : HasLs P)
include H
theorem lscan_run (l : Rws) (d : Nat) (hd : l.dp + 2 ≤ d) (hl : l.dp ≤ 190) (hz : l.z + 1 ≤ 1000000) : call P d 202 [.tup l.l] .nil = some (.ref 5, hL l.scan) := by
  obtain ⟨d, rfl⟩ : ∃ k, d = k + 1 := ⟨d - 1, by omega⟩
  have r := lrws_run H l [] sc0 d sc0_gd (by simp [sc0, Sc.keys]) (by omega) (by simpa using hl) (by rw [sc0_sz]; omega)
  have p0 : pD [] = .tup [] := rfl
  rw [p0] at r
  have fd : ∀ (c1 c2 : Fs) (env : Ev.Env), evE P c1 c2 (.dic false false (.cons (.str "kinds") (.dic false true (.cons (.tup .nil) (.str "module") .nil)) (.cons (.str "mentions") (.lst false .nil) (.cons (.str "targets") (.dic false true .nil) (.cons (.str "counts") (.dic false true (.cons (.tup .nil) (.int 0) .nil)) (.cons (.str "order") (.lst false (.cons (.tup .nil) .nil)) .nil)))))) env .nil = some (.ref 5, hL sc0) := fun c1 c2 env => by rfl
  rw [call_f H.f2]
  simp only [B202, evSs, s_asg, s_exp, s_ret, e_call, e_var, e_tup, evEs, asg, getE, setE, fd, runM, r, List.length_cons, List.length_nil, Nat.reduceAdd, if_true, List.map_cons, List.map_nil, Nat.reduceSub, noneL, List.cons_append, List.nil_append, tb0, cond_true]
  rfl
theorem lscan_iso (l : Rws) (d : Nat) (hd : l.dp + 2 ≤ d) (hl : l.dp ≤ 190) (hz : l.z + 1 ≤ 1000000) (h : Mm) : runM .iso (call P d 202) [.tup l.l] h = some (fD l.scan, h) := by
  simp only [runM, tup_pure, cond_true, lscan_run H l d hd hl hz, frz_found]
end
/-! ### rows counted -/
mutual
def Rw.inn : Rw → Nat
  | .dfn _ _ b => b.rows
  | .kls _ b => b.rows
  | _ => 0
def Rws.rows : Rws → Nat
  | .nil => 0
  | .cons r s => 1 + r.inn + s.rows
end
def Rws.inns : Rws → List Nat
  | .nil => []
  | .cons r s => match r with
    | .dfn _ _ b => b.rows :: s.inns
    | .kls _ b => b.rows :: s.inns
    | _ => s.inns
theorem Rws.rows_eq : ∀ l : Rws, l.rows = l.l.length + l.inns.sum
  | .nil => rfl
  | .cons r s => by
    have ih := Rws.rows_eq s
    cases r <;> simp [Rws.rows, Rw.inn, Rws.l, Rws.inns, ih] <;> omega
theorem Rw.z1 : ∀ r : Rw, 1 ≤ r.z
  | .set _ _ => by simp only [Rw.z]; omega
  | .del _ => Nat.le_refl _
  | .glb _ => Nat.le_refl _
  | .nln _ => Nat.le_refl _
  | .hole => Nat.le_refl _
  | .dfn _ _ _ => by simp only [Rw.z]; omega
  | .kls _ _ => by simp only [Rw.z]; omega
  | .ret e => Ex.zp e
  | .doo e => Ex.zp e
theorem Rws.len_z : ∀ l : Rws, l.l.length ≤ l.z
  | .nil => Nat.le_refl _
  | .cons r s => by
    have ih := Rws.len_z s
    have := Rw.z1 r
    simp only [Rws.l, List.length_cons, Rws.z]; omega
theorem ints_map (l : List Nat) : intsD (l.map fun n : Nat => D.int (n : Int)) = some (l.map fun n : Nat => (n : Int)) := by
  induction l with
  | nil => rfl
  | cons a r ih => simp [intsD, ih]
theorem sum_map (l : List Nat) : sumI (l.map fun n : Nat => (n : Int)) = (l.sum : Nat) := by
  induction l with
  | nil => rfl
  | cons a r ih => simp [sumI, ih]
def inE : E := .call .iso 206 (.cons (.idx (.var 2) (.neg (.int 1))) .nil)
def inC : Cs := .cons (.of (.cmp .inn (.idx (.var 2) (.int 0)) (.tup (.cons (.str "def") (.cons (.str "class") .nil))))) .nil
structure HasRi (P : Prg) : Prop where
  f6 : P.fns 206 = some ⟨1, 3, B206⟩
theorem iso_int {g : List D → Mm → Option (D × Mm)} {vs : List D} {h h' : Mm} {i : Int} (p : pureL vs = true) (e : g vs .nil = some (.int i, h')) : runM .iso g vs h = some (.int i, h) := by
  simp only [runM, p, cond_true, e, frz_pure (show pureD (.int i) = true from rfl)]
section
variable {P : Prg} (R : HasRi P)
include R
mutual
theorem ri_turn : ∀ (r : Rw) (d : Nat) (c2 : Fs) (x0 x1 x2 : Option D) (h : Mm), r.dp ≤ d → r.z ≤ 1000000 → turnL (asg P (call P d) c2 (.var 2)) (evAll P (call P d) c2 inC) (evE P (call P d) c2 inE) [x0, x1, x2] r.d h = some ((match r with | .dfn _ _ b => some (.int (b.rows : Int)) | .kls _ b => some (.int (b.rows : Int)) | _ => none), h)
  | .dfn x ns b, d, c2, x0, x1, x2, h, hd, hz => by
    simp only [Rw.dp] at hd
    have e := iso_int (h := h) (tup_pure b) (ri_run b d .nil (by omega) (by simp only [Rw.z] at hz; omega))
    simp [turnL, inC, inE, evSs, s_asg, s_par, s_aug, s_augS, s_exp, s_ret, s_retN, s_iff, s_pass, s_brk, s_cnt, e_var, e_non, e_bl, e_int, e_str, e_glo, e_bin, e_neg, e_cmp, e_and, e_or, e_ite, e_tup, e_lst, e_dic, e_idx, e_sl, e_call, e_blt, e_bm, e_isi, evT, evEs, evP, evKV, evAll, evAny, evAnd, evOr, asg, asgs, getE, setE, noneL, Rw.d, idx_t, atL, ixN, nthL, cmpD, inD, dictOf, seqOf, scl, allScl, anyEq, eqD, str_inj, tru, e, tb2]
  | .kls x b, d, c2, x0, x1, x2, h, hd, hz => by
    simp only [Rw.dp] at hd
    have e := iso_int (h := h) (tup_pure b) (ri_run b d .nil (by omega) (by simp only [Rw.z] at hz; omega))
    simp [turnL, inC, inE, evSs, s_asg, s_par, s_aug, s_augS, s_exp, s_ret, s_retN, s_iff, s_pass, s_brk, s_cnt, e_var, e_non, e_bl, e_int, e_str, e_glo, e_bin, e_neg, e_cmp, e_and, e_or, e_ite, e_tup, e_lst, e_dic, e_idx, e_sl, e_call, e_blt, e_bm, e_isi, evT, evEs, evP, evKV, evAll, evAny, evAnd, evOr, asg, asgs, getE, setE, noneL, Rw.d, idx_t, atL, ixN, nthL, cmpD, inD, dictOf, seqOf, scl, allScl, anyEq, eqD, str_inj, tru, e, tb2]
  | .set _ _, d, c2, x0, x1, x2, h, hd, hz => by
    simp [turnL, inC, inE, evSs, s_asg, s_par, s_aug, s_augS, s_exp, s_ret, s_retN, s_iff, s_pass, s_brk, s_cnt, e_var, e_non, e_bl, e_int, e_str, e_glo, e_bin, e_neg, e_cmp, e_and, e_or, e_ite, e_tup, e_lst, e_dic, e_idx, e_sl, e_call, e_blt, e_bm, e_isi, evT, evEs, evP, evKV, evAll, evAny, evAnd, evOr, asg, asgs, getE, setE, noneL, Rw.d, idx_t, atL, ixN, nthL, cmpD, inD, dictOf, seqOf, scl, allScl, anyEq, eqD, str_inj, tru, tb2]
  | .del _, d, c2, x0, x1, x2, h, hd, hz => by
    simp [turnL, inC, inE, evSs, s_asg, s_par, s_aug, s_augS, s_exp, s_ret, s_retN, s_iff, s_pass, s_brk, s_cnt, e_var, e_non, e_bl, e_int, e_str, e_glo, e_bin, e_neg, e_cmp, e_and, e_or, e_ite, e_tup, e_lst, e_dic, e_idx, e_sl, e_call, e_blt, e_bm, e_isi, evT, evEs, evP, evKV, evAll, evAny, evAnd, evOr, asg, asgs, getE, setE, noneL, Rw.d, idx_t, atL, ixN, nthL, cmpD, inD, dictOf, seqOf, scl, allScl, anyEq, eqD, str_inj, tru, tb2]
  | .glb _, d, c2, x0, x1, x2, h, hd, hz => by
    simp [turnL, inC, inE, evSs, s_asg, s_par, s_aug, s_augS, s_exp, s_ret, s_retN, s_iff, s_pass, s_brk, s_cnt, e_var, e_non, e_bl, e_int, e_str, e_glo, e_bin, e_neg, e_cmp, e_and, e_or, e_ite, e_tup, e_lst, e_dic, e_idx, e_sl, e_call, e_blt, e_bm, e_isi, evT, evEs, evP, evKV, evAll, evAny, evAnd, evOr, asg, asgs, getE, setE, noneL, Rw.d, idx_t, atL, ixN, nthL, cmpD, inD, dictOf, seqOf, scl, allScl, anyEq, eqD, str_inj, tru, tb2]
  | .nln _, d, c2, x0, x1, x2, h, hd, hz => by
    simp [turnL, inC, inE, evSs, s_asg, s_par, s_aug, s_augS, s_exp, s_ret, s_retN, s_iff, s_pass, s_brk, s_cnt, e_var, e_non, e_bl, e_int, e_str, e_glo, e_bin, e_neg, e_cmp, e_and, e_or, e_ite, e_tup, e_lst, e_dic, e_idx, e_sl, e_call, e_blt, e_bm, e_isi, evT, evEs, evP, evKV, evAll, evAny, evAnd, evOr, asg, asgs, getE, setE, noneL, Rw.d, idx_t, atL, ixN, nthL, cmpD, inD, dictOf, seqOf, scl, allScl, anyEq, eqD, str_inj, tru, tb2]
  | .hole, d, c2, x0, x1, x2, h, hd, hz => by
    simp [turnL, inC, inE, evSs, s_asg, s_par, s_aug, s_augS, s_exp, s_ret, s_retN, s_iff, s_pass, s_brk, s_cnt, e_var, e_non, e_bl, e_int, e_str, e_glo, e_bin, e_neg, e_cmp, e_and, e_or, e_ite, e_tup, e_lst, e_dic, e_idx, e_sl, e_call, e_blt, e_bm, e_isi, evT, evEs, evP, evKV, evAll, evAny, evAnd, evOr, asg, asgs, getE, setE, noneL, Rw.d, idx_t, atL, ixN, nthL, cmpD, inD, dictOf, seqOf, scl, allScl, anyEq, eqD, str_inj, tru, tb2]
  | .ret _, d, c2, x0, x1, x2, h, hd, hz => by
    simp [turnL, inC, inE, evSs, s_asg, s_par, s_aug, s_augS, s_exp, s_ret, s_retN, s_iff, s_pass, s_brk, s_cnt, e_var, e_non, e_bl, e_int, e_str, e_glo, e_bin, e_neg, e_cmp, e_and, e_or, e_ite, e_tup, e_lst, e_dic, e_idx, e_sl, e_call, e_blt, e_bm, e_isi, evT, evEs, evP, evKV, evAll, evAny, evAnd, evOr, asg, asgs, getE, setE, noneL, Rw.d, idx_t, atL, ixN, nthL, cmpD, inD, dictOf, seqOf, scl, allScl, anyEq, eqD, str_inj, tru, tb2]
  | .doo _, d, c2, x0, x1, x2, h, hd, hz => by
    simp [turnL, inC, inE, evSs, s_asg, s_par, s_aug, s_augS, s_exp, s_ret, s_retN, s_iff, s_pass, s_brk, s_cnt, e_var, e_non, e_bl, e_int, e_str, e_glo, e_bin, e_neg, e_cmp, e_and, e_or, e_ite, e_tup, e_lst, e_dic, e_idx, e_sl, e_call, e_blt, e_bm, e_isi, evT, evEs, evP, evKV, evAll, evAny, evAnd, evOr, asg, asgs, getE, setE, noneL, Rw.d, idx_t, atL, ixN, nthL, cmpD, inD, dictOf, seqOf, scl, allScl, anyEq, eqD, str_inj, tru, tb2]
theorem ri_comp : ∀ (l : Rws) (d : Nat) (c2 : Fs) (x0 x1 x2 : Option D) (h : Mm), l.dp ≤ d + 1 → l.z ≤ 1000000 → cmpL (fun h => stay h none) (turnL (asg P (call P d) c2 (.var 2)) (evAll P (call P d) c2 inC) (evE P (call P d) c2 inE) [x0, x1, x2]) l.l h = some (l.inns.map fun n : Nat => D.int (n : Int), h)
  | .nil, d, c2, x0, x1, x2, h, hd, hz => rfl
  | .cons r s, d, c2, x0, x1, x2, h, hd, hz => by
    simp only [Rws.dp] at hd
    simp only [Rws.z] at hz
    have one := ri_turn r d c2 x0 x1 x2 h (by omega) (by omega)
    have ih := ri_comp s d c2 x0 x1 x2 h (by omega) (by omega)
    cases r <;> first | exact cmp_some rfl one ih | exact cmp_none rfl one ih
theorem ri_run : ∀ (l : Rws) (d : Nat) (h : Mm), l.dp ≤ d → l.z ≤ 1000000 → call P d 206 [.tup l.l] h = some (.int (l.rows : Int), h) := fun l d h hd hz => by
  have := Rws.zd l
  have hl := Rws.len_z l
  obtain ⟨d, rfl⟩ : ∃ k, d = k + 1 := ⟨d - 1, by omega⟩
  have c := comp_run (P := P) (c1 := call P d) (c2 := (calls P d).2) (own := [2]) (e := inE) (g := .var 2) (it := .of (.var 0)) (cs := inC) (env := [some (.tup l.l), none, none]) (h := h) (w := none) (xs := l.l) rfl (ri_comp l d ((calls P d).2) (some (.tup l.l)) none none h hd hz) (by omega)
  unfold inE inC at c
  rw [call_f R.f6]
  simp [B206, evSs, s_asg, s_par, s_aug, s_augS, s_exp, s_ret, s_retN, s_iff, s_pass, s_brk, s_cnt, e_var, e_non, e_bl, e_int, e_str, e_glo, e_bin, e_neg, e_cmp, e_and, e_or, e_ite, e_tup, e_lst, e_dic, e_idx, e_sl, e_call, e_blt, e_bm, e_isi, evT, evEs, evP, evKV, evAll, evAny, evAnd, evOr, asg, asgs, getE, setE, noneL, c, bltD, seqOf, Ev.listOf, ints_map, sum_map, binD, Rws.rows_eq]
theorem ri_iso (l : Rws) (d : Nat) (h : Mm) (hd : l.dp ≤ d) (hz : l.z ≤ 1000000) : runM .iso (call P d 206) [.tup l.l] h = some (.int (l.rows : Int), h) := iso_int (tup_pure l) (ri_run l d .nil hd hz)
end
end
end Sy
end
section
set_option Elab.async false
set_option linter.all false
set_option maxRecDepth 100000
set_option maxHeartbeats 4000000
/-! Sy15: _law_small. -/
namespace Sy
open PySem (Str)
open Ev
open Ev (E Es Ks C Cs T Ts S Ss)

def Rws.init : Rws → Rws
  | .nil => .nil
  | .cons r .nil => .nil
  | .cons r (.cons q s) => .cons r (Rws.init (.cons q s))
theorem init_l : ∀ l : Rws, l.init.l = l.l.dropLast
  | .nil => rfl
  | .cons r .nil => rfl
  | .cons r (.cons q s) => by
    have ih := init_l (.cons q s)
    simp only [Rws.init, Rws.l] at ih ⊢
    rw [ih]; rfl
/-- a part of a program from its begin -/
structure Pre (l' l : Rws) : Prop where
  ok : l.ok → l'.ok
  z : l'.z ≤ l.z
  dp : l'.dp ≤ l.dp
theorem Pre.refl {l} : Pre l l := ⟨id, Nat.le_refl _, Nat.le_refl _⟩
theorem Pre.trans {a b c} (h : Pre a b) (i : Pre b c) : Pre a c := ⟨fun o => h.ok (i.ok o), Nat.le_trans h.z i.z, Nat.le_trans h.dp i.dp⟩
theorem Pre.init : ∀ l : Rws, Pre l.init l
  | .nil => .refl
  | .cons r .nil => ⟨fun _ => trivial, Nat.zero_le _, by simp only [Rws.init, Rws.dp]; omega⟩
  | .cons r (.cons q s) => by
    have ih := Pre.init (.cons q s)
    refine ⟨fun o => ⟨o.1, ih.ok o.2⟩, ?_, ?_⟩
    · have := ih.z
      simp only [Rws.init, Rws.z] at this ⊢; omega
    · have := ih.dp
      simp only [Rws.init, Rws.dp] at this ⊢; omega
def smC : C := .of (.cmp .ne (.var 0) (.tup .nil))
def smB : Ss := (.cons (.asg (.var 1) (.call .iso 202 (.cons (.var 0) .nil)))
    (.cons (.iff (.and (.cons (.of (.cmp .le (.blt .len true (.cons (.idx (.var 1) (.str "mentions")) .nil)) (.int 70))) (.cons (.of (.cmp .le (.blt .len true (.cons (.idx (.var 1) (.str "order")) .nil)) (.int 20))) (.cons (.of (.cmp .le (.call .iso 206 (.cons (.var 0) .nil)) (.int 80))) .nil)))) (.cons (.ret (.var 0))
    .nil) .nil)
    (.cons (.asg (.var 0) (.sl true (.var 0) .nil (.cons (.neg (.int 1)) .nil)))
    .nil)))
theorem idx_s {kvs : List (D × D)} {x : Str} {h : Mm} : idxD (.dic false kvs) (.str x) h = lkD kvs (.str x) := rfl
theorem fD_m (s : Sc) (h : Mm) : idxD (fD s) (.str "mentions") h = some (.lst (s.ms.map m5)) := rfl
theorem fD_o (s : Sc) (h : Mm) : idxD (fD s) (.str "order") h = some (.lst (s.bs.map fun x => pD x.1)) := rfl
theorem fD_k (s : Sc) (h : Mm) : idxD (fD s) (.str "kinds") h = some (.dic true (kv .str s.bs)) := rfl
theorem good_D (l : Rws) (o : l.ok) (h : Mm) (hd : l.dp ≤ 30) : dat h (.tup l.l) = some (.tup l.l) := by
  obtain ⟨a, b, c⟩ := Rws.good l o
  refine dat_ok (by simpa [okD] using a) ?_
  simp only [dpD]; omega
theorem ne_nil (l : Rws) (o : l.ok) (h : Mm) (hd : l.dp ≤ 30) : cmpD .ne (.tup l.l) (.tup []) h = some (!(l.l.isEmpty)) := by
  have e1 := good_D l o h hd
  have e2 : dat h (.tup []) = some (.tup []) := dat_ok rfl (by decide)
  have : eqD (.tup l.l) (.tup []) = l.l.isEmpty := by
    cases l with
    | nil => rfl
    | cons r s => rfl
  simp only [cmpD, eqM, scl2, scl, Bool.and_self, Bool.false_and, cond_false, e1, e2, this]
/-- small enough -/
def Sm (l : Rws) : Prop := l.scan.ms.length ≤ 70 ∧ l.scan.bs.length ≤ 20
section
variable {P : Prg} (H : HasLs P) (R : HasRi P)
include H R
theorem small_whl (d : Nat) : ∀ (n m : Nat) (l : Rws) (o : Option D), l.l.length = n → n < m → l.ok → l.dp + 2 ≤ d → l.dp ≤ 30 → l.z + 1 ≤ 1000000 →
    ∃ l', Pre l' l ∧ Sm l' ∧ ((∃ o', whlL (evT P (call P d) (calls P d).2 smC) (evSs P (call P d) (calls P d).2 smB) m [some (.tup l.l), o] .nil = some (.rt (.tup l'.l), [some (.tup l'.l), o'], .nil)) ∨
      (∃ o', whlL (evT P (call P d) (calls P d).2 smC) (evSs P (call P d) (calls P d).2 smB) m [some (.tup l.l), o] .nil = some (.nx, [some (.tup l'.l), o'], .nil)))
  | n, m + 1, l, o, hn, hm, ok, hd, hl, hz => by
    have c : evT P (call P d) (calls P d).2 smC [some (.tup l.l), o] .nil = some (!(l.l.isEmpty), .nil) := by
      simp [smC, evSs, s_asg, s_par, s_aug, s_augS, s_exp, s_ret, s_retN, s_iff, s_pass, s_brk, s_cnt, e_var, e_non, e_bl, e_int, e_str, e_glo, e_bin, e_neg, e_cmp, e_and, e_or, e_ite, e_tup, e_lst, e_dic, e_idx, e_sl, e_call, e_blt, e_bm, e_isi, evT, evEs, evP, evKV, evAll, evAny, evAnd, evOr, asg, asgs, getE, setE, noneL, tb0, ne_nil l ok .nil hl, tru]
    by_cases he : l.l = []
    · have el : l = .nil := by
        cases l with
        | nil => rfl
        | cons r s => cases he
      subst el
      refine ⟨.nil, .refl, ⟨by decide, by decide⟩, .inr ⟨o, ?_⟩⟩
      simp only [Rws.l, List.isEmpty_nil, Bool.not_true] at c
      simp only [Rws.l, whlL, c]
    · have hne : l.l.isEmpty = false := by
        cases h : l.l with
        | nil => exact absurd h he
        | cons _ _ => rfl
      rw [hne] at c
      have e1 := lscan_iso H l d hd (by omega) hz .nil
      have e2 := ri_iso R l d .nil (by omega) (by omega)
      have bd : (((l.scan.ms.length : Int) ≤ 70 ∧ (l.scan.bs.length : Int) ≤ 20 ∧ (l.rows : Int) ≤ 80) ∧ evSs P (call P d) (calls P d).2 smB [some (.tup l.l), o] .nil = some (.rt (.tup l.l), [some (.tup l.l), some (fD l.scan)], .nil)) ∨
          evSs P (call P d) (calls P d).2 smB [some (.tup l.l), o] .nil = some (.nx, [some (.tup l.init.l), some (fD l.scan)], .nil) := by
        have es : slD true (.tup l.l) none (some (-1)) .nil = some (.tup l.init.l, .nil) := by
          simp only [slD, cut_d, init_l]
        by_cases h1 : (l.scan.ms.length : Int) ≤ 70
        · by_cases h2 : (l.scan.bs.length : Int) ≤ 20
          · by_cases h3 : (l.rows : Int) ≤ 80
            · exact .inl ⟨⟨h1, h2, h3⟩, by simp [smB, evSs, s_asg, s_par, s_aug, s_augS, s_exp, s_ret, s_retN, s_iff, s_pass, s_brk, s_cnt, e_var, e_non, e_bl, e_int, e_str, e_glo, e_bin, e_neg, e_cmp, e_and, e_or, e_ite, e_tup, e_lst, e_dic, e_idx, e_sl, e_call, e_blt, e_bm, e_isi, evT, evEs, evP, evKV, evAll, evAny, evAnd, evOr, asg, asgs, getE, setE, noneL, e1, fD_m, fD_o, bltD, seqOf, cmpD, tru, h1, h2, h3, e2]⟩
            · exact .inr (by simp [smB, evSs, s_asg, s_par, s_aug, s_augS, s_exp, s_ret, s_retN, s_iff, s_pass, s_brk, s_cnt, e_var, e_non, e_bl, e_int, e_str, e_glo, e_bin, e_neg, e_cmp, e_and, e_or, e_ite, e_tup, e_lst, e_dic, e_idx, e_sl, e_call, e_blt, e_bm, e_isi, evT, evEs, evP, evKV, evAll, evAny, evAnd, evOr, asg, asgs, getE, setE, noneL, e1, fD_m, fD_o, bltD, seqOf, cmpD, tru, h1, h2, h3, e2, es])
          · exact .inr (by simp [smB, evSs, s_asg, s_par, s_aug, s_augS, s_exp, s_ret, s_retN, s_iff, s_pass, s_brk, s_cnt, e_var, e_non, e_bl, e_int, e_str, e_glo, e_bin, e_neg, e_cmp, e_and, e_or, e_ite, e_tup, e_lst, e_dic, e_idx, e_sl, e_call, e_blt, e_bm, e_isi, evT, evEs, evP, evKV, evAll, evAny, evAnd, evOr, asg, asgs, getE, setE, noneL, e1, fD_m, fD_o, bltD, seqOf, cmpD, tru, h1, h2, es])
        · exact .inr (by simp [smB, evSs, s_asg, s_par, s_aug, s_augS, s_exp, s_ret, s_retN, s_iff, s_pass, s_brk, s_cnt, e_var, e_non, e_bl, e_int, e_str, e_glo, e_bin, e_neg, e_cmp, e_and, e_or, e_ite, e_tup, e_lst, e_dic, e_idx, e_sl, e_call, e_blt, e_bm, e_isi, evT, evEs, evP, evKV, evAll, evAny, evAnd, evOr, asg, asgs, getE, setE, noneL, e1, fD_m, fD_o, bltD, seqOf, cmpD, tru, h1, es])
      rcases bd with ⟨⟨h1, h2, _⟩, bd⟩ | bd
      · refine ⟨l, .refl, ⟨by omega, by omega⟩, .inl ⟨some (fD l.scan), ?_⟩⟩
        simp only [whlL, c, Bool.not_false, bd]
      · have hlen : l.init.l.length = n - 1 := by rw [init_l, List.length_dropLast, hn]
        have hpos : 0 < n := by
          rw [← hn]; exact List.length_pos_iff.mpr he
        have pi := Pre.init l
        obtain ⟨l', p, sm, q⟩ := small_whl d (n - 1) m l.init (some (fD l.scan)) hlen (by omega) (pi.ok ok) (by have := pi.dp; omega) (by have := pi.dp; omega) (by have := pi.z; omega)
        refine ⟨l', p.trans pi, sm, ?_⟩
        rcases q with ⟨o', q⟩ | ⟨o', q⟩
        · refine .inl ⟨o', ?_⟩
          simp only [whlL, c, Bool.not_false, bd]
          exact q
        · refine .inr ⟨o', ?_⟩
          simp only [whlL, c, Bool.not_false, bd]
          exact q
theorem small_run (hs : P.fns 207 = some ⟨1, 2, B207⟩) (l : Rws) (d : Nat) (ok : l.ok) (hd : l.dp + 3 ≤ d) (hl : l.dp ≤ 30) (hz : l.z + 1 ≤ 1000000) (hn : l.l.length < 200) :
    ∃ l', Pre l' l ∧ Sm l' ∧ call P d 207 [.tup l.l] .nil = some (.tup l'.l, .nil) := by
  obtain ⟨d, rfl⟩ : ∃ k, d = k + 1 := ⟨d - 1, by omega⟩
  obtain ⟨l', p, sm, q⟩ := small_whl H R d l.l.length P.W l none rfl (by rw [H.W]; exact hn) ok (by omega) hl hz
  refine ⟨l', p, sm, ?_⟩
  rw [call_f hs]
  rcases q with ⟨o', q⟩ | ⟨o', q⟩
  · rw [← s_whl] at q
    unfold smC smB at q
    simp only [B207, evSs, q, List.length_cons, List.length_nil, Nat.reduceAdd, if_true, List.map_cons, List.map_nil, Nat.reduceSub, noneL, List.cons_append, List.nil_append]
  · rw [← s_whl] at q
    unfold smC smB at q
    simp only [B207, evSs, q, s_ret, e_var, getE, List.length_cons, List.length_nil, Nat.reduceAdd, if_true, List.map_cons, List.map_nil, Nat.reduceSub, noneL, List.cons_append, List.nil_append]
theorem small_iso (hs : P.fns 207 = some ⟨1, 2, B207⟩) (l : Rws) (d : Nat) (ok : l.ok) (hd : l.dp + 3 ≤ d) (hl : l.dp ≤ 30) (hz : l.z + 1 ≤ 1000000) (hn : l.l.length < 200) (h : Mm) :
    ∃ l', Pre l' l ∧ Sm l' ∧ runM .iso (call P d 207) [.tup l.l] h = some (.tup l'.l, h) := by
  obtain ⟨l', p, sm, e⟩ := small_run H R hs l d ok hd hl hz hn
  refine ⟨l', p, sm, ?_⟩
  have hp : pureD (.tup l'.l) = true := by simp [pureD, Rws.pure l']
  simp only [runM, tup_pure, cond_true, e, frz_pure hp]
end
end Sy
end
section
set_option Elab.async false
set_option linter.all false
set_option maxRecDepth 100000
set_option maxHeartbeats 4000000
/-! Sy16: bags, names, wild exprs. -/
namespace Sy
open PySem (Str)
open Ev
open Ev (E Es Ks C Cs T Ts S Ss)

theorem lk_stm' : ∀ (m : List (Nat × O)) (n : Nat) (o : O) (k : Nat), lk (stm m n o) k = if k = n then (lk m n).map fun _ => o else lk m k
  | [], n, o, k => by simp [stm, lk]
  | (j, u) :: r, n, o, k => by
    unfold stm
    by_cases h : j = n
    · rw [if_pos h]
      subst h
      by_cases hk : k = j
      · subst hk; simp [lk]
      · simp [lk, hk, Ne.symm hk]
    · rw [if_neg h]
      by_cases hk : k = n
      · subst hk
        have ih := lk_stm' r k o k
        simp only [if_pos] at ih
        simp [lk, h, ih]
      · have ih := lk_stm' r n o k
        rw [if_neg hk] at ih
        by_cases hj : j = k
        · simp [lk, hj, hk]
        · simp [lk, hj, hk, ih]
theorem gset {h : Mm} {n k : Nat} {o : O} : (h.set n o).get k = if k = n then (h.get n).map fun _ => o else h.get k := lk_stm' _ _ _ _
theorem gnew {h : Mm} {k : Nat} {o : O} : (h.new o).2.get k = if h.nx = k then some o else h.get k := rfl
theorem rngL_len : ∀ (n : Nat) (lo c : Int), (rngL n lo c).length = n
  | 0, _, _ => rfl
  | n + 1, lo, c => by simp [rngL, rngL_len n]
structure HasBag (P : Prg) : Prop where
  f200 : P.fns 200 = some ⟨2, 6, B200⟩
  f201 : P.fns 201 = some ⟨2, 3, B201⟩
structure HasWild (P : Prg) : Prop extends HasBag P where
  f208 : P.fns 208 = some ⟨1, 1, B208⟩
  f209 : P.fns 209 = some ⟨2, 6, B209⟩
  f210 : P.fns 210 = some ⟨3, 7, B210⟩
  f211 : P.fns 211 = some ⟨3, 4, B211⟩
theorem get_set_same {h : Mm} {n : Nat} {o u : O} (e : h.get n = some u) : (h.set n o).get n = some o := by rw [gset, if_pos rfl, e]; rfl
/-- n is a bag -/
def Bag (n : Nat) (h : Mm) : Prop := n < h.nx ∧ ∃ L M : Int, h.get n = some (.lst [.int L, .int M]) ∧ 0 ≤ L ∧ 0 ≤ M
/-- all but the bag stays -/
structure Keep (n : Nat) (h h' : Mm) : Prop where
  nx : h.nx ≤ h'.nx
  eq : ∀ m, m < h.nx → m ≠ n → h'.get m = h.get m
theorem Keep.refl {n h} : Keep n h h := ⟨Nat.le_refl _, fun _ _ _ => rfl⟩
theorem Keep.trans {n h h1 h2} (a : Keep n h h1) (b : Keep n h1 h2) : Keep n h h2 := ⟨Nat.le_trans a.nx b.nx, fun m hm hn => (b.eq m (Nat.lt_of_lt_of_le hm a.nx) hn).trans (a.eq m hm hn)⟩
theorem Keep.set {n h o} : Keep n h (h.set n o) := ⟨Nat.le_refl _, fun m _ hn => by rw [gset, if_neg hn]⟩
theorem Keep.new {n h o} : Keep n h (h.new o).2 := ⟨Nat.le_succ _, fun m hm _ => by rw [gnew, if_neg (by omega)]⟩
theorem Bag.new {n h o} (b : Bag n h) : Bag n (h.new o).2 := by
  obtain ⟨h1, L, M, e, r⟩ := b
  exact ⟨Nat.lt_succ_of_lt h1, L, M, by rw [gnew, if_neg (by omega)]; exact e, r⟩
section
variable {P : Prg} (H : HasBag P)
include H
theorem take_ok (d : Nat) (h : Mm) (n : Nat) (L M s : Int) (hg : h.get n = some (.lst [.int L, .int M])) (hL : 0 ≤ L) (hM : 0 ≤ M) (hs : 0 < s) (hs2 : s < 1073741824) :
    ∃ r L' M' : Int, call P (d + 1) 201 [.ref n, .int s] h = some (.int r, h.set n (.lst [.int L', .int M'])) ∧ 0 ≤ r ∧ r < s ∧ 0 ≤ L' ∧ 0 ≤ M' := by
  by_cases hp : 0 < L
  · refine ⟨L % s, L / s, M, ?_, Int.emod_nonneg _ (by omega), Int.emod_lt_of_pos _ hs, Int.ediv_nonneg hL (by omega), hM⟩
    rw [call_f H.f201]
    simp [B201, evSs, evS, evT, evE, getE, setE, idxD, dictOf, seqOf, Ev.listOf, hg, atL, ixN, nthL, cmpD, tru, hp, binD, hs, hs2, asg, setD, noneL, List.set]
  · have h2 : (h.set n (.lst [.int L, .int (M * 48271 % 2147483647)])).get n = some (.lst [.int L, .int (M * 48271 % 2147483647)]) := get_set_same hg
    refine ⟨M * 48271 % 2147483647 * 69621 % 2147483629 / 16 ^ 2 % s, L, M * 48271 % 2147483647, ?_, Int.emod_nonneg _ (by omega), Int.emod_lt_of_pos _ hs, hL, Int.emod_nonneg _ (by decide)⟩
    rw [call_f H.f201]
    simp [B201, evSs, evS, evT, evE, getE, setE, idxD, dictOf, seqOf, Ev.listOf, hg, h2, atL, ixN, nthL, cmpD, tru, hp, binD, hs, hs2, asg, setD, noneL, List.set, i64]
theorem take_b (d : Nat) {h : Mm} {n : Nat} (b : Bag n h) {s : Int} (hs : 0 < s) (hs2 : s < 1073741824) :
    ∃ (r : Int) (h' : Mm), call P (d + 1) 201 [.ref n, .int s] h = some (.int r, h') ∧ 0 ≤ r ∧ r < s ∧ Bag n h' ∧ Keep n h h' := by
  obtain ⟨h1, L, M, e, hL, hM⟩ := b
  obtain ⟨r, L', M', e1, q1, q2, q3, q4⟩ := take_ok H d h n L M s e hL hM hs hs2
  exact ⟨r, _, e1, q1, q2, ⟨h1, L', M', get_set_same e, q3, q4⟩, .set⟩
end
theorem cmp_b {α : Type} {n : Nat} (enc : α → D) (ok : α → Prop) (turn : D → Mm → Option (Option D × Mm)) (ht : ∀ x h, Bag n h → ∃ (a : α) (h' : Mm), turn x h = some (some (enc a), h') ∧ ok a ∧ Bag n h' ∧ Keep n h h') :
    ∀ (xs : List D) (h : Mm), Bag n h → ∃ (l : List α) (h' : Mm), cmpL (fun h => stay h none) turn xs h = some (l.map enc, h') ∧ l.length = xs.length ∧ (∀ a ∈ l, ok a) ∧ Bag n h' ∧ Keep n h h'
  | [], h, b => ⟨[], h, rfl, rfl, (fun _ z => by cases z), b, .refl⟩
  | x :: xs, h, b => by
    obtain ⟨a, h1, e1, q1, b1, k1⟩ := ht x h b
    obtain ⟨l, h2, e2, q2, q3, b2, k2⟩ := cmp_b enc ok turn ht xs h1 b1
    refine ⟨a :: l, h2, ?_, by simp [q2], fun c hc => ?_, b2, k1.trans k2⟩
    · have hs : stay h none = true := rfl
      simp only [cmpL, hs, cond_true, e1]
      rw [e2]
      rfl
    · rcases List.mem_cons.mp hc with rfl | hc
      · exact q1
      · exact q3 c hc
theorem rep_map {α : Type} (n : Nat) (x : α) : rep n [x] = List.replicate n x := by
  induction n with
  | zero => rfl
  | succ n ih => simp [rep, ih, List.replicate_succ]
def Exs.rp (e : Ex) : Nat → Exs
  | 0 => .nil
  | n + 1 => .cons e (Exs.rp e n)
theorem Exs.rp_l (e : Ex) : ∀ n, (Exs.rp e n).l = rep n [e.d]
  | 0 => rfl
  | n + 1 => by simp [Exs.rp, Exs.l, rep, Exs.rp_l e n]
theorem Exs.rp_z (e : Ex) : ∀ n, (Exs.rp e n).z = n * e.z
  | 0 => by simp [Exs.rp, Exs.z]
  | n + 1 => by simp [Exs.rp, Exs.z, Exs.rp_z e n, Nat.succ_mul, Nat.add_comm]
theorem Exs.rp_dp (e : Ex) : ∀ n, (Exs.rp e n).dp ≤ e.dp
  | 0 => Nat.zero_le _
  | n + 1 => by have := Exs.rp_dp e n; simp only [Exs.rp, Exs.dp]; omega
theorem Exs.rp_ok (e : Ex) (h : e.ok) : ∀ n, (Exs.rp e n).ok
  | 0 => trivial
  | n + 1 => ⟨h, Exs.rp_ok e h n⟩
def zB : Nat → Nat
  | 0 => 1
  | k + 1 => 3 * zB k + 4
theorem zB_pos : ∀ k, 1 ≤ zB k
  | 0 => Nat.le_refl _
  | k + 1 => by unfold zB; omega
def EB (dep : Nat) (e : Ex) : Prop := e.z ≤ zB dep ∧ e.dp ≤ 2 * dep + 1 ∧ e.ok
theorem hundred : 100 ≤ most := Nat.le_of_ble_eq_true rfl
theorem comp_b {α : Type} {n : Nat} (enc : α → D) (ok : α → Prop) {P : Prg} {c1 c2 : Fs} {own : List Nat} {e : E} {g : T} {it : It} {cs : Cs} {env : Ev.Env} {h h1 : Mm} {xs : List D} (hit : evI P c1 c2 it env h = some (xs, none, h1)) (hl : xs.length ≤ 100) (b : Bag n h1)
    (ht : ∀ x h, Bag n h → ∃ (a : α) (h' : Mm), turnL (asg P c1 c2 g) (evAll P c1 c2 cs) (evE P c1 c2 e) (wipeE env own) x h = some (some (enc a), h') ∧ ok a ∧ Bag n h' ∧ Keep n h h') :
    ∃ (l : List α) (h' : Mm), evE P c1 c2 (.comp true own e g it cs) env h = some (.lst (l.map enc), h') ∧ l.length = xs.length ∧ (∀ a ∈ l, ok a) ∧ Bag n h' ∧ Keep n h1 h' := by
  obtain ⟨l, h', e1, q1, q2, b1, k1⟩ := cmp_b enc ok _ ht xs h1 b
  refine ⟨l, h', ?_, q1, q2, b1, k1⟩
  rw [e_comp, hit]
  dsimp only
  rw [e1]
  rw [Nat.ble_eq_true_of_le (Nat.le_trans hl hundred)]
  rfl
theorem rD {i : Int} (h : i63 i = true) : rngD [.int i] = some (rngL i.toNat 0 1) := by
  have e : rngD [.int i] = (bif i63 i then some (rngL i.toNat 0 1) else none) := rfl
  rw [e, h]; rfl
theorem eI {P : Prg} {c1 c2 : Fs} {es : Es} {env : Ev.Env} {h h1 : Mm} {vs xs : List D} (he : evEs P c1 c2 es env h = some (vs, h1)) (hx : rngD vs = some xs) : evI P c1 c2 (.rng es) env h = some (xs, none, h1) := by
  simp only [evI, he, hx]
theorem b62 {k : Nat} (hk : k < 1000) : i63 (k : Int) = true := by
  have h1 : decide (-(2 ^ 62) ≤ (k : Int)) = true := decide_eq_true (Int.le_trans (by decide) (Int.natCast_nonneg k))
  have h2 : decide ((k : Int) < 2 ^ 62) = true := decide_eq_true (Int.lt_of_lt_of_le (Int.ofNat_lt.mpr hk) (by decide))
  unfold i63
  rw [h1, h2]; rfl
theorem rng_i {P : Prg} {c1 c2 : Fs} {es : Es} {env : Ev.Env} {h h1 : Mm} {i : Int} (he : evEs P c1 c2 es env h = some ([.int i], h1)) (hi : i63 i = true) : evI P c1 c2 (.rng es) env h = some (rngL i.toNat 0 1, none, h1) := eI he (rD hi)
theorem s62 {i : Int} (h0 : 0 ≤ i) {k : Nat} (hk : i = (k : Int)) (h1 : k < 1000) : i63 i = true := by subst hk; exact b62 h1
def Cl.snoc : Cl → Str → Ex → Cl
  | .nil, x, e => .cons x e .nil
  | .cons y f r, x, e => .cons y f (r.snoc x e)
theorem Cl.snoc_l : ∀ (c : Cl) (x : Str) (e : Ex), (c.snoc x e).l = c.l ++ [.tup [.str x, e.d]]
  | .nil, x, e => rfl
  | .cons y f r, x, e => by simp [Cl.snoc, Cl.l, Cl.snoc_l r x e]
theorem Cl.snoc_z : ∀ (c : Cl) (x : Str) (e : Ex), (c.snoc x e).z = c.z + e.z + 1
  | .nil, x, e => by simp only [Cl.snoc, Cl.z]; omega
  | .cons y f r, x, e => by simp only [Cl.snoc, Cl.z, Cl.snoc_z r x e]; omega
theorem Cl.snoc_dp : ∀ (c : Cl) (x : Str) (e : Ex), (c.snoc x e).dp = max c.dp e.dp
  | .nil, x, e => by simp only [Cl.snoc, Cl.dp]; omega
  | .cons y f r, x, e => by simp only [Cl.snoc, Cl.dp, Cl.snoc_dp r x e]; omega
theorem Cl.snoc_ok : ∀ (c : Cl) (x : Str) (e : Ex), c.ok → okS x → e.ok → (c.snoc x e).ok
  | .nil, x, e, _, h1, h2 => ⟨h1, h2, trivial⟩
  | .cons y f r, x, e, h, h1, h2 => ⟨h.1, h.2.1, Cl.snoc_ok r x e h.2.2 h1 h2⟩
def nm (i : Fin 4) : Str := ⟨#[97 + i.1]⟩
section
variable {P : Prg} (H : HasWild P)
include H
theorem name_b (d : Nat) {h : Mm} {n : Nat} (b : Bag n h) : ∃ (x : Str) (h' : Mm), call P (d + 2) 208 [.ref n] h = some (.str x, h') ∧ okS x ∧ Bag n h' ∧ Keep n h h' := by
  obtain ⟨r, h', e, q1, q2, b', k⟩ := take_b H.toHasBag d b (s := 4) (by decide) (by decide)
  have key : ∀ i : Fin 4, idxD (.str "abcd") (.int r) h' = some (.str (nm i)) → call P (d + 2) 208 [.ref n] h = some (.str (nm i), h') := fun i hr => by
    rw [call_f H.f208]
    simp [evSs, evS, evT, evE, evEs, evP, evI, evAll, evAny, evAnd, evOr, asg, asgs, getE, setE, noneL, B208, runM, e, hr]
  have hr : r = 0 ∨ r = 1 ∨ r = 2 ∨ r = 3 := by omega
  rcases hr with z | z | z | z <;> subst z
  · exact ⟨nm 0, h', key 0 (by rfl), by unfold okS; decide, b', k⟩
  · exact ⟨nm 1, h', key 1 (by rfl), by unfold okS; decide, b', k⟩
  · exact ⟨nm 2, h', key 2 (by rfl), by unfold okS; decide, b', k⟩
  · exact ⟨nm 3, h', key 3 (by rfl), by unfold okS; decide, b', k⟩
/-- ways 0 to 3, whatever the depth -/
theorem expr_low (d dep : Nat) {n : Nat} {h h1 : Mm} {r : Int} (b1 : Bag n h1) (k1 : Keep n h h1) (q1 : 0 ≤ r) (q2 : r < 4)
    (et : (if (0 : Int) < dep then call P (d + 2) 201 [.ref n, .int 8] h else call P (d + 2) 201 [.ref n, .int 4] h) = some (.int r, h1)) : ∃ (e : Ex) (h' : Mm), call P (d + 3) 209 [.ref n, .int dep] h = some (e.d, h') ∧ Bag n h' ∧ Keep n h h' ∧ EB dep e := by
  by_cases hr : r = 0
  · subst hr
    obtain ⟨v, h2, e2, v1, v2, b2, k2⟩ := take_b H.toHasBag (d + 1) b1 (s := 9) (by decide) (by decide)
    refine ⟨.num v, h2, ?_, b2, k1.trans k2, zB_pos dep, by simp only [Ex.dp]; omega, by simp only [Ex.ok, okI]; omega⟩
    have hv : (Ex.num v).d = .int v := rfl
    rw [hv, call_f H.f209]
    by_cases hd : 0 < dep
    · rw [if_pos (by omega : (0 : Int) < dep)] at et
      simp [t1k, tb0, tb1, tb2, tb3, tb4, tb5, tb6, tb7, eqM, scl2, scl, eqD, evSs, evS, evT, evE, evEs, evP, evI, evAll, evAny, evAnd, evOr, asg, asgs, getE, setE, noneL, idxD, dictOf, seqOf, Ev.listOf, atL, ixN, nthL, cmpD, tru, binD, List.set, i64, B209, runM, et, e2, hd]
    · rw [if_neg (by omega : ¬ (0 : Int) < dep)] at et
      simp [t1k, tb0, tb1, tb2, tb3, tb4, tb5, tb6, tb7, eqM, scl2, scl, eqD, evSs, evS, evT, evE, evEs, evP, evI, evAll, evAny, evAnd, evOr, asg, asgs, getE, setE, noneL, idxD, dictOf, seqOf, Ev.listOf, atL, ixN, nthL, cmpD, tru, binD, List.set, i64, B209, runM, et, e2, hd]
  · obtain ⟨x, h2, e2, ox, b2, k2⟩ := name_b H d b1
    refine ⟨.nam x, h2, ?_, b2, k1.trans k2, zB_pos dep, by simp only [Ex.dp]; omega, ox⟩
    rw [call_f H.f209]
    have hr4 : r < 4 := q2
    by_cases hd : 0 < dep
    · rw [if_pos (by omega : (0 : Int) < dep)] at et
      simp [t1k, tb0, tb1, tb2, tb3, tb4, tb5, tb6, tb7, eqM, scl2, scl, eqD, evSs, evS, evT, evE, evEs, evP, evI, evAll, evAny, evAnd, evOr, asg, asgs, getE, setE, noneL, idxD, dictOf, seqOf, Ev.listOf, atL, ixN, nthL, cmpD, tru, binD, List.set, i64, B209, runM, et, e2, hd, hr, hr4, Ex.d]
    · rw [if_neg (by omega : ¬ (0 : Int) < dep)] at et
      simp [t1k, tb0, tb1, tb2, tb3, tb4, tb5, tb6, tb7, eqM, scl2, scl, eqD, evSs, evS, evT, evE, evEs, evP, evI, evAll, evAny, evAnd, evOr, asg, asgs, getE, setE, noneL, idxD, dictOf, seqOf, Ev.listOf, atL, ixN, nthL, cmpD, tru, binD, List.set, i64, B209, runM, et, e2, hd, hr, hr4, Ex.d]
theorem names_e (d : Nat) {n i : Nat} {c2 : Fs} {env : Ev.Env} (h0 : ∀ x, getE (setE (wipeE env [i]) i x) 0 = some (.ref n)) (h1 : getE env 0 = some (.ref n)) {h : Mm} (b : Bag n h) :
    ∃ (l : List Str) (h' : Mm), evE P (call P (d + 2)) c2 (.comp true [i] (.call .sh 208 (.cons (.var 0) .nil)) (.var i) (.rng (.cons (.call .sh 201 (.cons (.var 0) (.cons (.int 3) .nil))) .nil)) .nil) env h = some (.lst (nms l), h') ∧ l.length ≤ 2 ∧ (∀ x ∈ l, okS x) ∧ Bag n h' ∧ Keep n h h' := by
  obtain ⟨r, h2, e2, q1, q2, b2, k2⟩ := take_b H.toHasBag (d + 1) b (s := 3) (by decide) (by decide)
  have he : evEs P (call P (d + 2)) c2 (.cons (.call .sh 201 (.cons (.var 0) (.cons (.int 3) .nil))) .nil) env h = some ([.int r], h2) := by
    simp [evEs, evE, h1, runM, e2]
  obtain ⟨l, h', e3, q3, ql, b3, k3⟩ := comp_b (n := n) D.str okS (own := [i]) (e := .call .sh 208 (.cons (.var 0) .nil)) (g := .var i) (cs := .nil) (env := env) (rng_i he (s62 q1 (Int.toNat_of_nonneg q1).symm (by omega))) (by rw [rngL_len]; omega) b2 (fun x h b => by
    obtain ⟨a, h', e, oa, b', k⟩ := name_b H d b
    refine ⟨a, h', ?_, oa, b', k⟩
    simp [turnL, asg, evAll, evE, evEs, h0, runM, e])
  exact ⟨l, h', e3, by rw [q3, rngL_len]; omega, ql, b3, k2.trans k3⟩
def lpB : Ss := .cons (.exp (.bm .append (.var 3) (.cons (.tup (.cons (.call .sh 208 (.cons (.var 0) .nil)) (.cons (.call .sh 209 (.cons (.var 0) (.cons (.bin .sub true (.var 1) (.int 1)) .nil))) .nil))) .nil))) .nil
/-- the loop of the clauses -/
theorem clauses_b (d k n m0 : Nat) {c2 : Fs} {hb : Mm} (ih : ∀ h, Bag n h → ∃ (e : Ex) (h' : Mm), call P (d + 2) 209 [.ref n, .int k] h = some (e.d, h') ∧ Bag n h' ∧ Keep n h h' ∧ EB k e) (hm : m0 ≠ n) (hm2 : hb.nx ≤ m0) {w : D} :
    ∀ (xs : List D) (o : Option D) (h : Mm) (cs : Cl), Bag n h → m0 < h.nx → Keep n hb h → h.get m0 = some (.lst cs.l) → cs.l.length + xs.length ≤ 100 → cs.ok → cs.dp ≤ 2 * k + 1 →
    ∃ (cs' : Cl) (o' : Option D) (h' : Mm), forL (fun h => stay h none) (turnG (asg P (call P (d + 2)) c2 (.var 4)) (evSs P (call P (d + 2)) c2 lpB)) xs [some (.ref n), some (.int ((k : Int) + 1)), some w, some (.ref m0), o, none] h = some (.nx, [some (.ref n), some (.int ((k : Int) + 1)), some w, some (.ref m0), o', none], h') ∧
      Bag n h' ∧ m0 < h'.nx ∧ Keep n hb h' ∧ h'.get m0 = some (.lst cs'.l) ∧ cs'.z ≤ cs.z + xs.length * (zB k + 1) ∧ cs'.ok ∧ cs'.dp ≤ 2 * k + 1
  | [], o, h, cs, b, hx, kp, hg, hl, ok, dp => ⟨cs, o, h, rfl, b, hx, kp, hg, by simp, ok, dp⟩
  | x :: xs, o, h, cs, b, hx, kp, hg, hl, ok, dp => by
    obtain ⟨y, h1, e1, oy, b1, k1⟩ := name_b H d b
    obtain ⟨f, h2, e2, b2, k2, z2, d2, o2⟩ := ih h1 b1
    have k12 := k1.trans k2
    have g2 : h2.get m0 = some (.lst cs.l) := by rw [k12.eq m0 hx hm]; exact hg
    have hx2 : m0 < h2.nx := Nat.lt_of_lt_of_le hx k12.nx
    have hl2 : cs.l.length + 1 ≤ most := Nat.le_trans (by simp at hl; omega) hundred
    have g3 : (h2.set m0 (.lst (cs.l ++ [.tup [.str y, f.d]]))).get m0 = some (.lst (cs.snoc y f).l) := by rw [gset, if_pos rfl, g2, Cl.snoc_l]; rfl
    have b3 : Bag n (h2.set m0 (.lst (cs.l ++ [.tup [.str y, f.d]]))) := by
      obtain ⟨q1, L, M, q2, q3⟩ := b2
      exact ⟨q1, L, M, by rw [gset, if_neg (Ne.symm hm)]; exact q2, q3⟩
    have k3 : Keep n hb (h2.set m0 (.lst (cs.l ++ [.tup [.str y, f.d]]))) := ⟨(kp.trans k12).nx, fun m hm' hn => by
      rw [gset, if_neg (by omega)]; exact (kp.trans k12).eq m hm' hn⟩
    obtain ⟨cs', o', h', e4, r1, r2, r3, r4, r5, r6, r7⟩ := clauses_b d k n m0 (c2 := c2) ih hm hm2 (w := w) xs (some x) _ (cs.snoc y f) b3 hx2 k3 g3 (by rw [Cl.snoc_l]; simp at hl ⊢; omega) (Cl.snoc_ok _ _ _ ok oy o2) (by rw [Cl.snoc_dp]; omega)
    refine ⟨cs', o', h', ?_, r1, r2, r3, r4, ?_, r6, r7⟩
    · have tb : Nat.ble (cs.l.length + 1) most = true := Nat.ble_eq_true_of_le hl2
      have one : turnG (asg P (call P (d + 2)) c2 (.var 4)) (evSs P (call P (d + 2)) c2 lpB) x [some (.ref n), some (.int ((k : Int) + 1)), some w, some (.ref m0), o, none] h = some (.nx, [some (.ref n), some (.int ((k : Int) + 1)), some w, some (.ref m0), some x, none], h2.set m0 (.lst (cs.l ++ [.tup [.str y, f.d]]))) := by
        simp [turnG, t1k, tb0, tb1, tb2, tb3, tb4, tb5, tb6, tb7, eqM, scl2, scl, eqD, evSs, evS, evT, evE, evEs, evP, evI, evAll, evAny, evAnd, evOr, asg, asgs, getE, setE, noneL, idxD, dictOf, seqOf, Ev.listOf, atL, ixN, nthL, cmpD, tru, binD, List.set, i64, lpB, runM, e1, e2, bmTy, bmD, hg, g2, tb]
      rw [for_cons rfl one]
      exact e4
    · rw [Cl.snoc_z] at r5
      rw [List.length_cons, Nat.succ_mul]
      omega
theorem expr_b : ∀ (dep d : Nat) {n : Nat} {h : Mm}, Bag n h → ∃ (e : Ex) (h' : Mm), call P (d + dep + 3) 209 [.ref n, .int dep] h = some (e.d, h') ∧ Bag n h' ∧ Keep n h h' ∧ EB dep e
  | 0, d, n, h, b => by
    obtain ⟨r, h1, e1, q1, q2, b1, k1⟩ := take_b H.toHasBag (d + 1) b (s := 4) (by decide) (by decide)
    exact expr_low H d 0 b1 k1 q1 q2 (by rw [if_neg (by decide)]; exact e1)
  | k + 1, d, n, h, b => by
    obtain ⟨r, h1, e1, q1, q2, b1, k1⟩ := take_b H.toHasBag (d + (k + 1) + 1) b (s := 8) (by decide) (by decide)
    by_cases hr : r < 4
    · exact expr_low H (d + (k + 1)) (k + 1) b1 k1 q1 hr (by rw [if_pos (by omega)]; exact e1)
    have ih : ∀ h, Bag n h → ∃ (e : Ex) (h' : Mm), call P (d + (k + 1) + 2) 209 [.ref n, .int k] h = some (e.d, h') ∧ Bag n h' ∧ Keep n h h' ∧ EB k e := fun h b => by
      have := expr_b k d b
      rwa [show d + k + 3 = d + (k + 1) + 2 by omega] at this
    have i0 : ∀ h, Bag n h → ∃ (e : Ex) (h' : Mm), call P (d + (k + 1) + 2) 209 [.ref n, .int 0] h = some (e.d, h') ∧ Bag n h' ∧ Keep n h h' ∧ EB 0 e := fun h b => by
      have := expr_b 0 (d + k) b
      rwa [show d + k + 0 + 3 = d + (k + 1) + 2 by omega] at this
    have hk : ((k + 1 : Nat) : Int) - 1 = k := by omega
    have hz := zB_pos k
    have r4 : ¬ r = 0 := by omega
    by_cases c4 : r = 4
    · subst c4
      obtain ⟨f, h2, e2, b2, k2, z2, d2, o2⟩ := ih h1 b1
      obtain ⟨a, h3, e3, b3, k3, z3, d3, o3⟩ := i0 h2 b2
      obtain ⟨m, h4, e4, m1, m2, b4, k4⟩ := take_b H.toHasBag (d + (k + 1) + 1) b3 (s := 3) (by decide) (by decide)
      refine ⟨.cal f (Exs.rp a m.toNat), h4, ?_, b4, ((k1.trans k2).trans k3).trans k4, ?_, ?_, o2, Exs.rp_ok a o3 _⟩
      · rw [call_f H.f209]
        have m3 : m ≤ 1000 := by omega
        simp [t1k, tb0, tb1, tb2, tb3, tb4, tb5, tb6, tb7, eqM, scl2, scl, eqD, evSs, evS, evT, evE, evEs, evP, evI, evAll, evAny, evAnd, evOr, asg, asgs, getE, setE, noneL, idxD, dictOf, seqOf, Ev.listOf, atL, ixN, nthL, cmpD, tru, binD, List.set, i64, B209, runM, e1, e2, e3, e4, Ex.d, Exs.rp_l, bltD, m1, m3, mkO, O.d]
      · have : m.toNat * a.z ≤ 2 * 1 := Nat.mul_le_mul (by omega) z3
        simp only [Ex.z, Exs.rp_z, zB]
        omega
      · have := Exs.rp_dp a m.toNat
        simp only [Ex.dp]; omega
    by_cases c5 : r = 5
    · subst c5
      obtain ⟨l, h2, e2, l2, ol, b2, k2⟩ := names_e H (d + (k + 1)) (n := n) (i := 4) (c2 := (calls P (d + (k + 1) + 2)).2) (env := [some (.ref n), some (.int ((k : Int) + 1)), some (.int 5), none, none, none]) (fun _ => rfl) rfl b1
      obtain ⟨f, h3, e3, b3, k3, z3, d3, o3⟩ := ih h2 b2
      refine ⟨.lam l f, h3, ?_, b3, (k1.trans k2).trans k3, ?_, ?_, ol, o3⟩
      · rw [call_f H.f209]
        simp only [B209]
        generalize (E.comp true [4] (E.call Md.sh 208 (Es.cons (E.var 0) Es.nil)) (T.var 4) (It.rng (Es.cons (E.call Md.sh 201 (Es.cons (E.var 0) (Es.cons (E.int 3) Es.nil))) Es.nil)) Cs.nil) = X at e2 ⊢
        simp [t1k, tb0, tb1, tb2, tb3, tb4, tb5, tb6, tb7, eqM, scl2, scl, eqD, evSs, evS, evT, evE, evEs, evP, evI, evAll, evAny, evAnd, evOr, asg, asgs, getE, setE, noneL, idxD, dictOf, seqOf, Ev.listOf, atL, ixN, nthL, cmpD, tru, binD, List.set, i64, runM, e1, e2, e3, Ex.d, bltD]
      · simp only [Ex.z, zB]; omega
      · simp only [Ex.dp]; omega
    by_cases c6 : r = 6
    · subst c6
      obtain ⟨x, h2, e2, ox, b2, k2⟩ := name_b H (d + (k + 1)) b1
      obtain ⟨f, h3, e3, b3, k3, z3, d3, o3⟩ := ih h2 b2
      refine ⟨.wal x f, h3, ?_, b3, (k1.trans k2).trans k3, ?_, ?_, ox, o3⟩
      · rw [call_f H.f209]
        simp [t1k, tb0, tb1, tb2, tb3, tb4, tb5, tb6, tb7, eqM, scl2, scl, eqD, evSs, evS, evT, evE, evEs, evP, evI, evAll, evAny, evAnd, evOr, asg, asgs, getE, setE, noneL, idxD, dictOf, seqOf, Ev.listOf, atL, ixN, nthL, cmpD, tru, binD, List.set, i64, B209, runM, e1, e2, e3, Ex.d]
      · simp only [Ex.z, zB]; omega
      · simp only [Ex.dp]; omega
    · have hr7 : r = 7 := by omega
      subst hr7
      have hm : h1.nx ≠ n := by have := b1.1; omega
      obtain ⟨r2, h2, e2, p1, p2, b2, k2⟩ := take_b H.toHasBag (d + (k + 1) + 1) (b1.new (o := .lst [])) (s := 2) (by decide) (by decide)
      have g2 : h2.get h1.nx = some (.lst Cl.nil.l) := by rw [k2.eq _ (Nat.lt_succ_self _) hm, gnew, if_pos rfl]; rfl
      have kn : Keep n h1 h2 := Keep.new.trans k2
      obtain ⟨cs, o', h3, e3, b3, x3, k3, g3, z3, oc, dc⟩ := clauses_b H (d + (k + 1)) k n h1.nx (c2 := (calls P (d + (k + 1) + 2)).2) (hb := h1) ih hm (Nat.le_refl _) (w := .int 7) (rngL (1 + r2).toNat 0 1) none h2 .nil b2 (Nat.lt_of_lt_of_le (Nat.lt_succ_self _) k2.nx) kn g2 (by simp [Cl.l, rngL_len]; omega) trivial (Nat.zero_le _)
      obtain ⟨f, h4, e4, b4, k4, z4, d4, o4⟩ := ih h3 b3
      have g4 : h4.get h1.nx = some (.lst cs.l) := by rw [k4.eq _ x3 hm]; exact g3
      have eY : evS P (call P (d + (k + 1) + 2)) (calls P (d + (k + 1) + 2)).2 (S.for_ (.var 4) (.rng (.cons (.bin .add true (.int 1) (.call .sh 201 (.cons (.var 0) (.cons (.int 2) .nil)))) .nil)) lpB) [some (.ref n), some (.int ((k : Int) + 1)), some (.int 7), some (.ref h1.nx), none, none] (h1.new (.lst [])).2 =
          some (.nx, [some (.ref n), some (.int ((k : Int) + 1)), some (.int 7), some (.ref h1.nx), o', none], h3) := by
        have he : evEs P (call P (d + (k + 1) + 2)) (calls P (d + (k + 1) + 2)).2 (.cons (.bin .add true (.int 1) (.call .sh 201 (.cons (.var 0) (.cons (.int 2) .nil)))) .nil) [some (.ref n), some (.int ((k : Int) + 1)), some (.int 7), some (.ref h1.nx), none, none] (h1.new (.lst [])).2 = some ([.int (1 + r2)], h2) := by
          simp [t1k, tb0, tb1, tb2, tb3, tb4, tb5, tb6, tb7, eqM, scl2, scl, eqD, evSs, evS, evT, evE, evEs, evP, evI, evAll, evAny, evAnd, evOr, asg, asgs, getE, setE, noneL, idxD, dictOf, seqOf, Ev.listOf, atL, ixN, nthL, cmpD, tru, binD, List.set, i64, runM, e2]
        rw [s_for, rng_i he (s62 (i := 1 + r2) (by omega) (k := (1 + r2).toNat) (by omega) (by omega))]
        exact e3
      refine ⟨.lst f cs, h4, ?_, b4, (k1.trans k3).trans k4, ?_, ?_, o4, oc⟩
      · rw [call_f H.f209]
        simp only [B209]
        change (if _ then _ else _) = _
        unfold lpB at eY
        generalize (S.for_ (.var 4) (.rng (.cons (.bin .add true (.int 1) (.call .sh 201 (.cons (.var 0) (.cons (.int 2) .nil)))) .nil)) _) = Y at eY ⊢
        have hn0 : (h1.new (.lst [])).1 = .ref h1.nx := rfl
        simp [t1k, tb0, tb1, tb2, tb3, tb4, tb5, tb6, tb7, eqM, scl2, scl, eqD, evSs, evS, evT, evE, evEs, evP, evI, evAll, evAny, evAnd, evOr, asg, asgs, getE, setE, noneL, idxD, dictOf, seqOf, Ev.listOf, atL, ixN, nthL, cmpD, tru, binD, List.set, i64, runM, e1, eY, e4, g4, Ex.d, bltD, mkO, hn0]
      · simp only [Ex.z, zB]
        rw [rngL_len] at z3
        have : (1 + r2).toNat ≤ 2 := by omega
        have := Nat.mul_le_mul_right (zB k + 1) this
        simp only [Cl.z] at z3
        omega
      · simp only [Ex.dp]; omega
end
end Sy
end
section
set_option Elab.async false
set_option linter.all false
set_option maxRecDepth 100000
set_option maxHeartbeats 4000000
/-! Sy17: wild rows. -/
namespace Sy
open PySem (Str)
open Ev
open Ev (E Es Ks C Cs T Ts S Ss)
def Rws.of : List Rw → Rws
  | [] => .nil
  | r :: s => .cons r (Rws.of s)
theorem Rws.of_l : ∀ l : List Rw, (Rws.of l).l = l.map Rw.d
  | [] => rfl
  | r :: s => by simp [Rws.of, Rws.l, Rws.of_l s]
theorem Rws.of_z {k : Nat} : ∀ l : List Rw, (∀ r ∈ l, r.z ≤ k) → (Rws.of l).z ≤ l.length * k
  | [], _ => by simp [Rws.of, Rws.z]
  | r :: s, h => by
    have h1 := h r (List.mem_cons_self ..)
    have h2 := Rws.of_z s fun x hx => h x (List.mem_cons_of_mem _ hx)
    simp only [Rws.of, Rws.z, List.length_cons, Nat.succ_mul]
    omega
theorem Rws.of_dp {k : Nat} : ∀ l : List Rw, (∀ r ∈ l, r.dp ≤ k) → 1 ≤ k + 1 → (Rws.of l).dp ≤ k + 1
  | [], _, _ => by simp [Rws.of, Rws.dp]
  | r :: s, h, hk => by
    have h1 := h r (List.mem_cons_self ..)
    have h2 := Rws.of_dp s (fun x hx => h x (List.mem_cons_of_mem _ hx)) hk
    simp only [Rws.of, Rws.dp]
    omega
theorem Rws.of_ok : ∀ l : List Rw, (∀ r ∈ l, r.ok) → (Rws.of l).ok
  | [], _ => trivial
  | r :: s, h => ⟨h r (List.mem_cons_self ..), Rws.of_ok s fun x hx => h x (List.mem_cons_of_mem _ hx)⟩
theorem Rws.of_len (l : List Rw) : (Rws.of l).l.length = l.length := by rw [Rws.of_l]; simp
def Rws.app : Rws → Rws → Rws
  | .nil, t => t
  | .cons r s, t => .cons r (s.app t)
theorem Rws.app_l : ∀ s t : Rws, (s.app t).l = s.l ++ t.l
  | .nil, t => rfl
  | .cons r s, t => by simp [Rws.app, Rws.l, Rws.app_l s t]
theorem Rws.app_z : ∀ s t : Rws, (s.app t).z = s.z + t.z
  | .nil, t => by simp [Rws.app, Rws.z]
  | .cons r s, t => by simp only [Rws.app, Rws.z, Rws.app_z s t]; omega
theorem Rws.app_dp : ∀ s t : Rws, (s.app t).dp = max s.dp t.dp
  | .nil, t => by have := Rws.zd t; simp only [Rws.app, Rws.dp]; omega
  | .cons r s, t => by simp only [Rws.app, Rws.dp, Rws.app_dp s t]; omega
theorem Rws.app_ok : ∀ s t : Rws, s.ok → t.ok → (s.app t).ok
  | .nil, t, _, h => h
  | .cons r s, t, h, i => ⟨h.1, Rws.app_ok s t h.2 i⟩
def yB : Nat → Nat
  | 0 => 30
  | k + 1 => 3 * yB k + 30
theorem yB_pos : ∀ k, 30 ≤ yB k
  | 0 => Nat.le_refl _
  | k + 1 => by unfold yB; omega
theorem zB2 : zB 2 = 25 := rfl
def RB (dep : Nat) (s : Rw) : Prop := s.z ≤ yB dep ∧ s.dp ≤ 2 * dep + 6 ∧ s.ok
def SB (dep : Nat) (s : Rws) : Prop := s.z ≤ 3 * yB dep ∧ s.dp ≤ 2 * dep + 7 ∧ s.ok ∧ s.l.length ≤ 3
section
variable {P : Prg} (H : HasWild P)
include H
theorem row_b (dep d : Nat) {n : Nat} (ih : ∀ j, dep = j + 1 → ∀ (w : Bool) (h : Mm), Bag n h → ∃ (s : Rws) (h' : Mm), call P (d + 2 * dep + 5) 211 [.ref n, .int j, .bl w] h = some (.tup s.l, h') ∧ Bag n h' ∧ Keep n h h' ∧ SB j s) (w : Bool) {h : Mm} (b : Bag n h) :
    ∃ (s : Rw) (h' : Mm), call P (d + 2 * dep + 6) 210 [.ref n, .int dep, .bl w] h = some (s.d, h') ∧ Bag n h' ∧ Keep n h h' ∧ RB dep s := by
  obtain ⟨r, h1, e1, q1, q2, b1, k1⟩ := take_b H.toHasBag (d + 2 * dep + 4) b (s := 12) (by decide) (by decide)
  obtain ⟨x, h2, e2, ox, b2, k2⟩ := name_b H (d + 2 * dep + 3) b1
  have k12 := k1.trans k2
  have hy := yB_pos dep
  have ex : ∀ h, Bag n h → ∃ (e : Ex) (h' : Mm), call P (d + 2 * dep + 5) 209 [.ref n, .int 2] h = some (e.d, h') ∧ Bag n h' ∧ Keep n h h' ∧ EB 2 e := fun h b => expr_b H 2 (d + 2 * dep) b
  by_cases c1 : r < 2
  · obtain ⟨e, h3, e3, b3, k3, z3, d3, o3⟩ := ex h2 b2
    rw [zB2] at z3
    refine ⟨.set x e, h3, ?_, b3, k12.trans k3, by simp only [Rw.z]; omega, by simp only [Rw.dp]; omega, ox, o3⟩
    rw [call_f H.f210]
    simp [t1k, tb0, tb1, tb2, tb3, tb4, tb5, tb6, tb7, eqM, scl2, scl, eqD, evSs, evS, evT, evE, evEs, evP, evI, evAll, evAny, evAnd, evOr, asg, asgs, getE, setE, noneL, idxD, dictOf, seqOf, Ev.listOf, atL, ixN, nthL, cmpD, tru, binD, List.set, i64, B210, runM, e1, e2, e3, c1, Rw.d]
  by_cases c2 : r < 6
  · have key : ∀ s : Rw, (r = 2 ∧ s = .del x) ∨ (r = 3 ∧ s = .glb x) ∨ (r = 4 ∧ s = .nln x) ∨ (r = 5 ∧ s = .hole) → call P (d + 2 * dep + 6) 210 [.ref n, .int dep, .bl w] h = some (s.d, h2) := fun s hs => by
      rw [call_f H.f210]
      rcases hs with ⟨rfl, rfl⟩ | ⟨rfl, rfl⟩ | ⟨rfl, rfl⟩ | ⟨rfl, rfl⟩ <;> simp [t1k, tb0, tb1, tb2, tb3, tb4, tb5, tb6, tb7, eqM, scl2, scl, eqD, evSs, evS, evT, evE, evEs, evP, evI, evAll, evAny, evAnd, evOr, asg, asgs, getE, setE, noneL, idxD, dictOf, seqOf, Ev.listOf, atL, ixN, nthL, cmpD, tru, binD, List.set, i64, B210, runM, e1, e2, mkO, O.d, Rw.d]
    have : r = 2 ∨ r = 3 ∨ r = 4 ∨ r = 5 := by omega
    rcases this with z | z | z | z
    · exact ⟨.del x, h2, key _ (.inl ⟨z, rfl⟩), b2, k12, by simp only [Rw.z]; omega, by simp only [Rw.dp]; omega, ox⟩
    · exact ⟨.glb x, h2, key _ (.inr (.inl ⟨z, rfl⟩)), b2, k12, by simp only [Rw.z]; omega, by simp only [Rw.dp]; omega, ox⟩
    · exact ⟨.nln x, h2, key _ (.inr (.inr (.inl ⟨z, rfl⟩))), b2, k12, by simp only [Rw.z]; omega, by simp only [Rw.dp]; omega, ox⟩
    · exact ⟨.hole, h2, key _ (.inr (.inr (.inr ⟨z, rfl⟩))), b2, k12, by simp only [Rw.z]; omega, by simp only [Rw.dp]; omega, trivial⟩
  have last : (r = 10 ∨ r = 11 ∨ dep = 0) → ∃ (s : Rw) (h' : Mm), call P (d + 2 * dep + 6) 210 [.ref n, .int dep, .bl w] h = some (s.d, h') ∧ Bag n h' ∧ Keep n h h' ∧ RB dep s := fun hc => by
    obtain ⟨e, h3, e3, b3, k3, z3, d3, o3⟩ := ex h2 b2
    rw [zB2] at z3
    have n1 : ¬ (r < 9 ∧ 0 < dep) := by omega
    have n2 : ¬ (r = 9 ∧ 0 < dep) := by omega
    by_cases h10 : r = 10
    · subst h10
      cases w with
      | true =>
        refine ⟨.ret e, h3, ?_, b3, k12.trans k3, by simp only [Rw.z]; omega, by simp only [Rw.dp]; omega, o3⟩
        rw [call_f H.f210]
        simp [t1k, tb0, tb1, tb2, tb3, tb4, tb5, tb6, tb7, eqM, scl2, scl, eqD, evSs, evS, evT, evE, evEs, evP, evI, evAll, evAny, evAnd, evOr, asg, asgs, getE, setE, noneL, idxD, dictOf, seqOf, Ev.listOf, atL, ixN, nthL, cmpD, tru, binD, List.set, i64, B210, runM, e1, e2, e3, Rw.d]
      | false =>
        refine ⟨.doo e, h3, ?_, b3, k12.trans k3, by simp only [Rw.z]; omega, by simp only [Rw.dp]; omega, o3⟩
        rw [call_f H.f210]
        simp [t1k, tb0, tb1, tb2, tb3, tb4, tb5, tb6, tb7, eqM, scl2, scl, eqD, evSs, evS, evT, evE, evEs, evP, evI, evAll, evAny, evAnd, evOr, asg, asgs, getE, setE, noneL, idxD, dictOf, seqOf, Ev.listOf, atL, ixN, nthL, cmpD, tru, binD, List.set, i64, B210, runM, e1, e2, e3, Rw.d]
    · refine ⟨.doo e, h3, ?_, b3, k12.trans k3, by simp only [Rw.z]; omega, by simp only [Rw.dp]; omega, o3⟩
      rw [call_f H.f210]
      rcases hc with hc | hc | hc
      · exact absurd hc h10
      · subst hc
        cases w <;> simp [t1k, tb0, tb1, tb2, tb3, tb4, tb5, tb6, tb7, eqM, scl2, scl, eqD, evSs, evS, evT, evE, evEs, evP, evI, evAll, evAny, evAnd, evOr, asg, asgs, getE, setE, noneL, idxD, dictOf, seqOf, Ev.listOf, atL, ixN, nthL, cmpD, tru, binD, List.set, i64, B210, runM, e1, e2, e3, Rw.d]
      · subst hc
        by_cases h9 : r < 9
        · have h99 : ¬ r = 9 := by omega
          cases w <;> simp [t1k, tb0, tb1, tb2, tb3, tb4, tb5, tb6, tb7, eqM, scl2, scl, eqD, evSs, evS, evT, evE, evEs, evP, evI, evAll, evAny, evAnd, evOr, asg, asgs, getE, setE, noneL, idxD, dictOf, seqOf, Ev.listOf, atL, ixN, nthL, cmpD, tru, binD, List.set, i64, B210, runM, e1, e2, e3, c1, c2, h9, h99, h10, Rw.d]
        · by_cases h99 : r = 9
          · subst h99
            cases w <;> simp [t1k, tb0, tb1, tb2, tb3, tb4, tb5, tb6, tb7, eqM, scl2, scl, eqD, evSs, evS, evT, evE, evEs, evP, evI, evAll, evAny, evAnd, evOr, asg, asgs, getE, setE, noneL, idxD, dictOf, seqOf, Ev.listOf, atL, ixN, nthL, cmpD, tru, binD, List.set, i64, B210, runM, e1, e2, e3, Rw.d]
          · cases w <;> simp [t1k, tb0, tb1, tb2, tb3, tb4, tb5, tb6, tb7, eqM, scl2, scl, eqD, evSs, evS, evT, evE, evEs, evP, evI, evAll, evAny, evAnd, evOr, asg, asgs, getE, setE, noneL, idxD, dictOf, seqOf, Ev.listOf, atL, ixN, nthL, cmpD, tru, binD, List.set, i64, B210, runM, e1, e2, e3, c1, c2, h9, h99, h10, Rw.d]
  cases dep with
  | zero => exact last (.inr (.inr rfl))
  | succ j =>
    by_cases c9 : r < 9
    · obtain ⟨l, h3, e3, l3, ol, b3, k3⟩ := names_e H (d + 2 * (j + 1) + 3) (n := n) (i := 6) (c2 := (calls P (d + 2 * (j + 1) + 5)).2) (env := [some (.ref n), some (.int ((j : Int) + 1)), some (.bl w), some (.int r), some (.str x), none, none]) (fun _ => rfl) rfl b2
      obtain ⟨s, h4, e4, b4, k4, z4, d4, o4⟩ := ih j rfl true h3 b3
      obtain ⟨o4, -⟩ := o4
      refine ⟨.dfn x l s, h4, ?_, b4, (k12.trans k3).trans k4, by simp only [Rw.z, yB]; omega, by simp only [Rw.dp]; omega, ox, ol, o4⟩
      rw [call_f H.f210]
      simp only [B210]
      generalize (E.comp true [6] (E.call Md.sh 208 (Es.cons (E.var 0) Es.nil)) (T.var 6) (It.rng (Es.cons (E.call Md.sh 201 (Es.cons (E.var 0) (Es.cons (E.int 3) Es.nil))) Es.nil)) Cs.nil) = X at e3 ⊢
      simp [t1k, tb0, tb1, tb2, tb3, tb4, tb5, tb6, tb7, eqM, scl2, scl, eqD, evSs, evS, evT, evE, evEs, evP, evI, evAll, evAny, evAnd, evOr, asg, asgs, getE, setE, noneL, idxD, dictOf, seqOf, Ev.listOf, atL, ixN, nthL, cmpD, tru, binD, List.set, i64, runM, e1, e2, e3, e4, c1, c2, c9, Rw.d, bltD]
    · by_cases c99 : r = 9
      · subst c99
        obtain ⟨s, h4, e4, b4, k4, z4, d4, o4⟩ := ih j rfl false h2 b2
        obtain ⟨o4, -⟩ := o4
        refine ⟨.kls x s, h4, ?_, b4, k12.trans k4, by simp only [Rw.z, yB]; omega, by simp only [Rw.dp]; omega, ox, o4⟩
        rw [call_f H.f210]
        simp [t1k, tb0, tb1, tb2, tb3, tb4, tb5, tb6, tb7, eqM, scl2, scl, eqD, evSs, evS, evT, evE, evEs, evP, evI, evAll, evAny, evAnd, evOr, asg, asgs, getE, setE, noneL, idxD, dictOf, seqOf, Ev.listOf, atL, ixN, nthL, cmpD, tru, binD, List.set, i64, B210, runM, e1, e2, e4, Rw.d]
      · exact last (by omega)
theorem rows_of (dep d : Nat) {n : Nat} (w : Bool) (hrow : ∀ h, Bag n h → ∃ (s : Rw) (h' : Mm), call P (d + 2 * dep + 6) 210 [.ref n, .int dep, .bl w] h = some (s.d, h') ∧ Bag n h' ∧ Keep n h h' ∧ RB dep s) {h : Mm} (b : Bag n h) :
    ∃ (s : Rws) (h' : Mm), call P (d + 2 * dep + 7) 211 [.ref n, .int dep, .bl w] h = some (.tup s.l, h') ∧ Bag n h' ∧ Keep n h h' ∧ SB dep s := by
  obtain ⟨r, h2, e2, q1, q2, b2, k2⟩ := take_b H.toHasBag (d + 2 * dep + 5) b (s := 4) (by decide) (by decide)
  have he : evEs P (call P (d + 2 * dep + 6)) (calls P (d + 2 * dep + 6)).2 (.cons (.call .sh 201 (.cons (.var 0) (.cons (.int 4) .nil))) .nil) [some (.ref n), some (.int dep), some (.bl w), none] h = some ([.int r], h2) := by
    simp [t1k, tb0, tb1, tb2, tb3, tb4, tb5, tb6, tb7, eqM, scl2, scl, eqD, evSs, evS, evT, evE, evEs, evP, evI, evAll, evAny, evAnd, evOr, asg, asgs, getE, setE, noneL, idxD, dictOf, seqOf, Ev.listOf, atL, ixN, nthL, cmpD, tru, binD, List.set, i64, runM, e2]
  obtain ⟨l, h', e3, q3, q4, b3, k3⟩ := comp_b (n := n) Rw.d (RB dep) (own := [3]) (e := .call .sh 210 (.cons (.var 0) (.cons (.var 1) (.cons (.var 2) .nil)))) (g := .var 3) (cs := .nil) (env := [some (.ref n), some (.int dep), some (.bl w), none]) (rng_i he (s62 q1 (Int.toNat_of_nonneg q1).symm (by omega))) (by rw [rngL_len]; omega) b2 (fun x h b => by
    obtain ⟨a, h', e, b', k, z⟩ := hrow h b
    refine ⟨a, h', ?_, z, b', k⟩
    simp [turnL, t1k, tb0, tb1, tb2, tb3, tb4, tb5, tb6, tb7, eqM, scl2, scl, eqD, evSs, evS, evT, evE, evEs, evP, evI, evAll, evAny, evAnd, evOr, asg, asgs, getE, setE, noneL, idxD, dictOf, seqOf, Ev.listOf, atL, ixN, nthL, cmpD, tru, binD, List.set, i64, wipeE, runM, e])
  refine ⟨Rws.of l, h', ?_, b3, k2.trans k3, ?_, Rws.of_dp l (fun r hr => (q4 r hr).2.1) (by omega), Rws.of_ok l (fun r hr => (q4 r hr).2.2), by rw [Rws.of_len, q3, rngL_len]; omega⟩
  · rw [call_f H.f211]
    simp only [B211]
    generalize (E.comp true [3] (E.call Md.sh 210 (Es.cons (E.var 0) (Es.cons (E.var 1) (Es.cons (E.var 2) Es.nil)))) (T.var 3) (It.rng (Es.cons (E.call Md.sh 201 (Es.cons (E.var 0) (Es.cons (E.int 4) Es.nil))) Es.nil)) Cs.nil) = X at e3 ⊢
    simp [t1k, tb0, tb1, tb2, tb3, tb4, tb5, tb6, tb7, eqM, scl2, scl, eqD, evSs, evS, evT, evE, evEs, evP, evI, evAll, evAny, evAnd, evOr, asg, asgs, getE, setE, noneL, idxD, dictOf, seqOf, Ev.listOf, atL, ixN, nthL, cmpD, tru, binD, List.set, i64, runM, e3, bltD, Rws.of_l]
  · have h1 := Rws.of_z l fun r hr => (q4 r hr).1
    rw [q3, rngL_len] at h1
    have h2 : r.toNat * yB dep ≤ 3 * yB dep := Nat.mul_le_mul_right _ (by omega)
    omega
theorem rows_b : ∀ (dep d : Nat) {n : Nat} (w : Bool) {h : Mm}, Bag n h → ∃ (s : Rws) (h' : Mm), call P (d + 2 * dep + 7) 211 [.ref n, .int dep, .bl w] h = some (.tup s.l, h') ∧ Bag n h' ∧ Keep n h h' ∧ SB dep s
  | 0, d, n, w, h, b => rows_of H 0 d w (fun h b => row_b H 0 d (fun j hj => by cases hj) w b) b
  | k + 1, d, n, w, h, b => rows_of H (k + 1) d w (fun h b => row_b H (k + 1) d (fun j hj w h b => by
      cases hj
      have := rows_b k d w b
      rwa [show d + 2 * k + 7 = d + 2 * (k + 1) + 5 by omega] at this) w b) b
end
end Sy
end
section
set_option Elab.async false
set_option linter.all false
set_option maxRecDepth 100000
set_option maxHeartbeats 4000000
/-! Sy18: a bag made; wild programs; loops by what they keep. -/
namespace Sy
open PySem (Str)
open Ev
open Ev (E Es Ks C Cs T Ts S Ss)
def scrD (ns : List Int) : D := .frl (ns.map .int)
theorem p64 : (2 : Int) ^ 64 = 18446744073709551616 := rfl
theorem i64_of {i : Int} (h1 : -18446744073709551616 < i) (h2 : i < 18446744073709551616) : i64 i = true := by
  unfold i64
  rw [Bool.and_eq_true]
  exact ⟨decide_eq_true (by rw [p64]; exact h1), decide_eq_true (by rw [p64]; exact h2)⟩
theorem i64_mod {x p : Int} (h0 : 0 < p) (h1 : p < 18446744073709551616) : i64 (x % p) = true := by
  have a := Int.emod_nonneg x (by omega : p ≠ 0)
  have b := Int.emod_lt_of_pos x h0
  exact i64_of (by omega) (by omega)
theorem nth_map : ∀ (ns : List Int) (k : Nat), nthL (ns.map D.int) k = (ns[k]?).map D.int
  | [], k => by simp [nthL]
  | n :: r, 0 => rfl
  | n :: r, k + 1 => by simp [nthL, nth_map r k]
def cellE : E := .ite (.of (.cmp .lt (.var 1) (.blt .len true (.cons (.var 0) .nil)))) (.idx (.var 0) (.var 1)) (.int 0)
theorem cell_e {P : Prg} (ns : List Int) (k : Nat) {c1 c2 : Fs} {h : Mm} {r : Ev.Env} : ∃ c : Int, evE P c1 c2 cellE (some (scrD ns) :: some (.int k) :: r) h = some (.int c, h) := by
  by_cases hk : k < ns.length
  · refine ⟨ns[k], ?_⟩
    have h1 : ixN ns.length (k : Int) = some k := by unfold ixN; rw [if_pos (by omega), if_pos (by omega)]; rfl
    simp [evSs, evS, evT, evE, evEs, evP, evI, evAll, evAny, evAnd, evOr, asg, asgs, getE, setE, noneL, cellE, scrD, bltD, seqOf, cmpD, tru, idxD, dictOf, atL, h1, nth_map, hk]
  · refine ⟨0, ?_⟩
    simp [evSs, evS, evT, evE, evEs, evP, evI, evAll, evAny, evAnd, evOr, asg, asgs, getE, setE, noneL, cellE, scrD, bltD, seqOf, cmpD, tru, hk]
theorem j1 : i64 40961 = true := rfl
theorem j2 : i64 3 = true := rfl
theorem j3 : i64 10 = true := rfl
theorem t18 : (10 : Int) ^ 18 = 1000000000000000000 := rfl
def pr : Nat → Int
  | 0 => 2147483647
  | 1 => 2147483629
  | 2 => 2147483587
  | 3 => 2147483579
  | 4 => 2147483563
  | 5 => 2147483549
  | _ => 2147483543
def ab (c : Int) : Int := if c < 0 then -c else c
def mx (c : Int) (k : Nat) : Int := (c % 2305843009213693951 + 40961 * k + 19) ^ 3 % pr k
theorem pr_pos : ∀ k, 0 < pr k := fun k => by
  unfold pr
  split <;> decide
theorem scrD_pure (ns : List Int) : pureL (ns.map D.int) = true := by
  induction ns with
  | nil => rfl
  | cons n r ih => simp [pureL, pureD, ih]
section
variable {P : Prg} (H : HasBag P)
include H
theorem bag_run (d : Nat) (ns : List Int) (k : Nat) (hk : k < 6) : ∃ c : Int, call P (d + 1) 200 [scrD ns, .int k] .nil = some (.ref 0, (Mm.nil.new (.lst [.int (if 1000000000000000000 ≤ ab c then ab c else 0), .int (mx c k * (mx c k / 5 + 3 * k + 11) % (if k = 5 then 2147483647 else pr (k + 2)) + 1)])).2) := by
  obtain ⟨c, hc⟩ := cell_e (P := P) ns k (c1 := call P d) (c2 := (calls P d).2) (h := .nil) (r := [some (.tup [.int 2147483647, .int 2147483629, .int 2147483587, .int 2147483579, .int 2147483563, .int 2147483549, .int 2147483543]), none, none, none])
  refine ⟨c, ?_⟩
  rw [call_f H.f200]
  simp only [B200]
  unfold cellE at hc
  generalize (E.ite (.of (.cmp .lt (.var 1) (.blt .len true (.cons (.var 0) .nil)))) (.idx (.var 0) (.var 1)) (.int 0)) = X at hc ⊢
  have hk' : k = 0 ∨ k = 1 ∨ k = 2 ∨ k = 3 ∨ k = 4 ∨ k = 5 := by omega
  have q0 := Int.emod_nonneg c (by decide : (2305843009213693951 : Int) ≠ 0)
  have q1 := Int.emod_lt_of_pos c (by decide : (0 : Int) < 2305843009213693951)
  have h64 : i64 (c % 2305843009213693951 + 40961 * k + 19) = true := i64_of (by omega) (by omega)
  have m1 : ∀ x : Int, i64 (x % 2147483647) = true := fun x => i64_mod (by decide) (by decide)
  have m2 : ∀ x : Int, i64 (x % 2147483629) = true := fun x => i64_mod (by decide) (by decide)
  have m3 : ∀ x : Int, i64 (x % 2147483587) = true := fun x => i64_mod (by decide) (by decide)
  have m4 : ∀ x : Int, i64 (x % 2147483579) = true := fun x => i64_mod (by decide) (by decide)
  have m5 : ∀ x : Int, i64 (x % 2147483563) = true := fun x => i64_mod (by decide) (by decide)
  have m6 : ∀ x : Int, i64 (x % 2147483549) = true := fun x => i64_mod (by decide) (by decide)
  by_cases hA : (1000000000000000000 : Int) ≤ (if c < 0 then -c else c)
  · rcases hk' with rfl | rfl | rfl | rfl | rfl | rfl <;>
    (simp at h64 hc; simp [t1k, tb0, tb1, tb2, tb3, tb4, tb5, tb6, tb7, eqM, scl2, scl, eqD, evSs, evS, evT, evE, evEs, evP, evI, evAll, evAny, evAnd, evOr, asg, asgs, getE, setE, noneL, idxD, dictOf, seqOf, Ev.listOf, atL, ixN, nthL, cmpD, tru, binD, List.set, runM, hc, bltD, j1, j2, j3, h64, m1, m2, m3, m4, m5, m6, hA, mx, pr, ab, mkO]; try rfl)
  · rcases hk' with rfl | rfl | rfl | rfl | rfl | rfl <;>
    (simp at h64 hc; simp [t1k, tb0, tb1, tb2, tb3, tb4, tb5, tb6, tb7, eqM, scl2, scl, eqD, evSs, evS, evT, evE, evEs, evP, evI, evAll, evAny, evAnd, evOr, asg, asgs, getE, setE, noneL, idxD, dictOf, seqOf, Ev.listOf, atL, ixN, nthL, cmpD, tru, binD, List.set, runM, hc, bltD, j1, j2, j3, h64, m1, m2, m3, m4, m5, m6, hA, mx, pr, ab, mkO]; try rfl)
theorem bag_b (d : Nat) (ns : List Int) (k : Nat) (hk : k < 6) (h : Mm) : ∃ L M : Int, runM .liv (call P (d + 1) 200) [scrD ns, .int k] h = some (h.new (.lst [.int L, .int M])) ∧ 0 ≤ L ∧ 0 ≤ M := by
  obtain ⟨c, e⟩ := bag_run H d ns k hk
  have hp : pureL [scrD ns, D.int k] = true := by simp [pureL, pureD, scrD, scrD_pure]
  have q : (0 : Int) < (if k = 5 then 2147483647 else pr (k + 2)) := by
    split
    · decide
    · exact pr_pos _
  have q2 := Int.emod_nonneg (mx c k * (mx c k / 5 + 3 * k + 11)) (by omega : (if k = 5 then (2147483647 : Int) else pr (k + 2)) ≠ 0)
  refine ⟨if 1000000000000000000 ≤ ab c then ab c else 0, mx c k * (mx c k / 5 + 3 * k + 11) % (if k = 5 then 2147483647 else pr (k + 2)) + 1, ?_, ?_, by omega⟩
  · simp only [runM, hp, cond_true, e]
    rfl
  · split
    · omega
    · decide
end
end Sy
end
section
set_option Elab.async false
set_option linter.all false
set_option maxRecDepth 100000
set_option maxHeartbeats 4000000
/-! Sy19: wild programs; loops by what they keep. -/
namespace Sy
open PySem (Str)
open Ev
open Ev (E Es Ks C Cs T Ts S Ss)
theorem run_sh {g : List D → Mm → Option (D × Mm)} {vs : List D} {h : Mm} : runM .sh g vs h = g vs h := rfl
theorem for_inv {st : Mm → Bool} {turn : D → Ev.Env → Mm → Option (Fl × Ev.Env × Mm)} {I : Ev.Env → Mm → Prop} : ∀ (xs : List D), (∀ h, st h = true) → (∀ x ∈ xs, ∀ env h, I env h → ∃ env' h', turn x env h = some (.nx, env', h') ∧ I env' h') →
    ∀ env h, I env h → ∃ env' h', forL st turn xs env h = some (.nx, env', h') ∧ I env' h'
  | [], hs, ht, env, h, i => ⟨env, h, for_nil (hs h), i⟩
  | x :: r, hs, ht, env, h, i => by
    obtain ⟨e1, h1, q1, i1⟩ := ht x (List.mem_cons_self ..) env h i
    obtain ⟨e2, h2, q2, i2⟩ := for_inv r hs (fun y hy => ht y (List.mem_cons_of_mem _ hy)) e1 h1 i1
    exact ⟨e2, h2, by rw [for_cons (hs h) q1]; exact q2, i2⟩
theorem rngL_mem : ∀ (n : Nat) (lo : Int) (x : D), x ∈ rngL n lo 1 → ∃ i : Nat, i < n ∧ x = .int (lo + i)
  | 0, _, _, h => by simp [rngL] at h
  | n + 1, lo, x, h => by
    simp only [rngL, List.mem_cons] at h
    rcases h with rfl | h
    · exact ⟨0, Nat.succ_pos n, by simp⟩
    · obtain ⟨i, h1, h2⟩ := rngL_mem n (lo + 1) x h
      exact ⟨i + 1, Nat.succ_lt_succ h1, by rw [h2]; congr 1; omega⟩
/-- a wild program's bounds -/
structure Wl (dep : Nat) (l : Rws) : Prop where
  ok : l.ok
  z : l.z ≤ 6 * yB dep
  dp : l.dp ≤ 2 * dep + 7
  sm : Sm l
section
variable {P : Prg} (H : HasWild P) (L : HasLs P) (R : HasRi P)
include H L R
theorem wild_b (hw : P.fns 212 = some ⟨2, 2, B212⟩) (hs : P.fns 207 = some ⟨1, 2, B207⟩) (dep d : Nat) (hdep : dep ≤ 3) {n : Nat} {h : Mm} (b : Bag n h) :
    ∃ (l : Rws) (h' : Mm), call P (d + 2 * dep + 11) 212 [.ref n, .int dep] h = some (.tup l.l, h') ∧ Bag n h' ∧ Keep n h h' ∧ Wl dep l := by
  obtain ⟨s, h1, e1, b1, k1, z1, d1, o1, n1⟩ := rows_b H dep (d + 3) false b
  obtain ⟨t, h2, e2, b2, k2, z2, d2, o2, n2⟩ := rows_b H dep (d + 3) false b1
  have yb : yB dep ≤ 1200 := by
    have : dep = 0 ∨ dep = 1 ∨ dep = 2 ∨ dep = 3 := by omega
    rcases this with rfl | rfl | rfl | rfl <;> decide
  have ok := Rws.app_ok s t o1 o2
  have hz := Rws.app_z s t
  have hd := Rws.app_dp s t
  have hl := Rws.app_l s t
  obtain ⟨l, p, sm, e3⟩ := small_iso L R hs (s.app t) (d + 2 * dep + 10) ok (by omega) (by omega) (by omega) (by rw [hl]; simp; omega) h2
  refine ⟨l, h2, ?_, b2, k1.trans k2, p.ok ok, by have := p.z; omega, by have := p.dp; omega, sm⟩
  have e1' : call P (d + 2 * dep + 10) 211 [.ref n, .int dep, .bl false] h = some (.tup s.l, h1) := by rw [← e1]; congr 1; omega
  have e2' : call P (d + 2 * dep + 10) 211 [.ref n, .int dep, .bl false] h1 = some (.tup t.l, h2) := by rw [← e2]; congr 1; omega
  have ha : binD .add true (.tup s.l) (.tup t.l) h2 = some (.tup (s.app t).l, h2) := by
    have : Nat.ble (s.l.length + t.l.length) most = true := ble_m (by omega)
    simp only [binD, this, cond_true, hl]
  rw [call_f hw]
  simp only [B212, evSs, s_asg, s_par, s_aug, s_augS, s_exp, s_ret, s_retN, s_iff, s_pass, s_brk, s_cnt, e_var, e_non, e_bl, e_int, e_str, e_glo, e_bin, e_neg, e_cmp, e_and, e_or, e_ite, e_tup, e_lst, e_dic, e_idx, e_sl, e_call, e_blt, e_bm, e_isi, evT, evEs, evP, evKV, evAll, evAny, evAnd, evOr, asg, asgs, getE, setE, noneL, run_sh, e3, e1', e2', ha, List.length_cons, List.length_nil, Nat.reduceAdd, if_true, List.map_cons, List.map_nil, Nat.sub_self, List.append_nil]
end
end Sy
end
section
set_option Elab.async false
set_option linter.all false
set_option maxRecDepth 100000
set_option maxHeartbeats 0
namespace K04
open PySem Ev
open Ev (E Es Ks C Cs T Ts S Ss)
abbrev b1 : Ss := Sy.B1
abbrev b2 : Ss := Sy.B2
abbrev b3 : Ss := Sy.B3
abbrev b4 : Ss := Sy.B4
abbrev b5 : Ss := Sy.B5
abbrev b6 : Ss := Sy.B6
abbrev b7 : Ss := Sy.B7
abbrev b8 : Ss := Sy.B8
abbrev b9 : Ss := Sy.B9
abbrev b10 : Ss := Sy.B10
abbrev b12 : Ss := Sy.B12
abbrev b200 : Ss := Sy.B200
abbrev b201 : Ss := Sy.B201
abbrev b202 : Ss := Sy.B202
abbrev b203 : Ss := Sy.B203
abbrev b204 : Ss := Sy.B204
abbrev b205 : Ss := Sy.B205
abbrev b206 : Ss := Sy.B206
abbrev b207 : Ss := Sy.B207
abbrev b208 : Ss := Sy.B208
abbrev b209 : Ss := Sy.B209
abbrev b210 : Ss := Sy.B210
abbrev b211 : Ss := Sy.B211
abbrev b212 : Ss := Sy.B212
/-- law -/
def b324 : Ss := (.cons (.for_ (.var 1) (.rng (.cons (.blt .max2 true (.cons (.int 2) (.cons (.blt .min2 true (.cons (.int 6) (.cons (.blt .len true (.cons (.var 0) .nil)) .nil))) .nil))) .nil)) (.cons (.asg (.var 4) (.call .liv 200 (.cons (.var 0) (.cons (.var 1) .nil))))
    (.cons (.for_ (.var 5) (.rng (.cons (.int 8) .nil)) (.cons (.asg (.var 6) (.call .sh 212 (.cons (.var 4) (.cons (.int 3) .nil))))
    (.cons (.par 8 9 (.blt .repr true (.cons (.var 6) .nil)) (.call .iso 202 (.cons (.var 6) .nil)))
    (.cons (.asg (.var 7) (.call .liv 12 (.cons (.var 6) .nil)))
    (.cons (.iff (.of (.cmp .ne (.blt .repr true (.cons (.var 7) .nil)) (.blt .repr true (.cons (.comp true [10] (.sl true (.var 10) .nil (.cons (.int 3) .nil)) (.var 10) (.of (.idx (.var 9) (.str "mentions"))) .nil) .nil)))) (.cons (.ret (.bl false))
    .nil) .nil)
    (.cons (.exp (.bm .append (.var 7) (.cons .non .nil)))
    (.cons (.iff (.or (.cons (.of (.cmp .ne (.blt .repr true (.cons (.call .iso 12 (.cons (.var 6) .nil)) .nil)) (.blt .repr true (.cons (.sl true (.var 7) .nil (.cons (.neg (.int 1)) .nil)) .nil)))) (.cons (.of (.cmp .ne (.blt .repr true (.cons (.var 6) .nil)) (.var 8))) .nil))) (.cons (.ret (.bl false))
    .nil) .nil)
    .nil)))))))
    .nil)))
    (.cons (.asg (.var 2) (.tup (.cons (.str "list") (.cons (.tup (.cons (.str "name") (.cons (.str "a") .nil))) (.cons (.tup (.cons (.tup (.cons (.str "b") (.cons (.tup (.cons (.str "name") (.cons (.str "c") .nil))) .nil))) (.cons (.tup (.cons (.str "d") (.cons (.tup (.cons (.str "walrus") (.cons (.str "e") (.cons (.tup (.cons (.str "name") (.cons (.str "f") .nil))) .nil)))) .nil))) .nil))) .nil)))))
    (.cons (.asg (.var 3) (.lst true (.cons (.tup (.cons (.tup (.cons (.int 0) .nil)) (.cons (.str "a") (.cons (.str "read") .nil)))) (.cons (.tup (.cons (.tup (.cons (.int 0) .nil)) (.cons (.str "b") (.cons (.str "write") .nil)))) (.cons (.tup (.cons (.tup .nil) (.cons (.str "c") (.cons (.str "read") .nil)))) (.cons (.tup (.cons (.tup (.cons (.int 0) .nil)) (.cons (.str "d") (.cons (.str "write") .nil)))) (.cons (.tup (.cons (.tup (.cons (.int 0) .nil)) (.cons (.str "e") (.cons (.str "write") .nil)))) .nil)))))))
    (.cons (.ret (.cmp .eq (.call .iso 12 (.cons (.tup (.cons (.tup (.cons (.str "do") (.cons (.var 2) .nil))) .nil)) .nil)) (.bin .add true (.var 3) (.lst true (.cons (.tup (.cons (.tup (.cons (.int 0) .nil)) (.cons (.str "f") (.cons (.str "read") .nil)))) .nil)))))
    .nil))))
def top (i : Nat) : Stmt := PySem.Challenge.pw_scopetables_k04_mentions_in_order.main.body.getD i (.Pass ⟨0, 0, 0, 0⟩)
def inn (s : Stmt) (j : Nat) : Stmt := match s with | .ClassDef _ _ _ b _ _ _ _ _ _ _ => b.getD j (.Pass ⟨0, 0, 0, 0⟩) | _ => s
abbrev s1 : Stmt := inn (top 13) 0
abbrev f1 : Df := ⟨("Scan", some "__init__"), "__init__", "Scan.__init__", s1, ["self", "program"], ["self", "program"], b1⟩
abbrev s2 : Stmt := inn (top 13) 1
abbrev f2 : Df := ⟨("Scan", some "begin"), "begin", "Scan.begin", s2, ["self", "path", "kind"], ["self", "path", "kind"], b2⟩
abbrev s3 : Stmt := inn (top 13) 2
abbrev f3 : Df := ⟨("Scan", some "begin_in"), "begin_in", "Scan.begin_in", s3, ["self", "path", "kind"], ["self", "path", "kind", "index"], b3⟩
abbrev s4 : Stmt := inn (top 13) 3
abbrev f4 : Df := ⟨("Scan", some "seat_of"), "seat_of", "Scan.seat_of", s4, ["self", "path"], ["self", "path"], b4⟩
abbrev s5 : Stmt := inn (top 13) 4
abbrev f5 : Df := ⟨("Scan", some "mention"), "mention", "Scan.mention", s5, ["self", "path", "name", "role"], ["self", "path", "name", "role"], b5⟩
abbrev s6 : Stmt := inn (top 13) 5
abbrev f6 : Df := ⟨("Scan", some "read_rows"), "read_rows", "Scan.read_rows", s6, ["self", "rows", "path"], ["self", "rows", "path", "row"], b6⟩
abbrev s7 : Stmt := inn (top 13) 6
abbrev f7 : Df := ⟨("Scan", some "read_row"), "read_row", "Scan.read_row", s7, ["self", "row", "path"], ["self", "row", "path", "word", "inside"], b7⟩
abbrev s8 : Stmt := inn (top 13) 7
abbrev f8 : Df := ⟨("Scan", some "read_parameters"), "read_parameters", "Scan.read_parameters", s8, ["self", "names", "path"], ["self", "names", "path", "name"], b8⟩
abbrev s9 : Stmt := inn (top 13) 8
abbrev f9 : Df := ⟨("Scan", some "read_expr"), "read_expr", "Scan.read_expr", s9, ["self", "expr", "path", "in_source"], ["self", "expr", "path", "in_source", "word", "part", "inside"], b9⟩
abbrev s10 : Stmt := inn (top 13) 9
abbrev f10 : Df := ⟨("Scan", some "read_list"), "read_list", "Scan.read_list", s10, ["self", "element", "clauses", "path", "in_source"], ["self", "element", "clauses", "path", "in_source", "inside", "place", "name", "source"], b10⟩
abbrev s12 : Stmt := top 14
abbrev f12 : Df := ⟨("mentions", none), "mentions", "mentions", s12, ["program"], ["program"], b12⟩
abbrev s200 : Stmt := top 16
abbrev f200 : Df := ⟨("_law_bag", none), "_law_bag", "_law_bag", s200, ["_law_script", "_law_at"], ["_law_script", "_law_at", "_law_primes", "_law_cell", "_law_large", "_law_mixed"], b200⟩
abbrev s201 : Stmt := top 17
abbrev f201 : Df := ⟨("_law_take", none), "_law_take", "_law_take", s201, ["_law_bag_here", "_law_size"], ["_law_bag_here", "_law_size", "_law_digit"], b201⟩
abbrev s202 : Stmt := top 18
abbrev f202 : Df := ⟨("_law_scan", none), "_law_scan", "_law_scan", s202, ["_law_program"], ["_law_program", "_law_found"], b202⟩
abbrev s203 : Stmt := top 19
abbrev f203 : Df := ⟨("_law_block", none), "_law_block", "_law_block", s203, ["_law_found", "_law_path", "_law_kind"], ["_law_found", "_law_path", "_law_kind", "_law_inside"], b203⟩
abbrev s204 : Stmt := top 20
abbrev f204 : Df := ⟨("_law_scan_rows", none), "_law_scan_rows", "_law_scan_rows", s204, ["_law_rows", "_law_path", "_law_found"], ["_law_rows", "_law_path", "_law_found", "_law_roles", "_law_row", "_law_inside", "_law_name_here"], b204⟩
abbrev s205 : Stmt := top 21
abbrev f205 : Df := ⟨("_law_scan_expr", none), "_law_scan_expr", "_law_scan_expr", s205, ["_law_expr", "_law_path", "_law_found", "_law_source"], ["_law_expr", "_law_path", "_law_found", "_law_source", "_law_part", "_law_inside", "_law_seat", "_law_at", "_law_clause", "_law_name_here"], b205⟩
abbrev s206 : Stmt := top 22
abbrev f206 : Df := ⟨("_law_rows_in", none), "_law_rows_in", "_law_rows_in", s206, ["_law_rows"], ["_law_rows", "_law_inner", "_law_row"], b206⟩
abbrev s207 : Stmt := top 23
abbrev f207 : Df := ⟨("_law_small", none), "_law_small", "_law_small", s207, ["_law_program"], ["_law_program", "_law_found"], b207⟩
abbrev s208 : Stmt := top 24
abbrev f208 : Df := ⟨("_law_name", none), "_law_name", "_law_name", s208, ["_law_bag_here"], ["_law_bag_here"], b208⟩
abbrev s209 : Stmt := top 25
abbrev f209 : Df := ⟨("_law_wild_expr", none), "_law_wild_expr", "_law_wild_expr", s209, ["_law_bag_here", "_law_depth"], ["_law_bag_here", "_law_depth", "_law_way", "_law_clauses", "_law_turn", "_law_names"], b209⟩
abbrev s210 : Stmt := top 26
abbrev f210 : Df := ⟨("_law_wild_row", none), "_law_wild_row", "_law_wild_row", s210, ["_law_bag_here", "_law_depth", "_law_in_def"], ["_law_bag_here", "_law_depth", "_law_in_def", "_law_way", "_law_name_here", "_law_names", "_law_turn"], b210⟩
abbrev s211 : Stmt := top 27
abbrev f211 : Df := ⟨("_law_wild_rows", none), "_law_wild_rows", "_law_wild_rows", s211, ["_law_bag_here", "_law_depth", "_law_in_def"], ["_law_bag_here", "_law_depth", "_law_in_def", "_law_turn"], b211⟩
abbrev s212 : Stmt := top 28
abbrev f212 : Df := ⟨("_law_wild", none), "_law_wild", "_law_wild", s212, ["_law_bag_here", "_law_depth"], ["_law_bag_here", "_law_depth"], b212⟩
abbrev s324 : Stmt := top 29
abbrev f324 : Df := ⟨("law", none), "law", "law", s324, ["_law_script"], ["_law_script", "_law_k", "_law_inner", "_law_due", "_law_bag_here", "_law_turn", "_law_program", "_law_told", "_law_kept", "_law_found", "_law_one"], b324⟩
def t : Tab where
  frees := ["abs", "enumerate", "int", "isinstance", "len", "max", "min", "range", "repr", "sum", "tuple"]
  txs := [("CLASS", "class"), ("FUNCTION", "function"), ("LAMBDA", "lambda"), ("LIST", "list"), ("MODULE", "module"), ("PARAMETER", "parameter"), ("READ", "read"), ("WRITE", "write")]
  dks := [("ROLES", Sy.r_ROLES)]
  cls := [(1, ⟨"Scan", 1, ["blocks", "kinds", "inner", "mentions", "seats", "targets", "walruses", "holes"], [("begin", 2), ("read_rows", 6), ("read_row", 7), ("read_expr", 9), ("mention", 5), ("begin_in", 3), ("read_parameters", 8), ("seat_of", 4), ("read_list", 10)]⟩)]
  defs := [(1, f1), (2, f2), (3, f3), (4, f4), (5, f5), (6, f6), (7, f7), (8, f8), (9, f9), (10, f10), (12, f12), (200, f200), (201, f201), (202, f202), (203, f203), (204, f204), (205, f205), (206, f206), (207, f207), (208, f208), (209, f209), (210, f210), (211, f211), (212, f212)]
  W := 200
  lw := "law"
theorem c1 : chkSs t.I b1 f1.N (L2.defScope s1) (L2.defBody s1) = true := by kernel_rfl
theorem e1 : L2.FnScope f1.N f1.ps (L2.defScope s1) := ⟨by kernel_rfl, by kernel_rfl, by kernel_rfl, by decide +kernel, by kernel_rfl, by decide +kernel, by decide +kernel⟩
theorem g1 (kV doc pm : Value) (an : Option Addr) (cdv ct : Value) (us : List Value) (hl : us.length = f1.ps.length) : bindArgs (PySem.W.fnOf f1.name f1.qual (L2.defArgs s1) (L2.defBody s1) (L2.defScope s1) .none kV doc pm an cdv ct) ⟨us, []⟩ = pure (f1.ps.zip us) := match us, hl with | [_, _], _ => rfl
theorem c2 : chkSs t.I b2 f2.N (L2.defScope s2) (L2.defBody s2) = true := by kernel_rfl
theorem e2 : L2.FnScope f2.N f2.ps (L2.defScope s2) := ⟨by kernel_rfl, by kernel_rfl, by kernel_rfl, by decide +kernel, by kernel_rfl, by decide +kernel, by decide +kernel⟩
theorem g2 (kV doc pm : Value) (an : Option Addr) (cdv ct : Value) (us : List Value) (hl : us.length = f2.ps.length) : bindArgs (PySem.W.fnOf f2.name f2.qual (L2.defArgs s2) (L2.defBody s2) (L2.defScope s2) .none kV doc pm an cdv ct) ⟨us, []⟩ = pure (f2.ps.zip us) := match us, hl with | [_, _, _], _ => rfl
theorem c3 : chkSs t.I b3 f3.N (L2.defScope s3) (L2.defBody s3) = true := by kernel_rfl
theorem e3 : L2.FnScope f3.N f3.ps (L2.defScope s3) := ⟨by kernel_rfl, by kernel_rfl, by kernel_rfl, by decide +kernel, by kernel_rfl, by decide +kernel, by decide +kernel⟩
theorem g3 (kV doc pm : Value) (an : Option Addr) (cdv ct : Value) (us : List Value) (hl : us.length = f3.ps.length) : bindArgs (PySem.W.fnOf f3.name f3.qual (L2.defArgs s3) (L2.defBody s3) (L2.defScope s3) .none kV doc pm an cdv ct) ⟨us, []⟩ = pure (f3.ps.zip us) := match us, hl with | [_, _, _], _ => rfl
theorem c4 : chkSs t.I b4 f4.N (L2.defScope s4) (L2.defBody s4) = true := by kernel_rfl
theorem e4 : L2.FnScope f4.N f4.ps (L2.defScope s4) := ⟨by kernel_rfl, by kernel_rfl, by kernel_rfl, by decide +kernel, by kernel_rfl, by decide +kernel, by decide +kernel⟩
theorem g4 (kV doc pm : Value) (an : Option Addr) (cdv ct : Value) (us : List Value) (hl : us.length = f4.ps.length) : bindArgs (PySem.W.fnOf f4.name f4.qual (L2.defArgs s4) (L2.defBody s4) (L2.defScope s4) .none kV doc pm an cdv ct) ⟨us, []⟩ = pure (f4.ps.zip us) := match us, hl with | [_, _], _ => rfl
theorem c5 : chkSs t.I b5 f5.N (L2.defScope s5) (L2.defBody s5) = true := by kernel_rfl
theorem e5 : L2.FnScope f5.N f5.ps (L2.defScope s5) := ⟨by kernel_rfl, by kernel_rfl, by kernel_rfl, by decide +kernel, by kernel_rfl, by decide +kernel, by decide +kernel⟩
theorem g5 (kV doc pm : Value) (an : Option Addr) (cdv ct : Value) (us : List Value) (hl : us.length = f5.ps.length) : bindArgs (PySem.W.fnOf f5.name f5.qual (L2.defArgs s5) (L2.defBody s5) (L2.defScope s5) .none kV doc pm an cdv ct) ⟨us, []⟩ = pure (f5.ps.zip us) := match us, hl with | [_, _, _, _], _ => rfl
theorem c6 : chkSs t.I b6 f6.N (L2.defScope s6) (L2.defBody s6) = true := by kernel_rfl
theorem e6 : L2.FnScope f6.N f6.ps (L2.defScope s6) := ⟨by kernel_rfl, by kernel_rfl, by kernel_rfl, by decide +kernel, by kernel_rfl, by decide +kernel, by decide +kernel⟩
theorem g6 (kV doc pm : Value) (an : Option Addr) (cdv ct : Value) (us : List Value) (hl : us.length = f6.ps.length) : bindArgs (PySem.W.fnOf f6.name f6.qual (L2.defArgs s6) (L2.defBody s6) (L2.defScope s6) .none kV doc pm an cdv ct) ⟨us, []⟩ = pure (f6.ps.zip us) := match us, hl with | [_, _, _], _ => rfl
theorem c7 : chkSs t.I b7 f7.N (L2.defScope s7) (L2.defBody s7) = true := by kernel_rfl
theorem e7 : L2.FnScope f7.N f7.ps (L2.defScope s7) := ⟨by kernel_rfl, by kernel_rfl, by kernel_rfl, by decide +kernel, by kernel_rfl, by decide +kernel, by decide +kernel⟩
theorem g7 (kV doc pm : Value) (an : Option Addr) (cdv ct : Value) (us : List Value) (hl : us.length = f7.ps.length) : bindArgs (PySem.W.fnOf f7.name f7.qual (L2.defArgs s7) (L2.defBody s7) (L2.defScope s7) .none kV doc pm an cdv ct) ⟨us, []⟩ = pure (f7.ps.zip us) := match us, hl with | [_, _, _], _ => rfl
theorem c8 : chkSs t.I b8 f8.N (L2.defScope s8) (L2.defBody s8) = true := by kernel_rfl
theorem e8 : L2.FnScope f8.N f8.ps (L2.defScope s8) := ⟨by kernel_rfl, by kernel_rfl, by kernel_rfl, by decide +kernel, by kernel_rfl, by decide +kernel, by decide +kernel⟩
theorem g8 (kV doc pm : Value) (an : Option Addr) (cdv ct : Value) (us : List Value) (hl : us.length = f8.ps.length) : bindArgs (PySem.W.fnOf f8.name f8.qual (L2.defArgs s8) (L2.defBody s8) (L2.defScope s8) .none kV doc pm an cdv ct) ⟨us, []⟩ = pure (f8.ps.zip us) := match us, hl with | [_, _, _], _ => rfl
theorem c9 : chkSs t.I b9 f9.N (L2.defScope s9) (L2.defBody s9) = true := by kernel_rfl
theorem e9 : L2.FnScope f9.N f9.ps (L2.defScope s9) := ⟨by kernel_rfl, by kernel_rfl, by kernel_rfl, by decide +kernel, by kernel_rfl, by decide +kernel, by decide +kernel⟩
theorem g9 (kV doc pm : Value) (an : Option Addr) (cdv ct : Value) (us : List Value) (hl : us.length = f9.ps.length) : bindArgs (PySem.W.fnOf f9.name f9.qual (L2.defArgs s9) (L2.defBody s9) (L2.defScope s9) .none kV doc pm an cdv ct) ⟨us, []⟩ = pure (f9.ps.zip us) := match us, hl with | [_, _, _, _], _ => rfl
theorem c10 : chkSs t.I b10 f10.N (L2.defScope s10) (L2.defBody s10) = true := by kernel_rfl
theorem e10 : L2.FnScope f10.N f10.ps (L2.defScope s10) := ⟨by kernel_rfl, by kernel_rfl, by kernel_rfl, by decide +kernel, by kernel_rfl, by decide +kernel, by decide +kernel⟩
theorem g10 (kV doc pm : Value) (an : Option Addr) (cdv ct : Value) (us : List Value) (hl : us.length = f10.ps.length) : bindArgs (PySem.W.fnOf f10.name f10.qual (L2.defArgs s10) (L2.defBody s10) (L2.defScope s10) .none kV doc pm an cdv ct) ⟨us, []⟩ = pure (f10.ps.zip us) := match us, hl with | [_, _, _, _, _], _ => rfl
theorem c12 : chkSs t.I b12 f12.N (L2.defScope s12) (L2.defBody s12) = true := by kernel_rfl
theorem e12 : L2.FnScope f12.N f12.ps (L2.defScope s12) := ⟨by kernel_rfl, by kernel_rfl, by kernel_rfl, by decide +kernel, by kernel_rfl, by decide +kernel, by decide +kernel⟩
theorem g12 (kV doc pm : Value) (an : Option Addr) (cdv ct : Value) (us : List Value) (hl : us.length = f12.ps.length) : bindArgs (PySem.W.fnOf f12.name f12.qual (L2.defArgs s12) (L2.defBody s12) (L2.defScope s12) .none kV doc pm an cdv ct) ⟨us, []⟩ = pure (f12.ps.zip us) := match us, hl with | [_], _ => rfl
theorem c200 : chkSs t.I b200 f200.N (L2.defScope s200) (L2.defBody s200) = true := by kernel_rfl
theorem e200 : L2.FnScope f200.N f200.ps (L2.defScope s200) := ⟨by kernel_rfl, by kernel_rfl, by kernel_rfl, by decide +kernel, by kernel_rfl, by decide +kernel, by decide +kernel⟩
theorem g200 (kV doc pm : Value) (an : Option Addr) (cdv ct : Value) (us : List Value) (hl : us.length = f200.ps.length) : bindArgs (PySem.W.fnOf f200.name f200.qual (L2.defArgs s200) (L2.defBody s200) (L2.defScope s200) .none kV doc pm an cdv ct) ⟨us, []⟩ = pure (f200.ps.zip us) := match us, hl with | [_, _], _ => rfl
theorem c201 : chkSs t.I b201 f201.N (L2.defScope s201) (L2.defBody s201) = true := by kernel_rfl
theorem e201 : L2.FnScope f201.N f201.ps (L2.defScope s201) := ⟨by kernel_rfl, by kernel_rfl, by kernel_rfl, by decide +kernel, by kernel_rfl, by decide +kernel, by decide +kernel⟩
theorem g201 (kV doc pm : Value) (an : Option Addr) (cdv ct : Value) (us : List Value) (hl : us.length = f201.ps.length) : bindArgs (PySem.W.fnOf f201.name f201.qual (L2.defArgs s201) (L2.defBody s201) (L2.defScope s201) .none kV doc pm an cdv ct) ⟨us, []⟩ = pure (f201.ps.zip us) := match us, hl with | [_, _], _ => rfl
theorem c202 : chkSs t.I b202 f202.N (L2.defScope s202) (L2.defBody s202) = true := by kernel_rfl
theorem e202 : L2.FnScope f202.N f202.ps (L2.defScope s202) := ⟨by kernel_rfl, by kernel_rfl, by kernel_rfl, by decide +kernel, by kernel_rfl, by decide +kernel, by decide +kernel⟩
theorem g202 (kV doc pm : Value) (an : Option Addr) (cdv ct : Value) (us : List Value) (hl : us.length = f202.ps.length) : bindArgs (PySem.W.fnOf f202.name f202.qual (L2.defArgs s202) (L2.defBody s202) (L2.defScope s202) .none kV doc pm an cdv ct) ⟨us, []⟩ = pure (f202.ps.zip us) := match us, hl with | [_], _ => rfl
theorem c203 : chkSs t.I b203 f203.N (L2.defScope s203) (L2.defBody s203) = true := by kernel_rfl
theorem e203 : L2.FnScope f203.N f203.ps (L2.defScope s203) := ⟨by kernel_rfl, by kernel_rfl, by kernel_rfl, by decide +kernel, by kernel_rfl, by decide +kernel, by decide +kernel⟩
theorem g203 (kV doc pm : Value) (an : Option Addr) (cdv ct : Value) (us : List Value) (hl : us.length = f203.ps.length) : bindArgs (PySem.W.fnOf f203.name f203.qual (L2.defArgs s203) (L2.defBody s203) (L2.defScope s203) .none kV doc pm an cdv ct) ⟨us, []⟩ = pure (f203.ps.zip us) := match us, hl with | [_, _, _], _ => rfl
theorem c204 : chkSs t.I b204 f204.N (L2.defScope s204) (L2.defBody s204) = true := by kernel_rfl
theorem e204 : L2.FnScope f204.N f204.ps (L2.defScope s204) := ⟨by kernel_rfl, by kernel_rfl, by kernel_rfl, by decide +kernel, by kernel_rfl, by decide +kernel, by decide +kernel⟩
theorem g204 (kV doc pm : Value) (an : Option Addr) (cdv ct : Value) (us : List Value) (hl : us.length = f204.ps.length) : bindArgs (PySem.W.fnOf f204.name f204.qual (L2.defArgs s204) (L2.defBody s204) (L2.defScope s204) .none kV doc pm an cdv ct) ⟨us, []⟩ = pure (f204.ps.zip us) := match us, hl with | [_, _, _], _ => rfl
theorem c205 : chkSs t.I b205 f205.N (L2.defScope s205) (L2.defBody s205) = true := by kernel_rfl
theorem e205 : L2.FnScope f205.N f205.ps (L2.defScope s205) := ⟨by kernel_rfl, by kernel_rfl, by kernel_rfl, by decide +kernel, by kernel_rfl, by decide +kernel, by decide +kernel⟩
theorem g205 (kV doc pm : Value) (an : Option Addr) (cdv ct : Value) (us : List Value) (hl : us.length = f205.ps.length) : bindArgs (PySem.W.fnOf f205.name f205.qual (L2.defArgs s205) (L2.defBody s205) (L2.defScope s205) .none kV doc pm an cdv ct) ⟨us, []⟩ = pure (f205.ps.zip us) := match us, hl with | [_, _, _, _], _ => rfl
theorem c206 : chkSs t.I b206 f206.N (L2.defScope s206) (L2.defBody s206) = true := by kernel_rfl
theorem e206 : L2.FnScope f206.N f206.ps (L2.defScope s206) := ⟨by kernel_rfl, by kernel_rfl, by kernel_rfl, by decide +kernel, by kernel_rfl, by decide +kernel, by decide +kernel⟩
theorem g206 (kV doc pm : Value) (an : Option Addr) (cdv ct : Value) (us : List Value) (hl : us.length = f206.ps.length) : bindArgs (PySem.W.fnOf f206.name f206.qual (L2.defArgs s206) (L2.defBody s206) (L2.defScope s206) .none kV doc pm an cdv ct) ⟨us, []⟩ = pure (f206.ps.zip us) := match us, hl with | [_], _ => rfl
theorem c207 : chkSs t.I b207 f207.N (L2.defScope s207) (L2.defBody s207) = true := by kernel_rfl
theorem e207 : L2.FnScope f207.N f207.ps (L2.defScope s207) := ⟨by kernel_rfl, by kernel_rfl, by kernel_rfl, by decide +kernel, by kernel_rfl, by decide +kernel, by decide +kernel⟩
theorem g207 (kV doc pm : Value) (an : Option Addr) (cdv ct : Value) (us : List Value) (hl : us.length = f207.ps.length) : bindArgs (PySem.W.fnOf f207.name f207.qual (L2.defArgs s207) (L2.defBody s207) (L2.defScope s207) .none kV doc pm an cdv ct) ⟨us, []⟩ = pure (f207.ps.zip us) := match us, hl with | [_], _ => rfl
theorem c208 : chkSs t.I b208 f208.N (L2.defScope s208) (L2.defBody s208) = true := by kernel_rfl
theorem e208 : L2.FnScope f208.N f208.ps (L2.defScope s208) := ⟨by kernel_rfl, by kernel_rfl, by kernel_rfl, by decide +kernel, by kernel_rfl, by decide +kernel, by decide +kernel⟩
theorem g208 (kV doc pm : Value) (an : Option Addr) (cdv ct : Value) (us : List Value) (hl : us.length = f208.ps.length) : bindArgs (PySem.W.fnOf f208.name f208.qual (L2.defArgs s208) (L2.defBody s208) (L2.defScope s208) .none kV doc pm an cdv ct) ⟨us, []⟩ = pure (f208.ps.zip us) := match us, hl with | [_], _ => rfl
theorem c209 : chkSs t.I b209 f209.N (L2.defScope s209) (L2.defBody s209) = true := by kernel_rfl
theorem e209 : L2.FnScope f209.N f209.ps (L2.defScope s209) := ⟨by kernel_rfl, by kernel_rfl, by kernel_rfl, by decide +kernel, by kernel_rfl, by decide +kernel, by decide +kernel⟩
theorem g209 (kV doc pm : Value) (an : Option Addr) (cdv ct : Value) (us : List Value) (hl : us.length = f209.ps.length) : bindArgs (PySem.W.fnOf f209.name f209.qual (L2.defArgs s209) (L2.defBody s209) (L2.defScope s209) .none kV doc pm an cdv ct) ⟨us, []⟩ = pure (f209.ps.zip us) := match us, hl with | [_, _], _ => rfl
theorem c210 : chkSs t.I b210 f210.N (L2.defScope s210) (L2.defBody s210) = true := by kernel_rfl
theorem e210 : L2.FnScope f210.N f210.ps (L2.defScope s210) := ⟨by kernel_rfl, by kernel_rfl, by kernel_rfl, by decide +kernel, by kernel_rfl, by decide +kernel, by decide +kernel⟩
theorem g210 (kV doc pm : Value) (an : Option Addr) (cdv ct : Value) (us : List Value) (hl : us.length = f210.ps.length) : bindArgs (PySem.W.fnOf f210.name f210.qual (L2.defArgs s210) (L2.defBody s210) (L2.defScope s210) .none kV doc pm an cdv ct) ⟨us, []⟩ = pure (f210.ps.zip us) := match us, hl with | [_, _, _], _ => rfl
theorem c211 : chkSs t.I b211 f211.N (L2.defScope s211) (L2.defBody s211) = true := by kernel_rfl
theorem e211 : L2.FnScope f211.N f211.ps (L2.defScope s211) := ⟨by kernel_rfl, by kernel_rfl, by kernel_rfl, by decide +kernel, by kernel_rfl, by decide +kernel, by decide +kernel⟩
theorem g211 (kV doc pm : Value) (an : Option Addr) (cdv ct : Value) (us : List Value) (hl : us.length = f211.ps.length) : bindArgs (PySem.W.fnOf f211.name f211.qual (L2.defArgs s211) (L2.defBody s211) (L2.defScope s211) .none kV doc pm an cdv ct) ⟨us, []⟩ = pure (f211.ps.zip us) := match us, hl with | [_, _, _], _ => rfl
theorem c212 : chkSs t.I b212 f212.N (L2.defScope s212) (L2.defBody s212) = true := by kernel_rfl
theorem e212 : L2.FnScope f212.N f212.ps (L2.defScope s212) := ⟨by kernel_rfl, by kernel_rfl, by kernel_rfl, by decide +kernel, by kernel_rfl, by decide +kernel, by decide +kernel⟩
theorem g212 (kV doc pm : Value) (an : Option Addr) (cdv ct : Value) (us : List Value) (hl : us.length = f212.ps.length) : bindArgs (PySem.W.fnOf f212.name f212.qual (L2.defArgs s212) (L2.defBody s212) (L2.defScope s212) .none kV doc pm an cdv ct) ⟨us, []⟩ = pure (f212.ps.zip us) := match us, hl with | [_, _], _ => rfl
theorem c324 : chkSs { t.I with rep := true } b324 f324.N (L2.defScope s324) (L2.defBody s324) = true := by kernel_rfl
theorem e324 : L2.FnScope f324.N f324.ps (L2.defScope s324) := ⟨by kernel_rfl, by kernel_rfl, by kernel_rfl, by decide +kernel, by kernel_rfl, by decide +kernel, by decide +kernel⟩
theorem g324 (kV doc pm : Value) (an : Option Addr) (cdv ct : Value) (us : List Value) (hl : us.length = f324.ps.length) : bindArgs (PySem.W.fnOf f324.name f324.qual (L2.defArgs s324) (L2.defBody s324) (L2.defScope s324) .none kV doc pm an cdv ct) ⟨us, []⟩ = pure (f324.ps.zip us) := match us, hl with | [_], _ => rfl
theorem oks : ∀ d ∈ t.defs, DfOk t d.2 := by
  intro d hd
  simp only [t, List.mem_cons, List.not_mem_nil, or_false] at hd
  rcases hd with rfl | rfl | rfl | rfl | rfl | rfl | rfl | rfl | rfl | rfl | rfl | rfl | rfl | rfl | rfl | rfl | rfl | rfl | rfl | rfl | rfl | rfl | rfl | rfl
  · exact ⟨e1, g1, c1⟩
  · exact ⟨e2, g2, c2⟩
  · exact ⟨e3, g3, c3⟩
  · exact ⟨e4, g4, c4⟩
  · exact ⟨e5, g5, c5⟩
  · exact ⟨e6, g6, c6⟩
  · exact ⟨e7, g7, c7⟩
  · exact ⟨e8, g8, c8⟩
  · exact ⟨e9, g9, c9⟩
  · exact ⟨e10, g10, c10⟩
  · exact ⟨e12, g12, c12⟩
  · exact ⟨e200, g200, c200⟩
  · exact ⟨e201, g201, c201⟩
  · exact ⟨e202, g202, c202⟩
  · exact ⟨e203, g203, c203⟩
  · exact ⟨e204, g204, c204⟩
  · exact ⟨e205, g205, c205⟩
  · exact ⟨e206, g206, c206⟩
  · exact ⟨e207, g207, c207⟩
  · exact ⟨e208, g208, c208⟩
  · exact ⟨e209, g209, c209⟩
  · exact ⟨e210, g210, c210⟩
  · exact ⟨e211, g211, c211⟩
  · exact ⟨e212, g212, c212⟩
theorem tc : t.clsB = true := by kernel_rfl
end K04
end
section
set_option Elab.async false
set_option linter.all false
set_option maxRecDepth 100000
set_option maxHeartbeats 0
namespace K04
open PySem PySem.W PySem.Calls PyProof.Rows Ev
abbrev R : OpenRow := OpenLaw.row PySem.Challenge.rw_scopetables_k04_mentions_in_order
abbrev fn : List He.DefD := t.defs.map (fun d => d.2.he) ++ [f324.he]
abbrev hk : PySem.W.Hook := hookX 6 t.fa fn t.dks
def ob (s : PySem.W.SharedT) : hk.α := obsX 6 t.fa fn t.dks (HandSHeadRun.getT s)
theorem ob_eq (s : PySem.W.SharedT) : ob s = hk.obs s.abs := obsX_eq (HandSHeadRun.getT_eq s)
def loose : List PySem.Str := ["MODULE", "FUNCTION", "CLASS", "LAMBDA", "LIST", "READ", "WRITE", "DELETE", "GLOBAL", "NONLOCAL", "PARAMETER", "ROLES", "Scan", "mentions", "_law_bag", "_law_take", "_law_scan", "_law_block", "_law_scan_rows", "_law_scan_expr", "_law_rows_in", "_law_small", "_law_name", "_law_wild_expr", "_law_wild_row", "_law_wild_rows", "_law_wild"]
theorem run (w : World) : HandSHeadRun.RunEq R (PySem.W.view R.prog [29]) hk ob 4000 loose w :=
  PySem.W.byRow2 "special-get-raises" (P := fun w => HandSHeadRun.RunEq R (PySem.W.view R.prog [29]) hk ob 4000 loose w) (fun w => by intro os; kernel_rfl) (fun w => by intro os; kernel_rfl) w
theorem room : L2.Room 82 callerA := ⟨rfl, by decide, by decide +kernel⟩
theorem head (hev : ∀ ns : List Int, ns.length ≤ 63 → ∃ h', t.law b324 (f324.N.length - 1) 80 [scr ns] .nil = some (.bl true, h')) : PySem.Challenge.rw_scopetables_k04_mentions_in_order.Holds := by
  w_on; o_law
  refine HandSHeadRun.head_any (r := OpenLaw.row PySem.Challenge.rw_scopetables_k04_mentions_in_order) (q := view (OpenLaw.row PySem.Challenge.rw_scopetables_k04_mentions_in_order).prog [29]) (H := hk) (ob := ob) (M := 4000) (loose := loose) (d := HandSHeadRun.topDef (OpenLaw.row PySem.Challenge.rw_scopetables_k04_mentions_in_order).prog 29) (kwd := []) ob_eq
    (by kernel_rfl) (fun s => by kernel_rfl) run (by kernel_rfl) (by kernel_rfl) (by kernel_rfl) (by rfl) (by first | assumption | decide +kernel) (by decide +kernel) ⟨rfl, rfl, rfl, rfl, rfl, by decide +kernel⟩ ?hw ?hc
  case hw => w_witness2
  case hc => exact law_walk (l := PySem.Challenge.rw_scopetables_k04_mentions_in_order) (n := 63) (dp := 80) (x := "_law_script") t f324 rfl (by rw [sizeLine_eq]; decide) (by kernel_rfl) room tc oks rfl rfl (by kernel_rfl) e324 c324 g324 hev
end K04
end
section
set_option Elab.async false
set_option linter.all false
set_option maxRecDepth 100000
set_option maxHeartbeats 4000000
namespace K04
open PySem (Str)
open Ev Sy
open Ev (E Es Ks C Cs T Ts S Ss)
theorem HS : HasScan t.P := ⟨rfl, rfl, rfl, rfl, rfl, rfl, rfl, rfl, rfl, rfl, rfl, rfl⟩
theorem HL : HasLs t.P := ⟨rfl, rfl, rfl, rfl, rfl⟩
theorem HR : HasRi t.P := ⟨rfl⟩
theorem HW : HasWild t.P := ⟨⟨rfl, rfl⟩, rfl, rfl, rfl, rfl⟩
theorem hB : t.P.fns 12 = some ⟨1, 1, B12⟩ := rfl
def tB : Ss := (.cons (.asg (.var 6) (.call .sh 212 (.cons (.var 4) (.cons (.int 3) .nil))))
    (.cons (.par 8 9 (.blt .repr true (.cons (.var 6) .nil)) (.call .iso 202 (.cons (.var 6) .nil)))
    (.cons (.asg (.var 7) (.call .liv 12 (.cons (.var 6) .nil)))
    (.cons (.iff (.of (.cmp .ne (.blt .repr true (.cons (.var 7) .nil)) (.blt .repr true (.cons (.comp true [10] (.sl true (.var 10) .nil (.cons (.int 3) .nil)) (.var 10) (.of (.idx (.var 9) (.str "mentions"))) .nil) .nil)))) (.cons (.ret (.bl false))
    .nil) .nil)
    (.cons (.exp (.bm .append (.var 7) (.cons .non .nil)))
    (.cons (.iff (.or (.cons (.of (.cmp .ne (.blt .repr true (.cons (.call .iso 12 (.cons (.var 6) .nil)) .nil)) (.blt .repr true (.cons (.sl true (.var 7) .nil (.cons (.neg (.int 1)) .nil)) .nil)))) (.cons (.of (.cmp .ne (.blt .repr true (.cons (.var 6) .nil)) (.var 8))) .nil))) (.cons (.ret (.bl false))
    .nil) .nil)
    .nil))))))
def oB : Ss := .cons (.asg (.var 4) (.call .liv 200 (.cons (.var 0) (.cons (.var 1) .nil)))) (.cons (.for_ (.var 5) (.rng (.cons (.int 8) .nil)) tB) .nil)
theorem cmp_o {c1 c2 : Fs} (s : Sc) {x0 x1 x2 x3 x4 x5 x6 x7 x8 : Option D} : ∀ (l : List Mn) (h : Mm), cmpL (fun h => stay h none) (turnL (asg t.P c1 c2 (.var 10)) (evAll t.P c1 c2 .nil) (evE t.P c1 c2 (.sl true (.var 10) .nil (.cons (.int 3) .nil))) [x0, x1, x2, x3, x4, x5, x6, x7, x8, some (fD s), none]) (l.map m5) h = some (l.map m3, h)
  | [], h => rfl
  | x :: r, h => by
    have ih := cmp_o (c1 := c1) (c2 := c2) s (x0 := x0) (x1 := x1) (x2 := x2) (x3 := x3) (x4 := x4) (x5 := x5) (x6 := x6) (x7 := x7) (x8 := x8) r h
    have one : turnL (asg t.P c1 c2 (.var 10)) (evAll t.P c1 c2 .nil) (evE t.P c1 c2 (.sl true (.var 10) .nil (.cons (.int 3) .nil))) [x0, x1, x2, x3, x4, x5, x6, x7, x8, some (fD s), none] (m5 x) h = some (some (m3 x), h) := by
      simp [turnL, evSs, s_asg, s_par, s_aug, s_augS, s_exp, s_ret, s_retN, s_iff, s_pass, s_brk, s_cnt, e_var, e_non, e_bl, e_int, e_str, e_glo, e_bin, e_neg, e_cmp, e_and, e_or, e_ite, e_tup, e_lst, e_dic, e_idx, e_sl, e_call, e_blt, e_bm, e_isi, evT, evEs, evP, evKV, evAll, evAny, evAnd, evOr, asg, asgs, getE, setE, noneL, m5, slD, cut, sIx, m3]
    exact cmp_some rfl one ih

theorem comp_o {c1 c2 : Fs} (l : Rws) (hz : l.z + 1 ≤ 1000000) {x0 x1 x2 x3 x4 x5 x6 x7 x8 x9 : Option D} (h : Mm) : evE t.P c1 c2 (.comp true [10] (.sl true (.var 10) .nil (.cons (.int 3) .nil)) (.var 10) (.of (.idx (.var 9) (.str "mentions"))) .nil) [x0, x1, x2, x3, x4, x5, x6, x7, x8, some (fD l.scan), x9] h = some (.lst (l.scan.ms.map m3), h) := by
  have hb : l.scan.bs.length ≤ 1000000 ∧ l.scan.ms.length ≤ 1000000 := by have := (scan_kp l).z; rw [sc0_sz] at this; unfold Sc.sz at this; omega
  refine comp_run (xs := (l.scan.ms.map m5)) (w := none) ?_ (cmp_o l.scan l.scan.ms h) (by simp; omega)
  simp [i_of, evSs, s_asg, s_par, s_aug, s_augS, s_exp, s_ret, s_retN, s_iff, s_pass, s_brk, s_cnt, e_var, e_non, e_bl, e_int, e_str, e_glo, e_bin, e_neg, e_cmp, e_and, e_or, e_ite, e_tup, e_lst, e_dic, e_idx, e_sl, e_call, e_blt, e_bm, e_isi, evT, evEs, evP, evKV, evAll, evAny, evAnd, evOr, asg, asgs, getE, setE, noneL, fD_m, walkOf]
def In (ns : List Int) (n : Nat) (env : Ev.Env) (h : Mm) : Prop := Bag n h ∧ ∃ o1 o2 o3 o5 o6 o7 o8 o9 o10 : Option D, env = [some (scrD ns), o1, o2, o3, some (.ref n), o5, o6, o7, o8, o9, o10]
theorem turn_b (ns : List Int) (n : Nat) (x : D) (env : Ev.Env) (h : Mm) (i : In ns n env h) : ∃ env' h', turnG (asg t.P (call t.P 80) (calls t.P 80).2 (.var 5)) (evSs t.P (call t.P 80) (calls t.P 80).2 tB) x env h = some (.nx, env', h') ∧ In ns n env' h' := by
  obtain ⟨b, o1, o2, o3, o5, o6, o7, o8, o9, o10, rfl⟩ := i
  obtain ⟨l, h1, e1, b1, k1, w⟩ := wild_b HW HL HR rfl rfl 3 63 (by decide) b
  have y3 : yB 3 = 1200 := rfl
  have wz := w.z
  have wd := w.dp
  rw [y3] at wz
  obtain ⟨sm1, sm2⟩ := w.sm
  have hz : l.z + 1 ≤ 1000000 := by omega
  obtain ⟨p1, p2, p3⟩ := Rws.good l w.ok
  obtain ⟨q1, q2, q3⟩ := m3s_good l w.ok hz
  have mm : most = 16777216 := rfl
  have lz : swL (l.scan.ms.map m3) ≤ 70 * 561 := by
    refine Nat.le_trans q3 (Nat.mul_le_mul (by omega) (by omega))
  have ok1 : okD (.tup l.l) = true := by simpa [okD] using p1
  have ok2 : okD (.lst (l.scan.ms.map m3)) = true := by simpa [okD] using q1
  have r1 : ∀ h, bltD .repr true [.tup l.l] h = some (.str (toPy (.tup l.l)).shown, h) := fun h => repr_ok (.inl rfl) ok1 (by simp only [dpD]; omega) (by simp only [swD]; omega)
  have r2 : ∀ h, bltD .repr true [.lst (l.scan.ms.map m3)] h = some (.str (toPy (.lst (l.scan.ms.map m3))).shown, h) := fun h => repr_ok (.inr rfl) ok2 (by simp only [dpD]; omega) (by simp only [swD]; omega)
  have s1 := lscan_iso HL l 80 (by omega) (by omega) hz h1
  have v1 := mentions_liv HS hB l 80 (by omega) (by omega) hz h1
  have m0 : (h1.new (.lst (l.scan.ms.map m3))).1 = .ref h1.nx := rfl
  have g2 : (h1.new (.lst (l.scan.ms.map m3))).2.get h1.nx = some (.lst (l.scan.ms.map m3)) := by rw [gnew, if_pos rfl]
  have r3 : bltD .repr true [.ref h1.nx] (h1.new (.lst (l.scan.ms.map m3))).2 = some (.str (toPy (.lst (l.scan.ms.map m3))).shown, (h1.new (.lst (l.scan.ms.map m3))).2) := repr_ref g2 q1 (by omega) (by omega)
  have hb : (l.scan.ms.map m3).length ≤ 1000000 := by simp; omega
  have ta : bmTy .append (.ref h1.nx) (h1.new (.lst (l.scan.ms.map m3))).2 = true := by simp only [bmTy, g2]
  have ap : bmD .append (.ref h1.nx) [.non] (h1.new (.lst (l.scan.ms.map m3))).2 = some (.non, (h1.new (.lst (l.scan.ms.map m3))).2.set h1.nx (.lst ((l.scan.ms.map m3) ++ [.non]))) := by
    have hb2 : Nat.ble ((l.scan.ms.map m3).length + 1) most = true := ble_m (by simp; omega)
    simp only [bmD, g2, hb2, cond_true]
  have g3 : ((h1.new (.lst (l.scan.ms.map m3))).2.set h1.nx (.lst ((l.scan.ms.map m3) ++ [.non]))).get h1.nx = some (.lst ((l.scan.ms.map m3) ++ [.non])) := get_set_same g2
  have sl : slD true (.ref h1.nx) none (some (-1)) ((h1.new (.lst (l.scan.ms.map m3))).2.set h1.nx (.lst ((l.scan.ms.map m3) ++ [.non]))) = some (.lst (l.scan.ms.map m3), (h1.new (.lst (l.scan.ms.map m3))).2.set h1.nx (.lst ((l.scan.ms.map m3) ++ [.non]))) := by
    simp only [slD, Ev.listOf, g3, cut_d, List.dropLast_concat, mkO, cond_true, O.d]
  have v2 := mentions_iso HS hB l 80 (by omega) (by omega) hz ((h1.new (.lst (l.scan.ms.map m3))).2.set h1.nx (.lst ((l.scan.ms.map m3) ++ [.non])))
  have cc := fun (x0 x1 x2 x3 x4 x5 x6 x7 x8 x9 : Option D) => comp_o (c1 := call t.P 80) (c2 := (calls t.P 80).2) l hz (x0 := x0) (x1 := x1) (x2 := x2) (x3 := x3) (x4 := x4) (x5 := x5) (x6 := x6) (x7 := x7) (x8 := x8) (x9 := x9) (h1.new (.lst (l.scan.ms.map m3))).2
  have fin : Bag n ((h1.new (.lst (l.scan.ms.map m3))).2.set h1.nx (.lst ((l.scan.ms.map m3) ++ [.non]))) := by
    obtain ⟨z1, L, M, z2, z3⟩ := b1.new (o := .lst (l.scan.ms.map m3))
    exact ⟨z1, L, M, by rw [gset, if_neg (by have := b1.1; omega)]; exact z2, z3⟩
  generalize (h1.new (.lst (l.scan.ms.map m3))).2.set h1.nx (.lst ((l.scan.ms.map m3) ++ [.non])) = h3 at *
  have vv : h1.new (.lst (l.scan.ms.map m3)) = (.ref h1.nx, (h1.new (.lst (l.scan.ms.map m3))).2) := rfl
  rw [vv] at v1
  generalize (h1.new (.lst (l.scan.ms.map m3))).2 = h2 at *
  generalize (l.scan.ms.map m3) = LV at *
  refine ⟨_, h3, ?_, fin, o1, o2, o3, some x, some (.tup l.l), some (.ref h1.nx), some (.str (toPy (.tup l.l)).shown), some (fD l.scan), o10, rfl⟩
  have ci : ((3 : Nat) : Int) = 3 := rfl
  rw [ci] at e1
  simp [turnG, tB, evSs, s_asg, s_par, s_aug, s_augS, s_exp, s_ret, s_retN, s_iff, s_pass, s_brk, s_cnt, e_var, e_non, e_bl, e_int, e_str, e_glo, e_bin, e_neg, e_cmp, e_and, e_or, e_ite, e_tup, e_lst, e_dic, e_idx, e_sl, e_call, e_blt, e_bm, e_isi, evT, evEs, evP, evKV, evAll, evAny, evAnd, evOr, asg, asgs, getE, setE, noneL, tb2, run_sh, e1, r1, s1, v1, r3, cc, r2, cmpD, eqM, scl2, scl, eqD, tru, ta, ap, v2, sl]
def l0 : Rws := .cons (.doo (.lst (.nam "a") (.cons "b" (.nam "c") (.cons "d" (.wal "e" (.nam "f")) .nil)))) .nil
theorem last_e (h : Mm) : runM .iso (call t.P 80 12) [.tup l0.l] h = some (.lst (l0.scan.ms.map m3), h) := mentions_iso HS hB l0 80 (by decide) (by decide) (by decide) h
def Out (ns : List Int) (env : Ev.Env) (h : Mm) : Prop := ∃ o1 o2 o3 o4 o5 o6 o7 o8 o9 o10 : Option D, env = [some (scrD ns), o1, o2, o3, o4, o5, o6, o7, o8, o9, o10]
theorem turn_o (ns : List Int) (k : Nat) (hk : k < 6) (env : Ev.Env) (h : Mm) (i : Out ns env h) : ∃ env' h', turnG (asg t.P (call t.P 80) (calls t.P 80).2 (.var 1)) (evSs t.P (call t.P 80) (calls t.P 80).2 oB) (.int (0 + (k : Int))) env h = some (.nx, env', h') ∧ Out ns env' h' := by
  obtain ⟨o1, o2, o3, o4, o5, o6, o7, o8, o9, o10, rfl⟩ := i
  obtain ⟨L, M, e, hL, hM⟩ := bag_b HW.toHasBag 79 ns k hk h
  have b : Bag h.nx (h.new (.lst [.int L, .int M])).2 := ⟨Nat.lt_succ_self _, L, M, by rw [gnew, if_pos rfl], hL, hM⟩
  have vv : h.new (.lst [.int L, .int M]) = (.ref h.nx, (h.new (.lst [.int L, .int M])).2) := rfl
  rw [vv] at e
  have z : (0 : Int) + (k : Int) = (k : Int) := by omega
  rw [z]
  obtain ⟨env', h', q, _, p1, p2, p3, p5, p6, p7, p8, p9, p10, rfl⟩ := for_inv (st := fun h => stay h none) (turn := turnG (asg t.P (call t.P 80) (calls t.P 80).2 (.var 5)) (evSs t.P (call t.P 80) (calls t.P 80).2 tB)) (I := In ns h.nx) (rngL 8 0 1) (fun _ => rfl) (fun x _ env h2 i => turn_b ns h.nx x env h2 i)
    [some (scrD ns), some (.int (k : Int)), o2, o3, some (.ref h.nx), o5, o6, o7, o8, o9, o10] _ ⟨b, _, _, _, _, _, _, _, _, _, rfl⟩
  refine ⟨_, h', ?_, p1, p2, p3, some (.ref h.nx), p5, p6, p7, p8, p9, p10, rfl⟩
  have e2 : evS t.P (call t.P 80) (calls t.P 80).2 (.for_ (.var 5) (.rng (.cons (.int 8) .nil)) tB) [some (scrD ns), some (.int (k : Int)), o2, o3, some (.ref h.nx), o5, o6, o7, o8, o9, o10] (h.new (.lst [.int L, .int M])).2 = some (.nx, [some (scrD ns), p1, p2, p3, some (.ref h.nx), p5, p6, p7, p8, p9, p10], h') := by
    rw [s_for]
    exact q
  simp [turnG, oB, evSs, s_asg, s_par, s_aug, s_augS, s_exp, s_ret, s_retN, s_iff, s_pass, s_brk, s_cnt, e_var, e_non, e_bl, e_int, e_str, e_glo, e_bin, e_neg, e_cmp, e_and, e_or, e_ite, e_tup, e_lst, e_dic, e_idx, e_sl, e_call, e_blt, e_bm, e_isi, evT, evEs, evP, evKV, evAll, evAny, evAnd, evOr, asg, asgs, getE, setE, noneL, e, e2]
theorem hev (ns : List Int) (hn : ns.length ≤ 63) : ∃ h', t.law b324 (f324.N.length - 1) 80 [scr ns] .nil = some (.bl true, h') := by
  have hr : ∀ x ∈ rngL (max 2 (min 6 ns.length)) 0 1, ∀ env h, Out ns env h → ∃ env' h', turnG (asg t.P (call t.P 80) (calls t.P 80).2 (.var 1)) (evSs t.P (call t.P 80) (calls t.P 80).2 oB) x env h = some (.nx, env', h') ∧ Out ns env' h' := fun x hx env h i => by
    obtain ⟨k, hk, rfl⟩ := rngL_mem _ _ _ hx
    exact turn_o ns k (by omega) env h i
  obtain ⟨env', h', q, p1, p2, p3, p4, p5, p6, p7, p8, p9, p10, rfl⟩ := for_inv (st := fun h => stay h none) _ (fun _ => rfl) hr [some (scrD ns), none, none, none, none, none, none, none, none, none, none] .nil ⟨_, _, _, _, _, _, _, _, _, _, rfl⟩
  have e2 : evS t.P (call t.P 80) (calls t.P 80).2 (.for_ (.var 1) (.rng (.cons (.blt .max2 true (.cons (.int 2) (.cons (.blt .min2 true (.cons (.int 6) (.cons (.blt .len true (.cons (.var 0) .nil)) .nil))) .nil))) .nil)) oB) [some (scrD ns), none, none, none, none, none, none, none, none, none, none] .nil = some (.nx, [some (scrD ns), p1, p2, p3, p4, p5, p6, p7, p8, p9, p10], h') := by
    rw [s_for]
    have ei : evI t.P (call t.P 80) (calls t.P 80).2 (.rng (.cons (.blt .max2 true (.cons (.int 2) (.cons (.blt .min2 true (.cons (.int 6) (.cons (.blt .len true (.cons (.var 0) .nil)) .nil))) .nil))) .nil)) [some (scrD ns), none, none, none, none, none, none, none, none, none, none] .nil = some (rngL (max 2 (min 6 ns.length)) 0 1, none, .nil) := by
      have hm : ∃ m : Nat, m < 1000 ∧ (if (2 : Int) < (if (ns.length : Int) < 6 then (ns.length : Int) else 6) then (if (ns.length : Int) < 6 then (ns.length : Int) else 6) else 2) = (m : Int) ∧ m = max 2 (min 6 ns.length) := ⟨max 2 (min 6 ns.length), by omega, by split <;> split <;> omega, rfl⟩
      obtain ⟨m, m1, m2, m3⟩ := hm
      have he : evEs t.P (call t.P 80) (calls t.P 80).2 (.cons (.blt .max2 true (.cons (.int 2) (.cons (.blt .min2 true (.cons (.int 6) (.cons (.blt .len true (.cons (.var 0) .nil)) .nil))) .nil))) .nil) [some (scrD ns), none, none, none, none, none, none, none, none, none, none] .nil = some ([.int (m : Int)], .nil) := by
        simp [evSs, s_asg, s_par, s_aug, s_augS, s_exp, s_ret, s_retN, s_iff, s_pass, s_brk, s_cnt, e_var, e_non, e_bl, e_int, e_str, e_glo, e_bin, e_neg, e_cmp, e_and, e_or, e_ite, e_tup, e_lst, e_dic, e_idx, e_sl, e_call, e_blt, e_bm, e_isi, evT, evEs, evP, evKV, evAll, evAny, evAnd, evOr, asg, asgs, getE, setE, noneL, bltD, scrD, seqOf, m2]
      rw [rng_i he (b62 m1), Int.toNat_natCast, m3]
    rw [ei]
    exact q
  have le := last_e h'
  have ls : l0.scan.ms.map m3 = [.tup [.tup [.int 0], .str "a", .str "read"], .tup [.tup [.int 0], .str "b", .str "write"], .tup [.tup [], .str "c", .str "read"], .tup [.tup [.int 0], .str "d", .str "write"], .tup [.tup [.int 0], .str "e", .str "write"], .tup [.tup [.int 0], .str "f", .str "read"]] := by kernel_rfl
  have lx : D.tup l0.l = .tup [.tup [.str "do", .tup [.str "list", .tup [.str "name", .str "a"], .tup [.tup [.str "b", .tup [.str "name", .str "c"]], .tup [.str "d", .tup [.str "walrus", .str "e", .tup [.str "name", .str "f"]]]]]]] := rfl
  rw [ls, lx] at le
  have ce : cmpD .eq (.lst [.tup [.tup [.int 0], .str "a", .str "read"], .tup [.tup [.int 0], .str "b", .str "write"], .tup [.tup [], .str "c", .str "read"], .tup [.tup [.int 0], .str "d", .str "write"], .tup [.tup [.int 0], .str "e", .str "write"], .tup [.tup [.int 0], .str "f", .str "read"]]) (.lst [.tup [.tup [.int 0], .str "a", .str "read"], .tup [.tup [.int 0], .str "b", .str "write"], .tup [.tup [], .str "c", .str "read"], .tup [.tup [.int 0], .str "d", .str "write"], .tup [.tup [.int 0], .str "e", .str "write"], .tup [.tup [.int 0], .str "f", .str "read"]]) h' = some true := by kernel_rfl
  have ha : ∀ h, binD .add true (.lst [.tup [.tup [.int 0], .str "a", .str "read"], .tup [.tup [.int 0], .str "b", .str "write"], .tup [.tup [], .str "c", .str "read"], .tup [.tup [.int 0], .str "d", .str "write"], .tup [.tup [.int 0], .str "e", .str "write"]]) (.lst [.tup [.tup [.int 0], .str "f", .str "read"]]) h = some (.lst [.tup [.tup [.int 0], .str "a", .str "read"], .tup [.tup [.int 0], .str "b", .str "write"], .tup [.tup [], .str "c", .str "read"], .tup [.tup [.int 0], .str "d", .str "write"], .tup [.tup [.int 0], .str "e", .str "write"], .tup [.tup [.int 0], .str "f", .str "read"]], h) := fun h => by kernel_rfl
  refine ⟨h', ?_⟩
  have sp : [scr ns].map some ++ noneL (f324.N.length - 1) = [some (scrD ns), none, none, none, none, none, none, none, none, none, none] := rfl
  unfold Tab.law
  rw [sp]
  have e3 : evSs t.P (call t.P 80) (calls t.P 80).2 b324 [some (scrD ns), none, none, none, none, none, none, none, none, none, none] .nil = evSs t.P (call t.P 80) (calls t.P 80).2 (.cons (.asg (.var 2) (.tup (.cons (.str "list") (.cons (.tup (.cons (.str "name") (.cons (.str "a") .nil))) (.cons (.tup (.cons (.tup (.cons (.str "b") (.cons (.tup (.cons (.str "name") (.cons (.str "c") .nil))) .nil))) (.cons (.tup (.cons (.str "d") (.cons (.tup (.cons (.str "walrus") (.cons (.str "e") (.cons (.tup (.cons (.str "name") (.cons (.str "f") .nil))) .nil)))) .nil))) .nil))) .nil)))))
    (.cons (.asg (.var 3) (.lst true (.cons (.tup (.cons (.tup (.cons (.int 0) .nil)) (.cons (.str "a") (.cons (.str "read") .nil)))) (.cons (.tup (.cons (.tup (.cons (.int 0) .nil)) (.cons (.str "b") (.cons (.str "write") .nil)))) (.cons (.tup (.cons (.tup .nil) (.cons (.str "c") (.cons (.str "read") .nil)))) (.cons (.tup (.cons (.tup (.cons (.int 0) .nil)) (.cons (.str "d") (.cons (.str "write") .nil)))) (.cons (.tup (.cons (.tup (.cons (.int 0) .nil)) (.cons (.str "e") (.cons (.str "write") .nil)))) .nil)))))))
    (.cons (.ret (.cmp .eq (.call .iso 12 (.cons (.tup (.cons (.tup (.cons (.str "do") (.cons (.var 2) .nil))) .nil)) .nil)) (.bin .add true (.var 3) (.lst true (.cons (.tup (.cons (.tup (.cons (.int 0) .nil)) (.cons (.str "f") (.cons (.str "read") .nil)))) .nil)))))
    .nil))) [some (scrD ns), p1, p2, p3, p4, p5, p6, p7, p8, p9, p10] h' := by
    show (match evS t.P (call t.P 80) (calls t.P 80).2 (.for_ (.var 1) (.rng (.cons (.blt .max2 true (.cons (.int 2) (.cons (.blt .min2 true (.cons (.int 6) (.cons (.blt .len true (.cons (.var 0) .nil)) .nil))) .nil))) .nil)) oB) [some (scrD ns), none, none, none, none, none, none, none, none, none, none] .nil with
      | some (.nx, env1, h1) => evSs t.P (call t.P 80) (calls t.P 80).2 (.cons (.asg (.var 2) (.tup (.cons (.str "list") (.cons (.tup (.cons (.str "name") (.cons (.str "a") .nil))) (.cons (.tup (.cons (.tup (.cons (.str "b") (.cons (.tup (.cons (.str "name") (.cons (.str "c") .nil))) .nil))) (.cons (.tup (.cons (.str "d") (.cons (.tup (.cons (.str "walrus") (.cons (.str "e") (.cons (.tup (.cons (.str "name") (.cons (.str "f") .nil))) .nil)))) .nil))) .nil))) .nil)))))
    (.cons (.asg (.var 3) (.lst true (.cons (.tup (.cons (.tup (.cons (.int 0) .nil)) (.cons (.str "a") (.cons (.str "read") .nil)))) (.cons (.tup (.cons (.tup (.cons (.int 0) .nil)) (.cons (.str "b") (.cons (.str "write") .nil)))) (.cons (.tup (.cons (.tup .nil) (.cons (.str "c") (.cons (.str "read") .nil)))) (.cons (.tup (.cons (.tup (.cons (.int 0) .nil)) (.cons (.str "d") (.cons (.str "write") .nil)))) (.cons (.tup (.cons (.tup (.cons (.int 0) .nil)) (.cons (.str "e") (.cons (.str "write") .nil)))) .nil)))))))
    (.cons (.ret (.cmp .eq (.call .iso 12 (.cons (.tup (.cons (.tup (.cons (.str "do") (.cons (.var 2) .nil))) .nil)) .nil)) (.bin .add true (.var 3) (.lst true (.cons (.tup (.cons (.tup (.cons (.int 0) .nil)) (.cons (.str "f") (.cons (.str "read") .nil)))) .nil)))))
    .nil))) env1 h1
      | some (.bk, env1, h1) => some (.bk, env1, h1)
      | some (.ct, env1, h1) => some (.ct, env1, h1)
      | some (.rt d, env1, h1) => some (.rt d, env1, h1)
      | none => none) = _
    rw [e2]
  rw [e3]
  simp [evSs, s_asg, s_par, s_aug, s_augS, s_exp, s_ret, s_retN, s_iff, s_pass, s_brk, s_cnt, e_var, e_non, e_bl, e_int, e_str, e_glo, e_bin, e_neg, e_cmp, e_and, e_or, e_ite, e_tup, e_lst, e_dic, e_idx, e_sl, e_call, e_blt, e_bm, e_isi, evT, evEs, evP, evKV, evAll, evAny, evAnd, evOr, asg, asgs, getE, setE, noneL, le, ce, tb0, tb1, tb2, tb3, tb4, tb5, mkO, O.d, ha]
end K04
theorem PySem.Challenge.cw_scopetables_k04_mentions_in_order_holds : PySem.Challenge.rw_scopetables_k04_mentions_in_order.Holds := by
  exact K04.head K04.hev
end
